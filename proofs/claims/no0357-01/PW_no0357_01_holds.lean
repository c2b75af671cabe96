import PyProof.Rows.All
import Wide.All
import OpenK.AllK
import Wide.FinOn
import PySem.Challenge.RW_no0357_01
set_option Elab.async false
set_option maxRecDepth 100000
set_option maxHeartbeats 8000000
open PySem PySem.W PySem.Calls PyProof.Rows
namespace Mine
/-! A logic of the stack: as wpAny, but over the stacks alone on which no built-in holds a bytearray's memory. -/
noncomputable def badIds : List String := Builtin.Bytes.decodersThatHold ++ ["bytearray.__contains__", "bytearray.__mod__", "bytearray.__rmod__", "_struct.pack_into.held", "bytearray.find.held"]
noncomputable def okC : Code → Bool
  | .builtin id _ => !badIds.contains id
  | _ => true
def okB (l : List (Code × Pos)) : Prop := ∀ x ∈ l, okC x.1 = true
def okX (Γ : Ctx) : Prop := okC Γ.code = true ∧ okB Γ.below

def wpS {α : Type} (M : Model) (A : Around) (t : Sem α) (Q : α → Shared → Prop) (E : Value → Shared → Prop) (s : Shared) : Prop :=
  ∀ Γ p, okX Γ → Γ.In A → Sem.wp M Γ t (fun a _ s' => Q a s') (fun e _ s' => E e s') p s
def codeS (M : Model) (A : Around) (c : Code) (R : Result → Shared → Prop) (s : Shared) : Prop :=
  ∀ Γ p, Γ.code = c → okB Γ.below → Γ.Below A → wpCode M Γ R p s

section
variable {α β : Type} {M : Model} {A : Around} {E : Value → Shared → Prop} {s : Shared}
theorem ofAny {t : Sem α} {Q : α → Shared → Prop} (h : wpAny M A t Q E s) : wpS M A t Q E s := fun Γ p _ hΓ => h Γ p hΓ
theorem codeS_ofAny {c : Code} {R : Result → Shared → Prop} (h : codeAny M A c R s) : codeS M A c R s := fun Γ p e _ hΓ => h Γ p e hΓ
theorem sPure {a : α} {Q : α → Shared → Prop} (h : Q a s) : wpS M A (pure a) Q E s := ofAny (wpAny_pure h)
theorem sMono {t : Sem α} {Q Q' : α → Shared → Prop} {E' : Value → Shared → Prop} (h : wpS M A t Q E s)
    (hQ : ∀ a s, Q a s → Q' a s) (hE : ∀ e s, E e s → E' e s) : wpS M A t Q' E' s :=
  fun Γ p ok hΓ => Sem.wp_mono M Γ t (fun a _ s => hQ a s) (fun e _ s => hE e s) p s (h Γ p ok hΓ)
theorem sBind {m : Sem α} {f : α → Sem β} {Q : β → Shared → Prop} (h : wpS M A m (fun a s' => wpS M A (f a) Q E s') E s) : wpS M A (m >>= f) Q E s := fun Γ p ok hΓ => by
  rw [Sem.wp_bind']
  exact Sem.wp_mono M Γ m (fun a p' s' h' => h' Γ p' ok hΓ) (fun _ _ _ h' => h') p s (h Γ p ok hΓ)
theorem sBindA {m : Sem α} {f : α → Sem β} {Q : β → Shared → Prop} (h : wpAny M A m (fun a s' => wpS M A (f a) Q E s') E s) : wpS M A (m >>= f) Q E s := sBind (ofAny h)
theorem sHold {vs : List Value} {m : Sem α} {Q : α → Shared → Prop} (h : wpS M A m Q E s) : wpS M A (holding vs m) Q E s := fun Γ p ok hΓ => by rw [Sem.wp_holding]; exact h Γ p ok hΓ
theorem sKeep {vs : List Value} {m : Sem α} {Q : α → Shared → Prop} (h : wpS M A m Q E s) : wpS M A (m.keep vs) Q E s := fun Γ p ok hΓ => by rw [Sem.wp_keep]; exact h Γ p ok hΓ
theorem sOperate {vs : List Value} {m : Sem Value} {Q : Value → Shared → Prop} (h : wpS M A m Q E s) : wpS M A (operate vs m) Q E s := fun Γ p ok hΓ => by rw [Sem.wp_operate]; exact h Γ p ok hΓ
theorem sTry {m : Sem α} {k : Value → Sem α} {Q : α → Shared → Prop} (h : wpS M A m Q (fun e s' => wpS M A (k e) Q E s') s) : wpS M A (tryCatch m k) Q E s := fun Γ p ok hΓ => by
  rw [Sem.wp_tryCatch']
  exact Sem.wp_mono M Γ m (fun _ _ _ h' => h') (fun e p' s' h' => h' Γ p' ok hΓ) p s (h Γ p ok hΓ)
theorem sOnRaise {m : Sem α} {k : Value → Sem Unit} {Q : α → Shared → Prop} (h : wpS M A m Q (fun e s' => wpAny M A (k e) (fun _ s'' => E e s'') E s') s) : wpS M A (m.onRaise k) Q E s := fun Γ p ok hΓ => by
  rw [Sem.wp_onRaise]
  exact Sem.wp_mono M Γ m (fun _ _ _ h' => h') (fun e p' s' h' => h' Γ p' hΓ) p s (h Γ p ok hΓ)
theorem sAt {pos : Pos} {f : Unit → Sem β} {Q : β → Shared → Prop} (h : wpS M A (f ()) Q E s) : wpS M A (standAt pos >>= f) Q E s := sBindA (wpAny_standAt h)
theorem sNoted {env : Env} {m : Sem α} {Q : α → Shared → Prop} (h : wpS M A m Q (notedBy M A env E) s) : wpS M A (m.onRaise fun x => do noteFrame x env; theTreesLotGoes x) Q E s :=
  sOnRaise (sMono h (fun _ _ q => q) fun _ _ hx => wpAny_bind (wpAny_mono hx (fun _ _ e => wpAny_theTreesLotGoes e) fun _ _ e => e))
theorem sNotedAt {env : Env} {m : Sem α} {pos : Pos} {Q : α → Shared → Prop} (h : wpS M A m Q (notedBy M A env E) s) : wpS M A (m.onRaise fun x => do noteFrame x env; standAt pos) Q E s :=
  sOnRaise (sMono h (fun _ _ q => q) fun _ _ hx => wpAny_bind (wpAny_mono hx (fun _ _ e => wpAny_standAt e) fun _ _ e => e))

theorem okB_enter {Γ : Ctx} {p : Pos} (ok : okX Γ) : okB ((Γ.code, p) :: Γ.below) := fun x hx => by
  rcases List.mem_cons.mp hx with rfl | hx
  · exact ok.1
  · exact ok.2 x hx
theorem sRun {c : Code} {h : Option Value} {Q : Flow → Shared → Prop}
    (hc : codeS M (A.mark h) c (fun r s' => match r with | .ok f => Q f s' | .error e => E e s') s) (hnb : h ≠ some byPass := by intro x; cases x) : wpS M A (run c h) Q E s :=
  fun Γ p ok hΓ => by rw [Sem.wp_run]; exact hc _ p rfl (okB_enter ok) (hΓ.enter c h p hnb)
theorem sRunValue {c : Code} {Q : Value → Shared → Prop}
    (hc : codeS M A c (fun r s' => match r with | .ok (.ret v) => Q v s' | .ok _ => False | .error e => E e s') s) : wpS M A (runValue c) Q E s :=
  fun Γ p ok hΓ => by rw [Sem.wp_runValue]; exact hc _ p rfl (okB_enter ok) (hΓ.enter c none p (by intro x; cases x))
theorem sRunOwn {env : Env} {c : Code} {h : Option Value} {Q : Flow → Shared → Prop}
    (hc : codeS M (A.mark h) c (fun r s' => match r with | .ok f => Q f s' | .error e => cameBackBy M A env E e s') s) (hnb : h ≠ some byPass := by intro x; cases x) : wpS M A (runOwn c env h) Q E s := by
  unfold runOwn
  exact sOnRaise (sRun hc hnb)
theorem sCall {f : Value} {pos : List Value} {kw : List (Str × Value)} {Q : Value → Shared → Prop}
    (hc : codeS M A (.call f ⟨pos, kw⟩) (fun r s' => match r with | .ok (.ret v) => Q v s' | .ok _ => False | .error e => E e s') s) : wpS M A (call f pos kw) Q E s := sRunValue hc
theorem codeS_mono {c : Code} {R R' : Result → Shared → Prop} (h : codeS M A c R s) (hR : ∀ r s, R r s → R' r s) : codeS M A c R' s := fun Γ p hc ok hΓ => wpCode_mono hR (h Γ p hc ok hΓ)
theorem codeS_tree {c : Code} {R : Result → Shared → Prop} (hok : okC c = true)
    (h : wpS M (A.under c) (M.den c) (fun fin s' => match fin with | .done f => R (.ok f) s' | .again c' => c'.quiet = true ∧ codeS M A c' R s')
      (fun e s' => R (.error e) s') s) : codeS M A c R s := fun Γ p hc ok hΓ => by
  rw [wpCode_iff_wp, hc]
  refine Sem.wp_mono M Γ _ (fun fin p' s' h' => ?_) (fun _ _ _ h' => h') p s (h Γ p ⟨by rw [hc]; exact hok, ok⟩ (hc ▸ hΓ.in))
  cases fin with
  | done f => exact h'
  | again c' => exact ⟨h'.1, h'.2 (Γ.goto c') p' rfl ok (hΓ.goto c')⟩
theorem codeS_loop {c : Code} {R : Result → Shared → Prop} (hok : okC c = true) (hq : c.quiet = true) (I : Nat → Shared → Prop)
    (turn : ∀ n s, I n s → wpS M (A.under c) (M.den c)
      (fun fin s' => match fin with | .done f => R (.ok f) s' | .again c' => (c' = c ∧ ∃ m, m < n ∧ I m s') ∨ (c'.quiet = true ∧ codeS M A c' R s')) (fun e s' => R (.error e) s') s)
    (n : Nat) (h : I n s) : codeS M A c R s := by
  induction n using Nat.strongRecOn generalizing s with
  | ind n ih =>
    refine codeS_tree hok (sMono (turn n s h) (fun fin s' hf => ?_) fun _ _ h' => h')
    cases fin with
    | done f => exact hf
    | again c' =>
      rcases hf with ⟨rfl, m, hm, hI⟩ | hf
      · exact ⟨hq, ih m hm hI⟩
      · exact hf

/-- no built-in of the stack holds a bytearray -/
theorem any_false {α : Type} {l : List α} {f : α → Bool} {Q : Bool → Prop} (hf : ∀ x ∈ l, f x = false) (h : Q false) : Q (l.any f) := by
  have e : l.any f = false := by
    rw [List.any_eq_false]; intro x hx; rw [hf x hx]; decide
  rw [e]; exact h
theorem sExported {v : Value} {Q : Bool → Shared → Prop} (h : Q false s) : wpS M A (Builtin.Bytes.exported v) Q E s := by
  unfold Builtin.Bytes.exported
  intro Γ p ok _
  show Q (List.any ((Γ.code, p) :: Γ.below) _) s
  refine any_false (Q := fun b => Q b s) (fun x hx => ?_) h
  have hc := okB_enter ok x hx
  obtain ⟨c, q⟩ := x
  cases c with
  | builtin id args =>
      obtain ⟨as, kw⟩ := args
      have hn : badIds.contains id = false := by simpa [okC] using hc
      have hd : Builtin.Bytes.decodersThatHold.contains id = false := by
        cases e : Builtin.Bytes.decodersThatHold.contains id with
        | false => rfl
        | true =>
          rw [List.contains_iff_mem] at e
          have : badIds.contains id = true := by rw [List.contains_iff_mem]; exact List.mem_append_left _ e
          rw [hn] at this; cases this
      have h1 : id ≠ "bytearray.__contains__" := fun e => by subst e; revert hn; decide
      have h2 : id ≠ "bytearray.__mod__" := fun e => by subst e; revert hn; decide
      have h3 : id ≠ "bytearray.__rmod__" := fun e => by subst e; revert hn; decide
      have h4 : id ≠ "_struct.pack_into.held" := fun e => by subst e; revert hn; decide
      have h5 : id ≠ "bytearray.find.held" := fun e => by subst e; revert hn; decide
      delta Builtin.Bytes.exported.match_1
      dsimp only
      show (dite (id = "bytearray.__contains__") _ _) = false
      rw [dif_neg h1, dif_neg h2, dif_neg h3, dif_neg h4, dif_neg h5]
      cases as with
      | nil => rfl
      | cons a as =>
        show (_ && Builtin.Bytes.decodersThatHold.contains id) = false
        rw [hd, Bool.and_false]
  | _ => rfl
end

/-! the top: from the logic of the stack to the row -/
theorem caller_ok : okX ⟨.builtin "claim.caller" {}, none, none, [], none⟩ := ⟨by decide, fun _ hx => nomatch hx⟩
theorem wp_done {M : Model} {A : Around} {Γ : Ctx} {t : Sem Fin} {R : Result → Shared → Prop} {s : Shared} (ok : okX Γ) (hin : Γ.In A)
    (h : wpS M A t (fun fin s' => ∃ f, fin = .done f ∧ R (.ok f) s') (fun e s' => R (.error e) s') s) (p : Pos) :
    Sem.wp M Γ t (Sem.finPost M Γ R) (fun e _ s' => R (.error e) s') p s :=
  Sem.wp_mono M Γ t (fun _ _ _ ⟨_, e, hf⟩ => e ▸ hf) (fun _ _ _ h' => h') p s (h Γ p ok hin)

theorem callFrom_S {c : ClaimW} {tree : List Value → Sem Fin} {w : World} {s : Shared} {free : Addr → Prop} {gens : Prop} {kept : Heap → Prop} (hz : s.asleep) (hgens : s.gens = #[])
    (hspec : ∀ args, c.pre args = true → WData.layableAll args = true → ∀ ord : List DictEntry → List DictEntry, (∀ l, (ord l).Perm l) →
      ∃ vs s₁, layAllW c.records (classAt s.heap) w.params ord args s = some (vs, s₁) ∧
        wpS (model c.prog w) callerA (tree vs) (fun fin s' => ∃ f, fin = .done f ∧ (c.Ends s args vs s₁ (.ok f) s' ∧ s'.os = s.os ∧ AllBare s'.gens ∧ kept s'.heap))
          (fun e s' => c.Ends s args vs s₁ (.error e) s' ∧ s'.os = s.os ∧ AllBare s'.gens ∧ kept s'.heap) s₁) :
    c.CallFrom (fun vs => ⟨tree vs, .builtin "claim.caller" {}, default, []⟩) w free gens kept s := by
  intro args hpre hlay ord hord
  obtain ⟨vs, s₁, hlaid, hcode⟩ := hspec args hpre hlay ord hord
  have hal := layAllW_rest _ _ _ hlaid
  obtain ⟨n, r, s₂, s', hs, hrun, hfo, hcase, hos, hkp⟩ := wp_halts_full (M := model c.prog w) (R := fun r s' => c.Ends s args vs s₁ r s' ∧ s'.os = s.os ∧ kept s'.heap) (Shared.asleep_of_life hal.2.2.2 hz)
    (wp_done (R := fun r s' => (c.Ends s args vs s₁ r s' ∧ s'.os = s.os ∧ kept s'.heap) ∧ leftWithCleanup s'.gens = false) caller_ok caller_in
      (sMono hcode (fun _ _ ⟨f, e, h1, h2, h3, h4⟩ => ⟨f, e, ⟨h1, h2, h4⟩, leftWithCleanup_false_of_bare h3⟩) fun _ _ ⟨h1, h2, h3, h4⟩ => ⟨⟨h1, h2, h4⟩, leftWithCleanup_false_of_bare h3⟩) default)
  obtain ⟨eh, _, _, eo, _⟩ := Shared.forget_eq hfo
  have hcase := hcase.congr eh
  rw [← eh] at hkp
  rw [← eo] at hos
  have hlife : s'.heap.life = s.heap.life := (runN_life _ _ _ hrun).trans hal.2.2.2
  refine ⟨vs, s₁, hlaid, n, _, s', hs, ?_, (fun _ i x hx => by rw [hgens] at hx; simp at hx), hkp, by rw [hlife], Shared.rest_eq hos⟩
  rcases hcase with ⟨v, rfl, d1, d2, d3, d4, d5⟩ | ⟨e, ob, cls, rfl, d1, d2, d3, d4, d5⟩
  · exact .inl ⟨v, rfl, d1, d2, d3, fun b o y _ => d4 b o y, d5⟩
  · exact .inr ⟨e, ob, cls, rfl, d1, d2, d3, d4, fun b o y _ => d5 b o y⟩

/-- WalkO, over the clean stacks alone -/
abbrev WalkS (q : Program) (loose : List Str) (XP : (Str → Option Value) → Heap → Prop) (YP : World → Heap → Prop) (r : RowW) (d : DefRec) (kwd : List (Str × Expr)) : Prop :=
  ∀ (w : World) (s₀ s₁ : Shared) (mg mb : Str → Option Value), Ground q loose r.records XP w s₀ mg mb s₁.heap → YP w s₁.heap → ∀ (a : Addr) (o : Obj) (pm cd doc dV kV : Value), s₁.heap.get? a = some o →
    o.data = .func { docDef d.name d.params d.body d.scope pm cd doc with defaults := dV, kwdefaults := kV } → s₁.heap.CodeRec cd d.name → Dflts mg s₁.heap d.params kwd dV kV → mg d.name = some (.ref a) → s₁.gens = #[] →
    ∀ (args : List WData) (vals : List Value) (as : List Addr), r.claim.pre args = true → WData.layableAll args = true → ReadsAllW r.records (classAt s₀.heap) s₁.heap vals args as → WellAll w.params s₁.heap vals args → (∀ a ∈ as, (a == sysModules) = false) →
      wpS (model r.prog w) callerA (PySem.call (.ref a) vals) (fun v s' => GoodWG r.claim (classAt s₀.heap) (ExcName.means s₀.heap) args s₁ (.ok (.ret v)) s')
        (fun e s' => GoodWG r.claim (classAt s₀.heap) (ExcName.means s₀.heap) args s₁ (.error e) s') s₁

/-- the head for the clean stacks: own -/
theorem holds_top {r : OpenRow} {q : Program} {loose : List Str} {Xt : Shared → Bool} {XP : (Str → Option Value) → Heap → Prop} {α : Type} {Yf : Shared → α} {Ya : World → α} {YP : World → Heap → Prop} {d : DefRec} {kwd : List (Str × Expr)} {N : Nat}
    (left : LeftO r.prog q loose Xt Yf Ya N) (hY : ∀ w s, Yf s = Ya w → YP w s.heap) (hYk : ∀ w h h', YP w h → (∀ b o, h.get? b = some o → h'.get? b = some o) → YP w h')
    (hX : ∀ s, Xt s = true → XP (s.heap.nsMap mainGlobals) s.heap) (hXk : ∀ mg h h', XP mg h → (∀ b o, h.get? b = some o → h'.get? b = some o) → XP mg h')
    (hdef : defOf q r.name = some (d, kwd)) (hp : r.prog.theDef r.name = some (d.params, d.body, d.scope)) (hk : kwWritten? d.params.kwonlyargs d.params.kw_defaults = some kwd) (hRf : ∀ s, Xt s = true → RecFacts r.records s.heap) (hwr : (!r.writes || r.records.isEmpty) = true)
    (k1 : r.wellSaid = true) (ok : (chainsOk q && opensWell r.prog && (frees r.toRowW && r.within.isEmpty)) = true) (hb : r.prog.bare) (hw : r.toRowW.promised)
    (call : WalkS q loose XP YP r.toRowW d kwd) : r.Holds := by
  refine ⟨k1, hw, ?_⟩
  obtain ⟨ok, k5⟩ := Bool.and_eq_true_iff.mp ok
  obtain ⟨hch, o1⟩ := Bool.and_eq_true_iff.mp ok
  obtain ⟨k5, k6⟩ := Bool.and_eq_true_iff.mp k5
  obtain ⟨hsame, hu, ha, hap, hm⟩ := frees_parts k5
  refine ⟨⟨hb, o1, by show r.toRowW.makers.map _ = []; rw [hm]; rfl⟩, hw.witness, fun w => ⟨(left.behind hX hch w).1, fun s' hs' => ?_⟩⟩
  obtain ⟨s₀, hf, hg0, s, hT, hz, hgens, hg, G00, y⟩ := (left.behind (XP := fun mg h => XP mg h ∧ RecFacts r.records h) (fun s hs => ⟨hX s hs, hRf s hs⟩) hch w).2 s' hs'
  have G0 : Ground q loose [] XP w s (s.heap.nsMap mainGlobals) (s.heap.nsMap builtinsNs) s.heap := ⟨G00.T, G00.B, G00.D, G00.TE, G00.TD, G00.W, G00.X.1, G00.cls, G00.has, G00.apart, G00.once, G00.K⟩
  have RF := G00.X.2
  have hgens : s.gens = #[] := Array.eq_empty_of_size_eq_zero (beq_iff_eq.mp hgens)
  have G : Ground q loose r.records XP w s _ _ s.heap := RF.ground G0
  refine ⟨s₀, hf, hg0, s, hT, fun n hn => ?_, RF.1, RF.2.1, ?_⟩
  · obtain rfl : n = r.name := by split at hn <;> simp_all
    exact pinned_of_view hg G0 hdef hp hk
  refine callFrom_S (c := r.toRowW.claim) hz hgens fun args hpre hlay ord hord => ?_
  obtain ⟨⟨vs, s₁⟩, hlaid⟩ := Option.isSome_iff_exists.mp (layAllW_isSome (P := w.params) (ord := ord) G.has args r.toRowW.args s (pre_splitW hpre).1)
  have keeps := layAllW_keeps _ _ _ hlaid
  have hal := layAllW_rest _ _ _ hlaid
  obtain ⟨as, hrd, hin, hold⟩ := reads_layAllW hord _ _ _ hlaid hlay s₁.heap (fun _ _ e => e)
  have L : Laid r.records w s s₁ args vs as := ⟨⟨ord, hord, hlaid⟩, hrd, hin, hold, keeps, hal.1.trans hgens, hal.2.2.1⟩
  have G₁ := G.keeps hXk keeps
  obtain ⟨a, o, pm, cd, doc, dV, kV, h1, h2, h3, h4, h5⟩ := G₁.fn hdef
  have h := call w s s₁ _ _ G₁ (hYk _ _ _ (hY w s y) keeps) a o pm cd doc dV kV h2 h3 h4 h5 (defOf_name hdef ▸ h1) L.gens args vs as hpre hlay L.reads L.well (L.low G.low)
  have hi := ident_freeW hu ha hap
  have hwi : r.toRowW.claim.within = [] := List.isEmpty_iff.mp k6
  refine ⟨vs, s₁, hlaid, ?_⟩
  refine sBindA (wpAny_nsGet G₁.T.g ?_)
  rw [h1]
  have hT' := hT
  exact sBind (sMono h (fun v s' g => sPure ⟨_, rfl, have z := g.laid (c := r.toRowW.claim) hsame hwi hi L; ⟨z.1, z.2.1, z.2.2, fun q => ⟨namesKept_of hT' hg _ keeps g.2.1.old, noTable hwr q⟩⟩⟩) fun e s' g => have z := g.laid (c := r.toRowW.claim) hsame hwi hi L; ⟨z.1, z.2.1, z.2.2, fun q => ⟨namesKept_of hT' hg _ keeps g.2.1.old, noTable hwr q⟩⟩)

/-- the text's defs, as the head wants them -/
noncomputable def vw : Program := view PySem.Challenge.rw_no0357_01.row.prog [1, 2, 4, 5, 6, 7, 8, 9, 10, 11, 12, 13, 14, 15, 16, 17, 18, 19, 20, 21, 23, 24, 25, 26, 27, 28, 29, 30, 31, 32, 33, 34, 35]

/-- the top from the start-up on, in one run -/
theorem left_of_top {p q : Program} {loose : List Str} {Xt : Shared → Bool} {α : Type} {Yf : Shared → α} {Ya : World → α} {N : Nat} {g0 : Bool} (m₀ : Nat) (ann : Option Value)
    (opn : ∀ w : World, (fencedOpening treeTable p w N).map (fun s => (s.heap, s.gens, s.drawn, s.toks)) = some (boot_heap w.params, Array.mk [], boot_drawn, boot_toks))
    (size : ∀ w : World, ((boot_heap w.params).isNs mainGlobals, (boot_heap w.params).objs.size, (boot_heap w.params).nsMap mainGlobals "__annotations__") = (true, m₀, ann))
    (h : ∀ (w : World) (os : OsState), ((Fast.tw14082659384304107361 Fast.tw14364793385576792824 p w m₀ ann N ⟨boot_heap w.params, Array.mk [], boot_drawn, boot_toks, os⟩ (topStub p)).bind fun s₁ =>
       match staticsOk (importedModules p.main.body) (boot_heap w.params) s₁.heap && namesBound p s₁.heap && gensDone s₁ && laidKept (boot_heap w.params) s₁.heap with | true => some s₁ | false => none).map (fun s => (Fast.tw4187177175401517315 q loose (importedModules p.main.body) Xt g0 s, Yf s)) = some (openGood q loose, Ya w)) : LeftO p q loose Xt Yf Ya N g0 := fun w => by
  obtain ⟨⟨h', gs, d, k, os⟩, e, e'⟩ := Option.map_eq_some_iff.mp (opn w)
  obtain ⟨rfl, rfl, rfl, rfl⟩ : h' = boot_heap w.params ∧ gs = Array.mk [] ∧ d = boot_drawn ∧ k = boot_toks := by simpa using e'
  obtain ⟨z1, z2, z3⟩ : _ ∧ _ ∧ _ := by simpa only [Prod.mk.injEq] using size w
  have hh := h w os
  rw [← Fast.te14082659384304107361, ← Fast.te14364793385576792824, ← Fast.te4187177175401517315] at hh
  unfold openEnds
  rw [e]
  show (topFrom treeTable p w N _).map _ = _
  unfold topFrom
  dsimp only
  rw [z1, z2, z3]
  exact hh

set_option hygiene false in
local macro_rules | `(tactic| o_head $H) => `(tactic| (
  refine holds_top (q := vw) (loose := [Str.ofString "PostError"]) (Xt := fun s => xlAt vw [] s && recOk (RowW.records PySem.Challenge.rw_no0357_01.row.toRowW) s) (XP := XL vw []) (Yf := Hook.obs $H) (Ya := Hook.val $H) (YP := Hook.says $H) (N := 2752) ?hl
    (Hook.of $H) (Hook.keeps $H) (fun s e => xl_of s (Bool.and_eq_true_iff.mp e).1) XL.keeps (by rfl) (by rfl) (by rfl) (fun s e => recFacts_of (Bool.and_eq_true_iff.mp e).2) (by rfl) (by first | assumption | decide +kernel) (by decide +kernel) ⟨rfl, rfl, rfl, rfl, rfl, by decide +kernel⟩ ?hw ?hc
  case hl => exact left_of_top 11 (some (.ref 6)) (boot_open (by kernel_rfl) (by decide) (by intro s; kernel_rfl)) (by intro w; kernel_rfl) (by intro w os; kernel_rfl)))

local macro_rules | `(tactic| o_law) => `(tactic| refine PySem.W.holds_law (by decide +kernel) fun said => ?_)
open_top hd for PySem.Challenge.rw_no0357_01
end Mine
local macro_rules | `(tactic| omega) => `(tactic| first
  | decide
  | with_reducible exact Nat.le_refl _
  | exact Nat.le_trans (Nat.le_of_lt (by with_reducible assumption)) (by decide)
  | exact Nat.le_trans (by with_reducible assumption) (by decide)
  | exact Nat.lt_of_lt_of_le (by with_reducible assumption) (by decide)
  | exact Nat.lt_of_le_of_lt (by with_reducible assumption) (by decide)
  | exact Nat.add_le_add_left (by decide) _
  | exact Nat.le_trans (by decide) (Nat.le_add_left _ _)
  | omega +splitMinMax)
namespace Mine
noncomputable abbrev KK (w : World) : Frag := hd.heap_1 w.params

/-- what stands of the top in a heap -/
structure G0 (w : World) (h : Heap) : Prop where
  kin : (KK w).In h
  top : ∃ mg mb, TopRead vw (looseW vw [Str.ofString "PostError"]) mg mb h

theorem G0.keeps {w : World} {h h' : Heap} (G : G0 w h) (k : h.StaysIn h') : G0 w h' :=
  ⟨G.kin.keeps k, let ⟨mg, mb, t⟩ := G.top; ⟨mg, mb, t.keeps k⟩⟩

theorem G0.lim {w : World} {h : Heap} (G : G0 w h) : h.NoLimit := let ⟨_, _, t⟩ := G.top; t.nolimit

section
variable {w : World} {prog : Program} {A : Around} {E : Value → Shared → Prop} {s : Shared} {env : Env} {x : Str} {v : Value} {pos : Pos} {Q : Value → Shared → Prop}
theorem nmG (G : G0 w s.heap) (e : nsIn (KK w) mainGlobals x = some (some v)) (h : Q v s) (hk : env.scope.kind = .function) (hx : env.kindOf x = some .globalImplicit) (hg : env.globals = mainGlobals)
    (hd : (x == ("__debug__" : Str)) = false) : wpAny (model prog w) A (eval (.Name x pos) env) Q E s := by
  obtain ⟨mg, mb, t⟩ := G.top
  exact Name_function_global hk hx (loadGlobal_global (hg ▸ t.g) (mg_of G.kin t.g e) h) hd
theorem nmB (G : G0 w s.heap) (e : nsIn (KK w) mainGlobals x = some none) (hv : bootBuiltins x = some v) (hn : x ≠ "__name__") (h : Q v s) (hk : env.scope.kind = .function) (hx : env.kindOf x = some .globalImplicit)
    (hg : env.globals = mainGlobals) (hb : env.builtins = builtinsNs) (hd : (x == ("__debug__" : Str)) = false) : wpAny (model prog w) A (eval (.Name x pos) env) Q E s := by
  obtain ⟨mg, mb, t⟩ := G.top
  exact Name_function_global hk hx (loadGlobal_builtin (hg ▸ t.g) (mg_none_of G.kin t.g e) (hb ▸ t.b) ((t.builtins x hn).trans hv) h) hd
end

/-- locals as a list -/
noncomputable abbrev lk (l : List (Str × Value)) : Str → Option Value := fun y => l.lookup y
noncomputable def setL (x : Str) (v : Value) : List (Str × Value) → List (Str × Value)
  | [] => [(x, v)]
  | (y, u) :: r => if x == y then (y, v) :: r else (y, u) :: setL x v r
theorem lk_setL (x : Str) (v : Value) : ∀ l : List (Str × Value), (fun y => if y = x then some v else lk l y) = lk (setL x v l)
  | [] => funext fun y => by
    by_cases h : y = x
    · subst h; simp [lk, setL]
    · have : (y == x) = false := by simpa using h
      simp [lk, setL, List.lookup, h, this]
  | (z, u) :: r => funext fun y => by
    have ih := congrFun (lk_setL x v r) y
    by_cases hz : (x == z) = true
    · have hxz : x = z := by simpa using hz
      subst hxz
      by_cases h : y = x
      · subst h; simp [lk, setL]
      · have : (y == x) = false := by simpa using h
        simp [lk, setL, List.lookup, h, this]
    · have hxz : ¬ x = z := by simpa using hz
      by_cases h : y = x
      · subst h
        have hyz : (y == z) = false := by simpa using hz
        simp only [lk, setL, List.lookup, hyz, if_true] at ih ⊢
        simp only [Bool.false_eq_true, if_false, List.lookup, hyz]
        exact ih
      · by_cases hy : y = z
        · subst hy
          simp [lk, setL, List.lookup, h, hz]
        · have hyz : (y == z) = false := by simpa using hy
          simp only [h, if_false] at ih ⊢
          simp only [lk, setL, hz, Bool.false_eq_true, if_false, List.lookup, hyz] at ih ⊢
          exact ih

/-- the frame at hand: entry heap hE, frame L, locals l, the last stop's heap hR, the heap h -/
structure FS (w : World) (hE : Heap) (L : Addr) (l : List (Str × Value)) (hR h : Heap) : Prop where
  g : G0 w hE
  fr : Fr hE L h (lk l)
  ext : Heap.ExtBut L hR h
  nsR : ∃ m, hR.Ns L m

section
variable {w : World} {hE hR h h' : Heap} {L : Addr} {l : List (Str × Value)}
theorem FS.gh (F : FS w hE L l hR h) : G0 w h := F.g.keeps F.fr.keep
theorem FS.new (F : FS w hE L l hR h) : hE.get? L = none := Heap.get?_none_of_le F.fr.above
theorem FS.stays (F : FS w hE L l hR h) (k : h.StaysIn h') : FS w hE L l hR h' :=
  ⟨F.g, ⟨F.fr.ns.keeps k, fun b o e => k b o (F.fr.keep b o e), F.fr.above⟩, fun b o hb e => k b o (F.ext b o hb e), F.nsR⟩
theorem FS.here (F : FS w hE L l hR h) : FS w hE L l h h := ⟨F.g, F.fr, fun _ _ _ e => e, ⟨_, F.fr.ns⟩⟩
end

section
variable {w : World} {prog : Program} {A : Around} {E : Value → Shared → Prop} {s : Shared} {env : Env} {x : Str} {v : Value} {pos : Pos} {hE hR : Heap} {L : Addr} {l l' : List (Str × Value)}

theorem FS.ld {Q : Value → Shared → Prop} (F : FS w hE L l hR s.heap) (hv : l.lookup x = some v) (h : Q v s) (hL : env.locals = L := by rfl) (hk : env.scope.kind = .function := by rfl)
    (hx : env.kindOf x = some .local := by rfl) (hd : (x == ("__debug__" : Str)) = false := by decide) :
    wpAny (model prog w) A (eval (.Name x pos) env) Q E s := wpAny_Name (wpAny_loadName_local hk hx (hL ▸ F.fr.ns) hv h) hd

theorem FS.st {Q : Unit → Shared → Prop} (F : FS w hE L l hR s.heap) (hl : setL x v l = l')
    (h : ∀ h', FS w hE L l' hR h' → Heap.SameBut L s.heap h' → Q () { s with heap := h', toks := s.toks + 1 }) (hL : env.locals = L := by rfl) (hk : env.scope.kind = .function := by rfl)
    (hx : env.kindOf x = some .local := by rfl) : wpAny (model prog w) A (storeName env x v) Q E s := by
  subst hL
  refine wpAny_storeName_local hx F.fr.ns (fun h' hn hs => ?_) (by rw [hk]; rfl)
  rw [lk_setL, hl] at hn
  exact h h' ⟨F.g, F.fr.set hn hs, fun b o hb e => hs.extBut b o hb (F.ext b o hb e), F.nsR⟩ hs
end

/-- the around: nothing handled, room for n calls within one another -/
structure Room (A : Around) (n : Nat) : Prop where
  hd : A.handled = none
  dp : A.depth + n ≤ 990
  un : A.units + 20 * n ≤ 9800

theorem Room.deeper {A : Around} {n : Nat} {env : Env} (R : Room A (n + 1)) : Room (A.deeper env) n :=
  ⟨R.hd, by have := R.dp; show A.depth + 1 + n ≤ 990; omega, by have := R.un; show A.units + 3 + 20 * n ≤ 9800; omega⟩
theorem Room.mono {A : Around} {n m : Nat} (R : Room A n) (h : m ≤ n) : Room A m := ⟨R.hd, by have := R.dp; omega, by have := R.un; omega⟩
theorem Room.in1 {A : Around} {n : Nat} (R : Room A (n + 1)) : Room A.in1 n := ⟨R.hd, by have := R.dp; show A.depth + n ≤ 990; omega, by have := R.un; show A.units + 1 + 20 * n ≤ 9800; omega⟩

theorem callF {w : World} {prog : Program} {A : Around} {E : Value → Shared → Prop} {s : Shared} {Q : Value → Shared → Prop} {f : Addr} {o : Obj} {name : Str} {params : Arguments} {body : List Stmt} {scope : Scope}
    {pm cd doc : Value} {args : List Value} {n : Nat} (binds : List (Str × Value))
    (G : G0 w s.heap) (R : Room A (n + 1)) (ho : (KK w).lookup f = some o) (hd : o.data = .func (docDef name params body scope pm cd doc)) (hcd : codeIn (KK w) cd name = true)
    (hbind : bindArgs (docDef name params body scope pm cd doc) ⟨args, []⟩ = pure binds) (hloc : (binds.all fun x => decide (scope.names.lookup x.1 = some .local)) = true)
    (hcell : ∀ x ∈ scope.names, x.2 ≠ .cell)
    (h : ∀ L h₁ tk, FS w s.heap L binds.reverse h₁ h₁ → s.heap.StaysIn h₁ → Room (A.deeper (envOf name scope L f cd)) n →
      wpAny (model prog w) (A.deeper (envOf name scope L f cd)) (execs body (envOf name scope L f cd))
        (fun fl s' => Q (match fl with | .ret v => v | _ => .none) s')
        (fun e s' => wpAny (model prog w) (A.deeper (envOf name scope L f cd)) (leaving (envOf name scope L f cd) e) (fun _ s'' => E e s'') (fun e' s'' => E e' s'') s')
        { s with heap := h₁, toks := tk })
    (hco : scope.isCoroutine = false := by rfl) (hgen : scope.isGenerator = false := by rfl) (hk : scope.kind = .function := by rfl) : wpAny (model prog w) A (call (.ref f) args) Q E s := by
  refine wpAny_call (call_plain (by have := R.dp; show A.depth < 1000; omega) (G.kin _ _ ho) hd G.lim (codeRec_of G.kin hcd) hbind (locs hloc) (fun h₁ F₁ => ?_) hco hgen hk hcell)
  exact h _ h₁ _ ⟨G, F₁, fun _ _ _ e => e, ⟨_, F₁.ns⟩⟩ F₁.keep R.deeper

/-- a def that never raises -/
theorem callR {w : World} {prog : Program} {A : Around} {E : Value → Shared → Prop} {s : Shared} {Q : Value → Shared → Prop} {f : Addr} {o : Obj} {name : Str} {params : Arguments} {body : List Stmt} {scope : Scope}
    {pm cd doc : Value} {args : List Value} {n : Nat} (binds : List (Str × Value))
    (G : G0 w s.heap) (R : Room A (n + 1)) (ho : (KK w).lookup f = some o) (hd : o.data = .func (docDef name params body scope pm cd doc)) (hcd : codeIn (KK w) cd name = true)
    (hbind : bindArgs (docDef name params body scope pm cd doc) ⟨args, []⟩ = pure binds) (hloc : (binds.all fun x => decide (scope.names.lookup x.1 = some .local)) = true)
    (hcell : ∀ x ∈ scope.names, x.2 ≠ .cell)
    (h : ∀ L h₁ tk A', FS w s.heap L binds.reverse h₁ h₁ → s.heap.StaysIn h₁ → Room A' n →
      wpAny (model prog w) A' (execs body (envOf name scope L f cd))
        (fun fl s' => Q (match fl with | .ret v => v | _ => .none) s') (fun _ _ => False) { s with heap := h₁, toks := tk })
    (hco : scope.isCoroutine = false := by rfl) (hgen : scope.isGenerator = false := by rfl) (hk : scope.kind = .function := by rfl) : wpAny (model prog w) A (call (.ref f) args) Q E s :=
  callF binds G R ho hd hcd hbind hloc hcell (fun L h₁ tk F k R' => wpAny_mono (h L h₁ tk _ F k R') (fun _ _ x => x) fun _ _ x => x.elim) hco hgen hk

/-- the frames' addresses -/
noncomputable abbrev frs (l : List Env) : List Addr := l.filterMap (·.frame)
structure Fok (A : Around) (l : List Env) (h : Heap) : Prop where
  fr : A.frames = some l
  fn : h.FunFrames {} l
theorem Fok.up {A : Around} {l : List Env} {h h' : Heap} (x : Fok A l h) (k : h.UpToSlots h') : Fok A l h' :=
  ⟨x.fr, x.fn.of_keeps fun b o e hn => let ⟨sl, e'⟩ := k b o e hn; ⟨_, e', rfl⟩⟩
theorem Fok.stays {A : Around} {l : List Env} {h h' : Heap} (x : Fok A l h) (k : h.StaysIn h') : Fok A l h' := x.up (.of_keeps k)
theorem empty_get (b : Addr) : ({} : Heap).get? b = none := rfl

/-- a LogFault in flight out of a call that was made in the heap h -/
def Rsd (l : List Env) (h : Heap) (e : Addr) (h' : Heap) : Prop :=
  (∃ a0, Heap.FlyingW (hideAll h (frs l)) l e (.ref 52) a0 h') ∧ h.UpToSlots h'
/-- a LogFault just made -/
def Made (h : Heap) (e : Addr) (h' : Heap) : Prop :=
  h.StaysIn h' ∧ h.get? e = none ∧ ∃ oe vs a0, h'.get? e = some oe ∧ oe.cls = .ref 52 ∧ oe.data = .fields vs ∧ vs[1]? = some .none ∧ vs[0]? = some a0

theorem hide_none {h : Heap} (l : List Addr) {b : Addr} (e : h.get? b = none) : (hideAll h l).get? b = none := by
  cases q : (hideAll h l).get? b with
  | none => rfl
  | some o => rw [of_hideAll _ q] at e; cases e

section
variable {w : World} {M : Model} {A : Around} {l : List Env} {s : Shared} {hE hc h' : Heap} {L e : Addr} {env : Env} {m : Str → Option Value} {Q : Unit → Shared → Prop} {E : Value → Shared → Prop}
theorem frames_in (hf : env.frame = some L) (hk : env.scope.kind = .function) (O : Fok A l hE) (st : hE.StaysIn hc) (hn : hc.Ns L m) (nL : hE.get? L = none) :
    Fok (A.deeper env) (env :: l) hc := by
  refine ⟨Around.frames_deeper O.fr, .cons (by rw [hk]; decide) hf hn (empty_get L) ?_⟩
  exact O.fn.of_keeps fun b o e _ => ⟨o, st b o e, rfl⟩

theorem hide_fun {h : Heap} {l : List Env} (x : h.FunFrames {} l) {h' : Heap} (k : h.UpToSlots h') {hB : Heap} : h'.FunFrames (hideAll hB (frs l)) l := by
  have key : ∀ (r : List Env), (∀ env ∈ r, ∀ a, env.frame = some a → a ∈ frs l) → h.FunFrames {} r → h'.FunFrames (hideAll hB (frs l)) r := by
    intro r
    induction r with
    | nil => intro _ _; trivial
    | cons env r ih =>
      rintro hin ⟨hk, ⟨L, o, hf, _, ho, hd⟩, hr⟩
      obtain ⟨sl, e'⟩ := k L o ho hd
      exact ⟨hk, ⟨L, _, hf, hideAll_none _ (hin env (.head _) L hf), e', hd⟩, ih (fun e he => hin e (.tail _ he)) hr⟩
  exact key l (fun env he a ha => List.mem_filterMap.mpr ⟨env, he, ha⟩) x

theorem leave_made (hf : env.frame = some L) (hk : env.scope.kind = .function) (O : Fok A l hE) (st : hE.StaysIn hc) (hn : hc.Ns L m) (nL : hE.get? L = none) (X : Made hc e s.heap)
    (hQ : ∀ h'', Rsd l hE e h'' → Q () { s with heap := h'' }) : wpAny M (A.deeper env) (leaving env (.ref e)) Q E s := by
  obtain ⟨k, ne, oe, vs, a0, he, hcls, hd, h1, h0⟩ := X
  have hB : (hideAll hE (frs l)).StaysIn s.heap := fun b o q => k b o (st b o (of_hideAll _ q))
  have hnE : hE.get? e = none := by
    cases q : hE.get? e with
    | none => rfl
    | some o => rw [st _ _ q] at ne; cases ne
  have hO := frames_in hf hk O st hn nL
  refine wpAny_leaving_firstW (base := hideAll hE (frs l)) hO.fr ?_ hf he hB (hide_none _ hnE) hd h1 h0 fun h'' hL => ?_
  · obtain ⟨oL, es, ep, hoL, hdL, _⟩ := hn
    exact ⟨by rw [hk]; decide, ⟨L, oL, hf, hide_none _ nL, k _ _ hoL, fun vs q => by rw [hdL] at q; cases q⟩, hide_fun O.fn (.of_keeps fun b o q => k b o (st b o q))⟩
  · obtain ⟨k1, ⟨_, _, k2⟩, k3, k4⟩ := hL
    rw [hcls] at k3
    exact hQ h'' ⟨⟨a0, k1, hide_none _ hnE, k2, k3⟩, (Heap.UpToSlots.of_keeps fun b o q => k b o (st b o q)).trans k4⟩

theorem leave_on (hf : env.frame = some L) (hk : env.scope.kind = .function) (O : Fok A l hE) (st : hE.StaysIn hc) (hn : hc.Ns L m) (nL : hE.get? L = none) (X : Rsd (env :: l) hc e s.heap)
    (hQ : ∀ h'', Rsd l hE e h'' → Q () { s with heap := h'' }) : wpAny M (A.deeper env) (leaving env (.ref e)) Q E s := by
  obtain ⟨⟨a0, hfl⟩, hup⟩ := X
  refine wpAny_leaves_onW (Around.frames_deeper O.fr) hf hfl fun h'' x1 x2 => hQ h'' ⟨⟨a0, ?_⟩, ((Heap.UpToSlots.of_keeps st).trans hup).trans x2⟩
  refine flyingW_base (fun b o q => ?_) x1
  have hb := of_hideAll _ q
  refine hideAll_get _ (st _ _ hb) fun hm => ?_
  obtain ⟨env', he, hfe⟩ := List.mem_filterMap.mp hm
  rcases List.mem_cons.mp he with rfl | he
  · rw [hf] at hfe; cases hfe; rw [nL] at hb; cases hb
  · rw [hideAll_none _ (List.mem_filterMap.mpr ⟨env', he, hfe⟩)] at q; cases q
end

/-- a def that may raise LogFault -/
theorem callX {w : World} {prog : Program} {A : Around} {E : Value → Shared → Prop} {s : Shared} {Q : Value → Shared → Prop} {f : Addr} {o : Obj} {name : Str} {params : Arguments} {body : List Stmt} {scope : Scope}
    {pm cd doc : Value} {args : List Value} {n : Nat} {l : List Env} (binds : List (Str × Value))
    (G : G0 w s.heap) (R : Room A (n + 1)) (O : Fok A l s.heap) (ho : (KK w).lookup f = some o) (hd : o.data = .func (docDef name params body scope pm cd doc)) (hcd : codeIn (KK w) cd name = true)
    (hbind : bindArgs (docDef name params body scope pm cd doc) ⟨args, []⟩ = pure binds) (hloc : (binds.all fun x => decide (scope.names.lookup x.1 = some .local)) = true)
    (hcell : ∀ x ∈ scope.names, x.2 ≠ .cell)
    (hE : ∀ e h' tk, Rsd l s.heap e h' → E (.ref e) { s with heap := h', toks := tk })
    (h : ∀ L h₁ tk A' l' E', FS w s.heap L binds.reverse h₁ h₁ → s.heap.StaysIn h₁ → Room A' n → A'.frames = some l' → (∀ hc m, s.heap.StaysIn hc → hc.Ns L m → Fok A' l' hc) →
      (∀ hc m e h' tk, s.heap.StaysIn hc → hc.Ns L m → Rsd l' hc e h' → E' (.ref e) { s with heap := h', toks := tk }) →
      (∀ hc m e h' tk, s.heap.StaysIn hc → hc.Ns L m → Made hc e h' → E' (.ref e) { s with heap := h', toks := tk }) → PassesOwn (model prog w) A' (envOf name scope L f cd) E' →
      wpAny (model prog w) A' (execs body (envOf name scope L f cd)) (fun fl s' => Q (match fl with | .ret v => v | _ => .none) s') E' { s with heap := h₁, toks := tk })
    (hco : scope.isCoroutine = false := by rfl) (hgen : scope.isGenerator = false := by rfl) (hk : scope.kind = .function := by rfl) : wpAny (model prog w) A (call (.ref f) args) Q E s := by
  refine callF binds G R ho hd hcd hbind hloc hcell (fun L h₁ tk F k R' => ?_) hco hgen hk
  refine h L h₁ tk _ _ _ F k R' (Around.frames_deeper O.fr) (fun hc m st hn => frames_in rfl hk O st hn F.new) (fun hc m e h' tk st hn X => ?_) (fun hc m e h' tk st hn X => ?_) PassesOwn.leaving
  · exact leave_on (s := { s with heap := h', toks := tk }) rfl hk O st hn F.new X fun h'' Y => hE e h'' tk Y
  · exact leave_made (s := { s with heap := h', toks := tk }) rfl hk O st hn F.new X fun h'' Y => hE e h'' tk Y
/-- a store, with the state made flat -/
theorem FS.sto {w : World} {prog : Program} {A : Around} {E : Value → Shared → Prop} {s : Shared} (s0 : Shared) {env : Env} {x : Str} {v : Value} {hE hR : Heap} {L : Addr} {l l' : List (Str × Value)} {Q : Unit → Shared → Prop}
    (F : FS w hE L l hR s.heap) (hl : setL x v l = l')
    (h : ∀ h' tk', FS w hE L l' hR h' → Heap.SameBut L s.heap h' → Q () { s0 with heap := h', toks := tk' })
    (hs : s = { s0 with heap := s.heap, toks := s.toks }) (hL : env.locals = L) (hk : env.scope.kind = .function)
    (hx : env.kindOf x = some .local) : wpAny (model prog w) A (storeName env x v) Q E s := by
  refine FS.st F hl (fun h' F' b => ?_) hL hk hx
  have := h h' (s.toks + 1) F' b
  rw [hs]
  exact this
theorem lookup_setL {x y : Str} {v : Value} {l : List (Str × Value)} : (setL x v l).lookup y = if y = x then some v else l.lookup y := (congrFun (lk_setL x v l) y).symm
end Mine
namespace Mine
section
variable {w : World} {prog : Program} {A : Around} {E : Value → Shared → Prop} {s : Shared} {env : Env} {pos : Pos} {Q : Value → Shared → Prop}
theorem nk_PostError (w : World) : nsIn (KK w) mainGlobals (Str.ofString "PostError") = some (some (.ref 39)) := by kernel_rfl
theorem n_PostError (G : G0 w s.heap) (h : Q (.ref 39) s) (hk : env.scope.kind = .function := by rfl) (hx : env.kindOf (Str.ofString "PostError") = some .globalImplicit := by rfl) (hg : env.globals = mainGlobals := by rfl) : wpAny (model prog w) A (eval (.Name (Str.ofString "PostError") pos) env) Q E s := nmG G (nk_PostError w) h hk hx hg (by decide +kernel)
theorem nk_LogFault (w : World) : nsIn (KK w) mainGlobals (Str.ofString "LogFault") = some (some (.ref 52)) := by kernel_rfl
theorem n_LogFault (G : G0 w s.heap) (h : Q (.ref 52) s) (hk : env.scope.kind = .function := by rfl) (hx : env.kindOf (Str.ofString "LogFault") = some .globalImplicit := by rfl) (hg : env.globals = mainGlobals := by rfl) : wpAny (model prog w) A (eval (.Name (Str.ofString "LogFault") pos) env) Q E s := nmG G (nk_LogFault w) h hk hx hg (by decide +kernel)
theorem nk_MOST_DEPTH (w : World) : nsIn (KK w) mainGlobals (Str.ofString "MOST_DEPTH") = some (some (.int 20 247)) := by kernel_rfl
theorem n_MOST_DEPTH (G : G0 w s.heap) (h : Q (.int 20 247) s) (hk : env.scope.kind = .function := by rfl) (hx : env.kindOf (Str.ofString "MOST_DEPTH") = some .globalImplicit := by rfl) (hg : env.globals = mainGlobals := by rfl) : wpAny (model prog w) A (eval (.Name (Str.ofString "MOST_DEPTH") pos) env) Q E s := nmG G (nk_MOST_DEPTH w) h hk hx hg (by decide +kernel)
theorem nk_LAST_SIGN (w : World) : nsIn (KK w) mainGlobals (Str.ofString "LAST_SIGN") = some (some (.int 1114111 249)) := by kernel_rfl
theorem n_LAST_SIGN (G : G0 w s.heap) (h : Q (.int 1114111 249) s) (hk : env.scope.kind = .function := by rfl) (hx : env.kindOf (Str.ofString "LAST_SIGN") = some .globalImplicit := by rfl) (hg : env.globals = mainGlobals := by rfl) : wpAny (model prog w) A (eval (.Name (Str.ofString "LAST_SIGN") pos) env) Q E s := nmG G (nk_LAST_SIGN w) h hk hx hg (by decide +kernel)
theorem nk_NUMBER (w : World) : nsIn (KK w) mainGlobals (Str.ofString "NUMBER") = some (some (.int 105 251)) := by kernel_rfl
theorem n_NUMBER (G : G0 w s.heap) (h : Q (.int 105 251) s) (hk : env.scope.kind = .function := by rfl) (hx : env.kindOf (Str.ofString "NUMBER") = some .globalImplicit := by rfl) (hg : env.globals = mainGlobals := by rfl) : wpAny (model prog w) A (eval (.Name (Str.ofString "NUMBER") pos) env) Q E s := nmG G (nk_NUMBER w) h hk hx hg (by decide +kernel)
theorem nk_TEXT (w : World) : nsIn (KK w) mainGlobals (Str.ofString "TEXT") = some (some (.int 116 253)) := by kernel_rfl
theorem n_TEXT (G : G0 w s.heap) (h : Q (.int 116 253) s) (hk : env.scope.kind = .function := by rfl) (hx : env.kindOf (Str.ofString "TEXT") = some .globalImplicit := by rfl) (hg : env.globals = mainGlobals := by rfl) : wpAny (model prog w) A (eval (.Name (Str.ofString "TEXT") pos) env) Q E s := nmG G (nk_TEXT w) h hk hx hg (by decide +kernel)
theorem nk_OCTETS (w : World) : nsIn (KK w) mainGlobals (Str.ofString "OCTETS") = some (some (.int 111 255)) := by kernel_rfl
theorem n_OCTETS (G : G0 w s.heap) (h : Q (.int 111 255) s) (hk : env.scope.kind = .function := by rfl) (hx : env.kindOf (Str.ofString "OCTETS") = some .globalImplicit := by rfl) (hg : env.globals = mainGlobals := by rfl) : wpAny (model prog w) A (eval (.Name (Str.ofString "OCTETS") pos) env) Q E s := nmG G (nk_OCTETS w) h hk hx hg (by decide +kernel)
theorem nk_ROW (w : World) : nsIn (KK w) mainGlobals (Str.ofString "ROW") = some (some (.int 114 257)) := by kernel_rfl
theorem n_ROW (G : G0 w s.heap) (h : Q (.int 114 257) s) (hk : env.scope.kind = .function := by rfl) (hx : env.kindOf (Str.ofString "ROW") = some .globalImplicit := by rfl) (hg : env.globals = mainGlobals := by rfl) : wpAny (model prog w) A (eval (.Name (Str.ofString "ROW") pos) env) Q E s := nmG G (nk_ROW w) h hk hx hg (by decide +kernel)
theorem nk_count_octets (w : World) : nsIn (KK w) mainGlobals (Str.ofString "count_octets") = some (some (.ref 61)) := by kernel_rfl
theorem n_count_octets (G : G0 w s.heap) (h : Q (.ref 61) s) (hk : env.scope.kind = .function := by rfl) (hx : env.kindOf (Str.ofString "count_octets") = some .globalImplicit := by rfl) (hg : env.globals = mainGlobals := by rfl) : wpAny (model prog w) A (eval (.Name (Str.ofString "count_octets") pos) env) Q E s := nmG G (nk_count_octets w) h hk hx hg (by decide +kernel)
theorem nk_read_count (w : World) : nsIn (KK w) mainGlobals (Str.ofString "read_count") = some (some (.ref 68)) := by kernel_rfl
theorem n_read_count (G : G0 w s.heap) (h : Q (.ref 68) s) (hk : env.scope.kind = .function := by rfl) (hx : env.kindOf (Str.ofString "read_count") = some .globalImplicit := by rfl) (hg : env.globals = mainGlobals := by rfl) : wpAny (model prog w) A (eval (.Name (Str.ofString "read_count") pos) env) Q E s := nmG G (nk_read_count w) h hk hx hg (by decide +kernel)
theorem nk_folded_number (w : World) : nsIn (KK w) mainGlobals (Str.ofString "folded_number") = some (some (.ref 75)) := by kernel_rfl
theorem n_folded_number (G : G0 w s.heap) (h : Q (.ref 75) s) (hk : env.scope.kind = .function := by rfl) (hx : env.kindOf (Str.ofString "folded_number") = some .globalImplicit := by rfl) (hg : env.globals = mainGlobals := by rfl) : wpAny (model prog w) A (eval (.Name (Str.ofString "folded_number") pos) env) Q E s := nmG G (nk_folded_number w) h hk hx hg (by decide +kernel)
theorem nk_plain_number (w : World) : nsIn (KK w) mainGlobals (Str.ofString "plain_number") = some (some (.ref 82)) := by kernel_rfl
theorem n_plain_number (G : G0 w s.heap) (h : Q (.ref 82) s) (hk : env.scope.kind = .function := by rfl) (hx : env.kindOf (Str.ofString "plain_number") = some .globalImplicit := by rfl) (hg : env.globals = mainGlobals := by rfl) : wpAny (model prog w) A (eval (.Name (Str.ofString "plain_number") pos) env) Q E s := nmG G (nk_plain_number w) h hk hx hg (by decide +kernel)
theorem nk_text_codes (w : World) : nsIn (KK w) mainGlobals (Str.ofString "text_codes") = some (some (.ref 89)) := by kernel_rfl
theorem n_text_codes (G : G0 w s.heap) (h : Q (.ref 89) s) (hk : env.scope.kind = .function := by rfl) (hx : env.kindOf (Str.ofString "text_codes") = some .globalImplicit := by rfl) (hg : env.globals = mainGlobals := by rfl) : wpAny (model prog w) A (eval (.Name (Str.ofString "text_codes") pos) env) Q E s := nmG G (nk_text_codes w) h hk hx hg (by decide +kernel)
theorem nk_value_octets (w : World) : nsIn (KK w) mainGlobals (Str.ofString "value_octets") = some (some (.ref 94)) := by kernel_rfl
theorem n_value_octets (G : G0 w s.heap) (h : Q (.ref 94) s) (hk : env.scope.kind = .function := by rfl) (hx : env.kindOf (Str.ofString "value_octets") = some .globalImplicit := by rfl) (hg : env.globals = mainGlobals := by rfl) : wpAny (model prog w) A (eval (.Name (Str.ofString "value_octets") pos) env) Q E s := nmG G (nk_value_octets w) h hk hx hg (by decide +kernel)
theorem nk_read_text (w : World) : nsIn (KK w) mainGlobals (Str.ofString "read_text") = some (some (.ref 101)) := by kernel_rfl
theorem n_read_text (G : G0 w s.heap) (h : Q (.ref 101) s) (hk : env.scope.kind = .function := by rfl) (hx : env.kindOf (Str.ofString "read_text") = some .globalImplicit := by rfl) (hg : env.globals = mainGlobals := by rfl) : wpAny (model prog w) A (eval (.Name (Str.ofString "read_text") pos) env) Q E s := nmG G (nk_read_text w) h hk hx hg (by decide +kernel)
theorem nk_read_some (w : World) : nsIn (KK w) mainGlobals (Str.ofString "read_some") = some (some (.ref 108)) := by kernel_rfl
theorem n_read_some (G : G0 w s.heap) (h : Q (.ref 108) s) (hk : env.scope.kind = .function := by rfl) (hx : env.kindOf (Str.ofString "read_some") = some .globalImplicit := by rfl) (hg : env.globals = mainGlobals := by rfl) : wpAny (model prog w) A (eval (.Name (Str.ofString "read_some") pos) env) Q E s := nmG G (nk_read_some w) h hk hx hg (by decide +kernel)
theorem nk_read_value (w : World) : nsIn (KK w) mainGlobals (Str.ofString "read_value") = some (some (.ref 115)) := by kernel_rfl
theorem n_read_value (G : G0 w s.heap) (h : Q (.ref 115) s) (hk : env.scope.kind = .function := by rfl) (hx : env.kindOf (Str.ofString "read_value") = some .globalImplicit := by rfl) (hg : env.globals = mainGlobals := by rfl) : wpAny (model prog w) A (eval (.Name (Str.ofString "read_value") pos) env) Q E s := nmG G (nk_read_value w) h hk hx hg (by decide +kernel)
theorem nk_is_row (w : World) : nsIn (KK w) mainGlobals (Str.ofString "is_row") = some (some (.ref 122)) := by kernel_rfl
theorem n_is_row (G : G0 w s.heap) (h : Q (.ref 122) s) (hk : env.scope.kind = .function := by rfl) (hx : env.kindOf (Str.ofString "is_row") = some .globalImplicit := by rfl) (hg : env.globals = mainGlobals := by rfl) : wpAny (model prog w) A (eval (.Name (Str.ofString "is_row") pos) env) Q E s := nmG G (nk_is_row w) h hk hx hg (by decide +kernel)
theorem nk_row_octets (w : World) : nsIn (KK w) mainGlobals (Str.ofString "row_octets") = some (some (.ref 129)) := by kernel_rfl
theorem n_row_octets (G : G0 w s.heap) (h : Q (.ref 129) s) (hk : env.scope.kind = .function := by rfl) (hx : env.kindOf (Str.ofString "row_octets") = some .globalImplicit := by rfl) (hg : env.globals = mainGlobals := by rfl) : wpAny (model prog w) A (eval (.Name (Str.ofString "row_octets") pos) env) Q E s := nmG G (nk_row_octets w) h hk hx hg (by decide +kernel)
theorem nk_read_row (w : World) : nsIn (KK w) mainGlobals (Str.ofString "read_row") = some (some (.ref 136)) := by kernel_rfl
theorem n_read_row (G : G0 w s.heap) (h : Q (.ref 136) s) (hk : env.scope.kind = .function := by rfl) (hx : env.kindOf (Str.ofString "read_row") = some .globalImplicit := by rfl) (hg : env.globals = mainGlobals := by rfl) : wpAny (model prog w) A (eval (.Name (Str.ofString "read_row") pos) env) Q E s := nmG G (nk_read_row w) h hk hx hg (by decide +kernel)
theorem nk_law_box (w : World) : nsIn (KK w) mainGlobals (Str.ofString "_law_box") = some (some (.ref 141)) := by kernel_rfl
theorem n_law_box (G : G0 w s.heap) (h : Q (.ref 141) s) (hk : env.scope.kind = .function := by rfl) (hx : env.kindOf (Str.ofString "_law_box") = some .globalImplicit := by rfl) (hg : env.globals = mainGlobals := by rfl) : wpAny (model prog w) A (eval (.Name (Str.ofString "_law_box") pos) env) Q E s := nmG G (nk_law_box w) h hk hx hg (by decide +kernel)
theorem nk_law_draw (w : World) : nsIn (KK w) mainGlobals (Str.ofString "_law_draw") = some (some (.ref 148)) := by kernel_rfl
theorem n_law_draw (G : G0 w s.heap) (h : Q (.ref 148) s) (hk : env.scope.kind = .function := by rfl) (hx : env.kindOf (Str.ofString "_law_draw") = some .globalImplicit := by rfl) (hg : env.globals = mainGlobals := by rfl) : wpAny (model prog w) A (eval (.Name (Str.ofString "_law_draw") pos) env) Q E s := nmG G (nk_law_draw w) h hk hx hg (by decide +kernel)
theorem nk_law_value (w : World) : nsIn (KK w) mainGlobals (Str.ofString "_law_value") = some (some (.ref 153)) := by kernel_rfl
theorem n_law_value (G : G0 w s.heap) (h : Q (.ref 153) s) (hk : env.scope.kind = .function := by rfl) (hx : env.kindOf (Str.ofString "_law_value") = some .globalImplicit := by rfl) (hg : env.globals = mainGlobals := by rfl) : wpAny (model prog w) A (eval (.Name (Str.ofString "_law_value") pos) env) Q E s := nmG G (nk_law_value w) h hk hx hg (by decide +kernel)
theorem nk_law_row (w : World) : nsIn (KK w) mainGlobals (Str.ofString "_law_row") = some (some (.ref 158)) := by kernel_rfl
theorem n_law_row (G : G0 w s.heap) (h : Q (.ref 158) s) (hk : env.scope.kind = .function := by rfl) (hx : env.kindOf (Str.ofString "_law_row") = some .globalImplicit := by rfl) (hg : env.globals = mainGlobals := by rfl) : wpAny (model prog w) A (eval (.Name (Str.ofString "_law_row") pos) env) Q E s := nmG G (nk_law_row w) h hk hx hg (by decide +kernel)
theorem nk_law_depth (w : World) : nsIn (KK w) mainGlobals (Str.ofString "_law_depth") = some (some (.ref 163)) := by kernel_rfl
theorem n_law_depth (G : G0 w s.heap) (h : Q (.ref 163) s) (hk : env.scope.kind = .function := by rfl) (hx : env.kindOf (Str.ofString "_law_depth") = some .globalImplicit := by rfl) (hg : env.globals = mainGlobals := by rfl) : wpAny (model prog w) A (eval (.Name (Str.ofString "_law_depth") pos) env) Q E s := nmG G (nk_law_depth w) h hk hx hg (by decide +kernel)
theorem nk_law_figures (w : World) : nsIn (KK w) mainGlobals (Str.ofString "_law_figures") = some (some (.ref 168)) := by kernel_rfl
theorem n_law_figures (G : G0 w s.heap) (h : Q (.ref 168) s) (hk : env.scope.kind = .function := by rfl) (hx : env.kindOf (Str.ofString "_law_figures") = some .globalImplicit := by rfl) (hg : env.globals = mainGlobals := by rfl) : wpAny (model prog w) A (eval (.Name (Str.ofString "_law_figures") pos) env) Q E s := nmG G (nk_law_figures w) h hk hx hg (by decide +kernel)
theorem nk_law_spelled (w : World) : nsIn (KK w) mainGlobals (Str.ofString "_law_spelled") = some (some (.ref 173)) := by kernel_rfl
theorem n_law_spelled (G : G0 w s.heap) (h : Q (.ref 173) s) (hk : env.scope.kind = .function := by rfl) (hx : env.kindOf (Str.ofString "_law_spelled") = some .globalImplicit := by rfl) (hg : env.globals = mainGlobals := by rfl) : wpAny (model prog w) A (eval (.Name (Str.ofString "_law_spelled") pos) env) Q E s := nmG G (nk_law_spelled w) h hk hx hg (by decide +kernel)
theorem nk_law_number (w : World) : nsIn (KK w) mainGlobals (Str.ofString "_law_number") = some (some (.ref 178)) := by kernel_rfl
theorem n_law_number (G : G0 w s.heap) (h : Q (.ref 178) s) (hk : env.scope.kind = .function := by rfl) (hx : env.kindOf (Str.ofString "_law_number") = some .globalImplicit := by rfl) (hg : env.globals = mainGlobals := by rfl) : wpAny (model prog w) A (eval (.Name (Str.ofString "_law_number") pos) env) Q E s := nmG G (nk_law_number w) h hk hx hg (by decide +kernel)
theorem nk_law_meant (w : World) : nsIn (KK w) mainGlobals (Str.ofString "_law_meant") = some (some (.ref 185)) := by kernel_rfl
theorem n_law_meant (G : G0 w s.heap) (h : Q (.ref 185) s) (hk : env.scope.kind = .function := by rfl) (hx : env.kindOf (Str.ofString "_law_meant") = some .globalImplicit := by rfl) (hg : env.globals = mainGlobals := by rfl) : wpAny (model prog w) A (eval (.Name (Str.ofString "_law_meant") pos) env) Q E s := nmG G (nk_law_meant w) h hk hx hg (by decide +kernel)
theorem nk_law_due (w : World) : nsIn (KK w) mainGlobals (Str.ofString "_law_due") = some (some (.ref 192)) := by kernel_rfl
theorem n_law_due (G : G0 w s.heap) (h : Q (.ref 192) s) (hk : env.scope.kind = .function := by rfl) (hx : env.kindOf (Str.ofString "_law_due") = some .globalImplicit := by rfl) (hg : env.globals = mainGlobals := by rfl) : wpAny (model prog w) A (eval (.Name (Str.ofString "_law_due") pos) env) Q E s := nmG G (nk_law_due w) h hk hx hg (by decide +kernel)
theorem nk_law_heard (w : World) : nsIn (KK w) mainGlobals (Str.ofString "_law_heard") = some (some (.ref 199)) := by kernel_rfl
theorem n_law_heard (G : G0 w s.heap) (h : Q (.ref 199) s) (hk : env.scope.kind = .function := by rfl) (hx : env.kindOf (Str.ofString "_law_heard") = some .globalImplicit := by rfl) (hg : env.globals = mainGlobals := by rfl) : wpAny (model prog w) A (eval (.Name (Str.ofString "_law_heard") pos) env) Q E s := nmG G (nk_law_heard w) h hk hx hg (by decide +kernel)
theorem nk_law_written (w : World) : nsIn (KK w) mainGlobals (Str.ofString "_law_written") = some (some (.ref 206)) := by kernel_rfl
theorem n_law_written (G : G0 w s.heap) (h : Q (.ref 206) s) (hk : env.scope.kind = .function := by rfl) (hx : env.kindOf (Str.ofString "_law_written") = some .globalImplicit := by rfl) (hg : env.globals = mainGlobals := by rfl) : wpAny (model prog w) A (eval (.Name (Str.ofString "_law_written") pos) env) Q E s := nmG G (nk_law_written w) h hk hx hg (by decide +kernel)
theorem nkb_int (w : World) : nsIn (KK w) mainGlobals (Str.ofString "int") = some none := by kernel_rfl
theorem nb_int (G : G0 w s.heap) (h : Q (.type "int") s) (hk : env.scope.kind = .function := by rfl) (hx : env.kindOf (Str.ofString "int") = some .globalImplicit := by rfl) (hg : env.globals = mainGlobals := by rfl) (hb : env.builtins = builtinsNs := by rfl) : wpAny (model prog w) A (eval (.Name (Str.ofString "int") pos) env) Q E s := nmB G (nkb_int w) (by kernel_rfl) (by decide +kernel) h hk hx hg hb (by decide +kernel)
theorem nkb_len (w : World) : nsIn (KK w) mainGlobals (Str.ofString "len") = some none := by kernel_rfl
theorem nb_len (G : G0 w s.heap) (h : Q (.builtin "len") s) (hk : env.scope.kind = .function := by rfl) (hx : env.kindOf (Str.ofString "len") = some .globalImplicit := by rfl) (hg : env.globals = mainGlobals := by rfl) (hb : env.builtins = builtinsNs := by rfl) : wpAny (model prog w) A (eval (.Name (Str.ofString "len") pos) env) Q E s := nmB G (nkb_len w) (by kernel_rfl) (by decide +kernel) h hk hx hg hb (by decide +kernel)
theorem nkb_bytes (w : World) : nsIn (KK w) mainGlobals (Str.ofString "bytes") = some none := by kernel_rfl
theorem nb_bytes (G : G0 w s.heap) (h : Q (.type "bytes") s) (hk : env.scope.kind = .function := by rfl) (hx : env.kindOf (Str.ofString "bytes") = some .globalImplicit := by rfl) (hg : env.globals = mainGlobals := by rfl) (hb : env.builtins = builtinsNs := by rfl) : wpAny (model prog w) A (eval (.Name (Str.ofString "bytes") pos) env) Q E s := nmB G (nkb_bytes w) (by kernel_rfl) (by decide +kernel) h hk hx hg hb (by decide +kernel)
theorem nkb_bytearray (w : World) : nsIn (KK w) mainGlobals (Str.ofString "bytearray") = some none := by kernel_rfl
theorem nb_bytearray (G : G0 w s.heap) (h : Q (.type "bytearray") s) (hk : env.scope.kind = .function := by rfl) (hx : env.kindOf (Str.ofString "bytearray") = some .globalImplicit := by rfl) (hg : env.globals = mainGlobals := by rfl) (hb : env.builtins = builtinsNs := by rfl) : wpAny (model prog w) A (eval (.Name (Str.ofString "bytearray") pos) env) Q E s := nmB G (nkb_bytearray w) (by kernel_rfl) (by decide +kernel) h hk hx hg hb (by decide +kernel)
theorem nkb_tuple (w : World) : nsIn (KK w) mainGlobals (Str.ofString "tuple") = some none := by kernel_rfl
theorem nb_tuple (G : G0 w s.heap) (h : Q (.type "tuple") s) (hk : env.scope.kind = .function := by rfl) (hx : env.kindOf (Str.ofString "tuple") = some .globalImplicit := by rfl) (hg : env.globals = mainGlobals := by rfl) (hb : env.builtins = builtinsNs := by rfl) : wpAny (model prog w) A (eval (.Name (Str.ofString "tuple") pos) env) Q E s := nmB G (nkb_tuple w) (by kernel_rfl) (by decide +kernel) h hk hx hg hb (by decide +kernel)
theorem nkb_range (w : World) : nsIn (KK w) mainGlobals (Str.ofString "range") = some none := by kernel_rfl
theorem nb_range (G : G0 w s.heap) (h : Q (.type "range") s) (hk : env.scope.kind = .function := by rfl) (hx : env.kindOf (Str.ofString "range") = some .globalImplicit := by rfl) (hg : env.globals = mainGlobals := by rfl) (hb : env.builtins = builtinsNs := by rfl) : wpAny (model prog w) A (eval (.Name (Str.ofString "range") pos) env) Q E s := nmB G (nkb_range w) (by kernel_rfl) (by decide +kernel) h hk hx hg hb (by decide +kernel)
theorem nkb_min (w : World) : nsIn (KK w) mainGlobals (Str.ofString "min") = some none := by kernel_rfl
theorem nb_min (G : G0 w s.heap) (h : Q (.builtin "min") s) (hk : env.scope.kind = .function := by rfl) (hx : env.kindOf (Str.ofString "min") = some .globalImplicit := by rfl) (hg : env.globals = mainGlobals := by rfl) (hb : env.builtins = builtinsNs := by rfl) : wpAny (model prog w) A (eval (.Name (Str.ofString "min") pos) env) Q E s := nmB G (nkb_min w) (by kernel_rfl) (by decide +kernel) h hk hx hg hb (by decide +kernel)
theorem nkb_max (w : World) : nsIn (KK w) mainGlobals (Str.ofString "max") = some none := by kernel_rfl
theorem nb_max (G : G0 w s.heap) (h : Q (.builtin "max") s) (hk : env.scope.kind = .function := by rfl) (hx : env.kindOf (Str.ofString "max") = some .globalImplicit := by rfl) (hg : env.globals = mainGlobals := by rfl) (hb : env.builtins = builtinsNs := by rfl) : wpAny (model prog w) A (eval (.Name (Str.ofString "max") pos) env) Q E s := nmB G (nkb_max w) (by kernel_rfl) (by decide +kernel) h hk hx hg hb (by decide +kernel)
theorem nkb_abs (w : World) : nsIn (KK w) mainGlobals (Str.ofString "abs") = some none := by kernel_rfl
theorem nb_abs (G : G0 w s.heap) (h : Q (.builtin "abs") s) (hk : env.scope.kind = .function := by rfl) (hx : env.kindOf (Str.ofString "abs") = some .globalImplicit := by rfl) (hg : env.globals = mainGlobals := by rfl) (hb : env.builtins = builtinsNs := by rfl) : wpAny (model prog w) A (eval (.Name (Str.ofString "abs") pos) env) Q E s := nmB G (nkb_abs w) (by kernel_rfl) (by decide +kernel) h hk hx hg hb (by decide +kernel)
theorem nkb_ord (w : World) : nsIn (KK w) mainGlobals (Str.ofString "ord") = some none := by kernel_rfl
theorem nb_ord (G : G0 w s.heap) (h : Q (.builtin "ord") s) (hk : env.scope.kind = .function := by rfl) (hx : env.kindOf (Str.ofString "ord") = some .globalImplicit := by rfl) (hg : env.globals = mainGlobals := by rfl) (hb : env.builtins = builtinsNs := by rfl) : wpAny (model prog w) A (eval (.Name (Str.ofString "ord") pos) env) Q E s := nmB G (nkb_ord w) (by kernel_rfl) (by decide +kernel) h hk hx hg hb (by decide +kernel)
theorem nkb_chr (w : World) : nsIn (KK w) mainGlobals (Str.ofString "chr") = some none := by kernel_rfl
theorem nb_chr (G : G0 w s.heap) (h : Q (.builtin "chr") s) (hk : env.scope.kind = .function := by rfl) (hx : env.kindOf (Str.ofString "chr") = some .globalImplicit := by rfl) (hg : env.globals = mainGlobals := by rfl) (hb : env.builtins = builtinsNs := by rfl) : wpAny (model prog w) A (eval (.Name (Str.ofString "chr") pos) env) Q E s := nmB G (nkb_chr w) (by kernel_rfl) (by decide +kernel) h hk hx hg hb (by decide +kernel)
theorem nkb_isinstance (w : World) : nsIn (KK w) mainGlobals (Str.ofString "isinstance") = some none := by kernel_rfl
theorem nb_isinstance (G : G0 w s.heap) (h : Q (.builtin "isinstance") s) (hk : env.scope.kind = .function := by rfl) (hx : env.kindOf (Str.ofString "isinstance") = some .globalImplicit := by rfl) (hg : env.globals = mainGlobals := by rfl) (hb : env.builtins = builtinsNs := by rfl) : wpAny (model prog w) A (eval (.Name (Str.ofString "isinstance") pos) env) Q E s := nmB G (nkb_isinstance w) (by kernel_rfl) (by decide +kernel) h hk hx hg hb (by decide +kernel)
theorem nkb_bool (w : World) : nsIn (KK w) mainGlobals (Str.ofString "bool") = some none := by kernel_rfl
theorem nb_bool (G : G0 w s.heap) (h : Q (.type "bool") s) (hk : env.scope.kind = .function := by rfl) (hx : env.kindOf (Str.ofString "bool") = some .globalImplicit := by rfl) (hg : env.globals = mainGlobals := by rfl) (hb : env.builtins = builtinsNs := by rfl) : wpAny (model prog w) A (eval (.Name (Str.ofString "bool") pos) env) Q E s := nmB G (nkb_bool w) (by kernel_rfl) (by decide +kernel) h hk hx hg hb (by decide +kernel)
theorem nkb_str (w : World) : nsIn (KK w) mainGlobals (Str.ofString "str") = some none := by kernel_rfl
theorem nb_str (G : G0 w s.heap) (h : Q (.type "str") s) (hk : env.scope.kind = .function := by rfl) (hx : env.kindOf (Str.ofString "str") = some .globalImplicit := by rfl) (hg : env.globals = mainGlobals := by rfl) (hb : env.builtins = builtinsNs := by rfl) : wpAny (model prog w) A (eval (.Name (Str.ofString "str") pos) env) Q E s := nmB G (nkb_str w) (by kernel_rfl) (by decide +kernel) h hk hx hg hb (by decide +kernel)
theorem nkb_sum (w : World) : nsIn (KK w) mainGlobals (Str.ofString "sum") = some none := by kernel_rfl
theorem nb_sum (G : G0 w s.heap) (h : Q (.builtin "sum") s) (hk : env.scope.kind = .function := by rfl) (hx : env.kindOf (Str.ofString "sum") = some .globalImplicit := by rfl) (hg : env.globals = mainGlobals := by rfl) (hb : env.builtins = builtinsNs := by rfl) : wpAny (model prog w) A (eval (.Name (Str.ofString "sum") pos) env) Q E s := nmB G (nkb_sum w) (by kernel_rfl) (by decide +kernel) h hk hx hg hb (by decide +kernel)
theorem nkb_Exception (w : World) : nsIn (KK w) mainGlobals (Str.ofString "Exception") = some none := by kernel_rfl
theorem nb_Exception (G : G0 w s.heap) (h : Q (.type "Exception") s) (hk : env.scope.kind = .function := by rfl) (hx : env.kindOf (Str.ofString "Exception") = some .globalImplicit := by rfl) (hg : env.globals = mainGlobals := by rfl) (hb : env.builtins = builtinsNs := by rfl) : wpAny (model prog w) A (eval (.Name (Str.ofString "Exception") pos) env) Q E s := nmB G (nkb_Exception w) (by kernel_rfl) (by decide +kernel) h hk hx hg hb (by decide +kernel)
end
end Mine
namespace Mine
section
variable {w : World} {prog : Program} {A : Around} {E : Value → Shared → Prop} {s : Shared} {env : Env} {pos : Pos}

theorem evalArgs_ok {f : Value} {args : List (Bool × Sem Value)} {Q : Args → Shared → Prop} (hp : args.any (·.1) = false)
    (h : wpAny (model prog w) A (spliced args) (fun vs s' => Q ⟨vs, []⟩ s') E s) : wpAny (model prog w) A (evalArgs f true args []) Q E s := by
  cases args with
  | nil =>
    unfold evalArgs
    show wpAny _ _ (spliced [] >>= _) Q E s
    exact wpAny_bind (wpAny_mono h (fun vs s' h' => wpAny_holding (wpAny_bind (wpAny_pure (wpAny_bind (wpAny_pure (wpAny_pure h')))))) fun _ _ x => x)
  | cons a r =>
    obtain ⟨b, x⟩ := a
    obtain rfl : b = false := by simp at hp; exact hp.1
    exact evalArgs_plain h

/-- a call by a name: of a def of the top -/
theorem callN {f : Addr} {x : Str} {np : Pos} {args : List Expr} {Q : Value → Shared → Prop} {o : Obj} {fd : FuncData}
    (ho : (KK w).lookup f = some o) (hd : o.data = .func fd) (hp : (backTo pos (starEach args env)).any (·.1) = false)
    (h : wpAny (model prog w) A (eval (.Name x np) env) (fun v s₁ => v = .ref f ∧ wpAny (model prog w) A (spliced (backTo pos (starEach args env))) (fun vs s₂ => G0 w s₂.heap ∧ wpAny (model prog w) A (call (.ref f) vs) Q E s₂) E s₁) E s) :
    wpAny (model prog w) A (eval (.Call (.Name x np) args [] pos) env) Q E s := by
  refine wpAny_Call_ofName (wpAny_mono h (fun v s₁ h₁ => ?_) fun _ _ x => x)
  obtain ⟨rfl, h₁⟩ := h₁
  exact callWith_function (evalArgs_ok hp (wpAny_mono h₁ (fun vs s₂ h₂ => ⟨⟨h₂.1.kin _ _ ho, hd⟩, h₂.2⟩) fun _ _ x => x))

/-- a call by a name: of a built-in function or type -/
theorem callM {f : Value} {x : Str} {np : Pos} {args : List Expr} {Q : Value → Shared → Prop}
    (hf : keeperOf f = pure .machine) (hp : (backTo pos (starEach args env)).any (·.1) = false)
    (h : wpAny (model prog w) A (eval (.Name x np) env) (fun v s₁ => v = f ∧ wpAny (model prog w) A (spliced (backTo pos (starEach args env))) (fun vs s₂ => wpAny (model prog w) A (call f vs) Q E s₂) E s₁) E s) :
    wpAny (model prog w) A (eval (.Call (.Name x np) args [] pos) env) Q E s := by
  refine wpAny_Call_ofName (wpAny_mono h (fun v s₁ h₁ => ?_) fun _ _ x => x)
  obtain ⟨rfl, h₁⟩ := h₁
  show wpAny _ _ (callWith pos v [] _ []) _ _ _
  unfold callWith
  refine wpAny_bind (wpAny_holding (wpAny_mono (evalArgs_ok (Q := fun a s₂ => wpAny (model prog w) A (call v ([] ++ a.pos) a.kw) Q E s₂) hp h₁) (fun a s₂ h₂ => wpAny_bind (wpAny_standAt ?_)) fun _ _ x => x))
  simp only [hp, List.any_nil, Bool.or_false]
  rw [hf]
  refine wpAny_bind (wpAny_pure ?_)
  exact wpAny_bind (wpAny_mono h₂ (fun r s₂ hr => wpAny_bind (wpAny_holding (wpAny_point (wpAny_pure hr)))) fun _ _ x => x)

noncomputable abbrev plOf (o : Expr) (env : Env) : Sem Bool := do return (← importBound o env).getD true
theorem methC {o : Expr} {name : Str} {apos : Pos} {args : List Expr} {Q : Value → Shared → Prop}
    (he : eval (.Call (.Attribute o name apos) args [] pos) env = (do
      let ov ← eval o env
      standAt apos.atName
      let (f, first) ← holding [ov] (getMethod ov name (plOf o env))
      callWith pos f first (backTo pos (starEach args env)) []))
    (h : wpAny (model prog w) A (eval o env) (fun ov s₁ => wpAny (model prog w) A (getMethod ov name (plOf o env)) (fun fx s₂ => wpAny (model prog w) A (callWith pos fx.1 fx.2 (backTo pos (starEach args env)) []) Q E s₂) E s₁) E s) :
    wpAny (model prog w) A (eval (.Call (.Attribute o name apos) args [] pos) env) Q E s := MethodCall_ h he

theorem argsN {Q : List Value → Shared → Prop} (h : Q [] s) : wpAny (model prog w) A (spliced (backTo pos (starEach [] env))) Q E s := spliced_nil h
theorem argsC {e : Expr} {r : List Expr} {Q : List Value → Shared → Prop} (he : starEach (e :: r) env = (false, eval e env) :: starEach r env)
    (h : wpAny (model prog w) A (eval e env) (fun v s₁ => wpAny (model prog w) A (spliced (backTo pos (starEach r env))) (fun vs s₂ => Q (v :: vs) s₂) E s₁) E s) :
    wpAny (model prog w) A (spliced (backTo pos (starEach (e :: r) env))) Q E s := wpAny_items_cons h he

theorem wRet {e : Expr} {Q : Flow → Shared → Prop} (h : wpAny (model prog w) A (eval e env) (fun v => Q (.ret v)) E s) : wpAny (model prog w) A (exec (.Return (some e) pos) env) Q E s := wpAny_Return_some h
theorem wAsg {x : Str} {px : Pos} {value : Expr} {Q : Flow → Shared → Prop} (hs : swapsWith value (some (.Name x px)) pos.line env = pure false)
    (h : wpAny (model prog w) A (eval value env) (fun v s₁ => wpAny (model prog w) A (storeName env x v) (fun _ => Q .next) E s₁) E s) :
    wpAny (model prog w) A (exec (.Assign [.Name x px] value pos) env) Q E s := wpAny_Assign_Name h hs
theorem wCmp {l r : Expr} {op : CmpOp} {Q : Value → Shared → Prop} (hm : behindInMarks op r = false)
    (h : wpAny (model prog w) A (eval l env) (fun a s₁ => wpAny (model prog w) A (eval r env) (fun b s₂ => wpAny (model prog w) A (compareOp op a b) Q E s₂) E s₁) E s) :
    wpAny (model prog w) A (eval (.Compare l [op] [r] pos) env) Q E s := wpAny_Compare1 h hm
theorem wTst {l r : Expr} {op : CmpOp} {whole : Sem Value} {Q : Bool → Shared → Prop} (hm : behindInMarks op r = false)
    (h : wpAny (model prog w) A (eval l env) (fun a s₁ => wpAny (model prog w) A (eval r env) (fun b s₂ => wpAny (model prog w) A (compareOp op a b) (fun c s₃ => wpAny (model prog w) A (truthy c) Q E s₃) E s₂) E s₁) E s) :
    wpAny (model prog w) A (isTrue (.Compare l [op] [r] pos) env whole) Q E s := wpAny_isTrue_Compare1 h hm
theorem wIteT {b : Bool} {P R : Prop} (h : b = true → P) (h' : b = false → R) : if b = true then P else R := by cases b; exact h' rfl; exact h rfl
end



theorem natAbs_small {k : Int} (h : k.natAbs < 1073741824) : Builtin.Int.intBits k ≤ 64 := intBits_le_64 (by omega) (by omega)
end Mine
namespace Mine
local macro_rules | `(tactic| walk_at "W1") => `(tactic| first
  | ((with_reducible refine wAsg ?hs ?_); case hs => rfl)
  | ((with_reducible refine wCmp ?hm ?_); case hm => rfl)
  | ((with_reducible refine wTst ?hm ?_); case hm => rfl)
  | with_reducible first
    | refine wpAny_execs_cons ?_
    | refine wpAny_execs_nil ?_
    | refine wRet ?_
    | refine wpAny_If ?_
    | refine wpAny_IfExp ?_
    | refine wpAny_BinOp ?_
    | refine wpAny_UnaryOp ?_
    | refine wpAny_Constant_int ?_
    | refine wpAny_Constant_bool ?_
    | refine wpAny_Constant_none ?_
    | refine wpAny_Constant_str ?_
    | refine wpAny_truthy_bool ?_
    | refine add_int ?_
    | refine sub_int ?_
    | refine neg_int ?_
    | refine lt_int ?_
    | refine gt_int ?_
    | refine le_int ?_
    | refine ge_int ?_
    | refine eq_int ?_
    | refine ne_int ?_
    | refine argsN ?_
  | ((with_reducible refine argsC ?he ?_); case he => rfl))
local macro_rules | `(tactic| walk_at "ld") => `(tactic| ((with_reducible refine' FS.ld ?F ?hv ?_ ?hL ?hk ?hx ?hd); (case F => assumption); (case hL => exact rfl); (case hk => exact rfl); (case hx => exact rfl); (case hd => decide); (case hv => exact rfl)))
local macro_rules | `(tactic| walk_at "W") => `(tactic| repeat' (first | walk_at "W1" | walk_at "ld" | fail))
local macro_rules | `(tactic| walk_at "modc") => `(tactic| ((with_reducible refine mod_int' ?h ?_); (case h => decide)))
local macro_rules | `(tactic| walk_at "divc") => `(tactic| ((with_reducible refine floordiv_int ?h1 ?_ ?h2); (case h1 => decide); (case h2 => exact .inl (PyProof.noPylong_small (by decide)))))
local macro_rules | `(tactic| walk_at "mulL") => `(tactic| ((with_reducible refine mul_int ?_ ?hm); (case hm => exact .of_left (natAbs_small (by decide)))))
local macro_rules | `(tactic| walk_at "mulR") => `(tactic| ((with_reducible refine mul_int ?_ ?hm); (case hm => exact .of_right (natAbs_small (by decide)))))
local macro_rules | `(tactic| walk_at "st") => `(tactic| ((with_reducible refine' FS.sto ‹Shared› ?F ?hl ?_ ?hs ?hL ?hk ?hx); (case F => assumption); (case hl => exact rfl); (case hs => exact rfl); (case hL => exact rfl); (case hk => exact rfl); (case hx => exact rfl)))
local macro_rules | `(tactic| walk_at "bool") => `(tactic| with_reducible first
  | refine wpAny_isTrue_BoolOp ?_
  | refine wpAny_allTrue_And_cons ?_
  | refine wpAny_allTrue_Or_cons ?_
  | refine wpAny_allTrue_And_nil ?_
  | refine wpAny_allTrue_Or_nil ?_
  | refine wpAny_isTrue_Not ?_)
local macro_rules | `(tactic| walk_at "len") => `(tactic| (refine callM (f := .builtin "len") (by rfl) (by rfl) (nb_len (FS.gh (by assumption)) ⟨rfl, ?_⟩); walk_at "W"))
local macro_rules | `(tactic| walk_at "sub") => `(tactic| ((with_reducible refine Subscript_ ?_); walk_at "W"))
local macro_rules | `(tactic| walk_at "hv") => `(tactic| first | exact rfl | assumption | (repeat (first | assumption | exact rfl | rw [lookup_setL, if_pos rfl] | rw [lookup_setL, if_neg (by decide)])))
local macro_rules | `(tactic| walk_at "lx") => `(tactic| ((with_reducible refine' FS.ld ?F ?hv ?_ ?hL ?hk ?hx ?hd); (case F => assumption); (case hL => exact rfl); (case hk => exact rfl); (case hx => exact rfl); (case hd => decide); (case hv => walk_at "hv")))
local macro_rules | `(tactic| walk_at "X") => `(tactic| repeat' (first | walk_at "W1" | walk_at "lx" | fail))
local macro_rules | `(tactic| walk_at "isi") => `(tactic| (refine callM (f := .builtin "isinstance") (by rfl) (by rfl) (nb_isinstance (FS.gh (by assumption)) ⟨rfl, ?_⟩); walk_at "W"))
theorem spec_folded_number {w : World} {prog : Program} {A : Around} {E : Value → Shared → Prop} {s : Shared} {Q : Value → Shared → Prop} {i : Int} {t : Tok}
    (G : G0 w s.heap) (R : Room A 1) (hQ : ∀ h' t' tk', s.heap.StaysIn h' → Q (.int (if 0 ≤ i then 2 * i else -2 * i - 1) t') { s with heap := h', toks := tk' }) :
    wpAny (model prog w) A (call (.ref 75) [.int i t]) Q E s := by
  refine callR [(Str.ofString "number", .int i t)] G R (by exact rfl) (by exact rfl) (by kernel_rfl) (by exact rfl) (by exact rfl) (by decide) fun L h₁ tk A' F k R' => ?_
  walk_at "W"
  refine wIteT (fun hb => ?_) (fun hb => ?_)
  · walk_at "W"
    walk_at "mulL"
    have := of_decide_eq_true hb
    have := hQ h₁
    rw [if_pos (by omega)] at this
    exact this _ _ k
  · walk_at "W"
    walk_at "mulL"
    walk_at "W"
    have := of_decide_eq_false hb
    have := hQ h₁
    rw [if_neg (by omega)] at this
    exact this _ _ k

theorem spec_plain_number {w : World} {prog : Program} {A : Around} {E : Value → Shared → Prop} {s : Shared} {Q : Value → Shared → Prop} {n : Nat} {t : Tok}
    (G : G0 w s.heap) (R : Room A 1) (hQ : ∀ h' t' tk', s.heap.StaysIn h' → Q (.int (if n % 2 = 0 then ((n / 2 : Nat) : Int) else -1 - ((n / 2 : Nat) : Int)) t') { s with heap := h', toks := tk' }) :
    wpAny (model prog w) A (call (.ref 82) [.int n t]) Q E s := by
  refine callR [(Str.ofString "count", .int n t)] G R (by exact rfl) (by exact rfl) (by kernel_rfl) (by exact rfl) (by exact rfl) (by decide) fun L h₁ tk A' F k R' => ?_
  walk_at "W"
  walk_at "modc"
  walk_at "W"
  refine wIteT (fun hb => ?_) (fun hb => ?_)
  · walk_at "W"
    walk_at "divc"
    have e : n % 2 = 0 := by
      have : Int.fmod n 2 = 0 := by simpa using hb
      rw [Int.fmod_eq_emod_of_nonneg _ (by omega)] at this
      omega
    have := hQ h₁
    rw [if_pos e] at this
    have e2 : Int.fdiv n 2 = ((n / 2 : Nat) : Int) := by rw [Int.fdiv_eq_ediv_of_nonneg _ (by omega)]; omega
    rw [e2]
    exact this _ _ k
  · walk_at "W"
    walk_at "divc"
    have e : ¬ n % 2 = 0 := by
      have : ¬ Int.fmod n 2 = 0 := by simpa using hb
      rw [Int.fmod_eq_emod_of_nonneg _ (by omega)] at this
      omega
    have := hQ h₁
    rw [if_neg e] at this
    have e2 : Int.fdiv (-((n : Int) + 1)) 2 = -1 - ((n / 2 : Nat) : Int) := by rw [Int.fdiv_eq_ediv_of_nonneg _ (by omega)]; omega
    rw [e2]
    exact this _ _ k
--A3
section
open Builtin Builtin.ObjectAttr
noncomputable abbrev faultMro : List Value := [.ref 39, .type "Exception", .type "BaseException", .type "object"]
noncomputable abbrev faultObj : Obj := excClassObj (Str.ofString "LogFault") (Str.ofString "LogFault") 52 51 [.ref 39] faultMro true [] [] false none none (some (.ref 43)) none (some (.str (Str.ofString "LogFault") 229)) (some (.str (Str.ofString "LogFault") 237)) (some (.bool true)) "Exception.__new__"

theorem fault_at {w : World} {h : Heap} (G : G0 w h) : h.get? 52 = some faultObj := G.kin 52 _ (by kernel_rfl)
theorem fault_init (w : World) : findIn (KK w) (.ref 52) "__init__" = some (some (.ref 29)) := by kernel_rfl
theorem fault_fn (w : World) : typeIn (KK w) (.ref 29) = some (.type "function") := by kernel_rfl

section
variable {prog : Program} {w : World} {A : Around} {E : Value → Shared → Prop} {R : Result → Shared → Prop} {h : Heap} {g : Array GenState} {d : Drawn} {t : Nat} {os : OsState}

theorem fault_check_new {M : Model} {rest : List Value} {Q : Unit → Shared → Prop} (hC : h.get? 52 = some faultObj)
    (hq : Q () ⟨h, g, d, t, os⟩) : wpAny M A (checkBuiltinCall "Exception.__new__" ⟨.ref 52 :: rest, []⟩) Q E ⟨h, g, d, t, os⟩ := by
  have F := PySem.F.excBase_Exception
  have hcont : (Value.ref 52 :: faultMro).contains (.type "Exception") = true := by decide +kernel
  have hstar := F.noStar
  simp only [checkBuiltinCall, F.newKind, F.newSplit, F.newRow]
  repeat (first | refine wpAny_loadPart_at hC ?_ | (refine wpAny_isSubtype_exc hC ?_; rw [hcont]) | refine wpAny_staticBase_exc hC ?_ | refine wpAny_madeBy_exc hC ?_ | simp only [bne_self_eq_false, Bool.false_eq_true, if_false] | wp_step)
  exact hq

theorem fault_new {rest : List Value} (hC : h.get? 52 = some faultObj)
    (hq : R (.ok (.ret (.ref (h.objs.size + 1)))) ⟨(h.push { cls := .type "tuple", data := .seq rest.toArray }).push
      { cls := .ref 52, data := .fields #[.ref h.objs.size, .none, .none, .none, .bool false, .none] }, g, d, t, os⟩) (hrest : rest.length ≤ sizeLine) :
    codeAny (model prog w) A (.builtin "Exception.__new__" ⟨.ref 52 :: rest, []⟩) R ⟨h, g, d, t, os⟩ := by
  have F := PySem.F.excBase_Exception
  have hends := F.ends
  have hcB : (Value.ref 52 :: faultMro).contains (.type "Exception") = true := by decide +kernel
  have hcA : (Value.ref 52 :: faultMro).contains (.type "AttributeError") = false := by decide +kernel
  have hcN : (Value.ref 52 :: faultMro).contains (.type "NameError") = false := by decide +kernel
  refine codeAny_builtinAt F.entry ?_
  unfold Builtin.«BaseException.__new__»
  refine PySem.wpAt_bind ?_
  show PySem.wpAt _ _ _ (stack >>= _) _ _ _
  refine PySem.wpAt_bind (PySem.wpAt_stack fun p below => PySem.wpAt_of_wpAny ?_)
  wp_walk
  refine PySem.wpAt_of_wpAny ?_
  rw [F.owner]
  repeat (first | with_reducible refine wpAny_madeHere_exc F.canon hC ?_ | with_reducible refine wpAny_loadPart_at hC ?_ | (with_reducible refine wpAny_isSubtype_exc hC ?_; first | rw [hcB] | rw [hcA] | rw [hcN]) | wp_step)
  show R _ _
  rw [Heap.size_push]
  exact hq

theorem fault_type_call {rest : List Value} {Q : Fin → Shared → Prop} (G : G0 w h) (hrest : rest.length ≤ sizeLine)
    (hq : ∀ h' e, Heap.MadeExcOf h h' e (.ref 52) rest →
      wpAny (model prog w) A (call (.ref 29) (.ref e :: rest)) (fun r s' => r = .none ∧ Q (.done (.ret (.ref e))) s') E ⟨h', g, d, t, os⟩) :
    wpAny (model prog w) A (Builtin.«type.__call__» ⟨.ref 52 :: rest, []⟩) Q E ⟨h, g, d, t, os⟩ := by
  have F := PySem.F.excBase_Exception
  have hC := fault_at G
  repeat (first | with_reducible refine wpAny_loadPart_at hC ?_ | with_reducible refine wpAny_madeBy_exc hC ?_ | wp_step)
  refine codeAny_call_builtin_code (Code.quiet_builtin _ F.quiet) (fault_check_new hC ?_)
  refine fault_new hC ?_ hrest
  show wpAny _ _ _ _ _ _
  have k₁ : h.StaysIn ((h.push { cls := .type "tuple", data := .seq rest.toArray }).push { cls := .ref 52, data := .fields #[.ref h.objs.size, .none, .none, .none, .bool false, .none] }) :=
    fun b o e => Heap.get?_push_of_some _ (Heap.get?_push_of_some _ e)
  have G₁ := G.keeps k₁
  have hC₁ := fault_at G₁
  have hget : ((h.push { cls := .type "tuple", data := .seq rest.toArray }).push
      { cls := .ref 52, data := .fields #[.ref h.objs.size, .none, .none, .none, .bool false, .none] }).get? (h.objs.size + 1) = some
      { cls := .ref 52, data := .fields #[.ref h.objs.size, .none, .none, .none, .bool false, .none] } := by heap_get
  have hcC : (Value.ref 52 :: faultMro).contains (.ref 52) = true := by decide +kernel
  unfold isInstance
  repeat (first | with_reducible refine wpAny_loadPart_at hget ?_ | (with_reducible refine wpAny_isSubtype_exc hC₁ ?_; rw [hcC]) | wp_step)
  show wpAny _ _ (typeLookup (.ref 52) _) _ _ _
  refine (looks_findIn G₁.kin (fault_init w)).at ?_
  refine wpAny_holding (wpAny_bind ?_)
  refine (bind_fn G₁.kin _ (fault_fn w)).at ?_
  refine wpAny_bind (wpAny_mono (hq _ (h.objs.size + 1) ⟨k₁, Heap.get?_none_of_le (Nat.le_succ _), h.objs.size, hget, Heap.get?_none_of_le (Nat.le_refl _), ?_⟩) (fun r s' hr => ?_) fun _ _ x => x)
  · exact Heap.get?_push_of_some _ (Heap.get?_push_at rfl rfl)
  · obtain ⟨rfl, hQ⟩ := hr
    wp_walk
    exact hQ

theorem fault_call {rest : List Value} {Q : Value → Shared → Prop} (G : G0 w h) (hrest : rest.length ≤ sizeLine)
    (hq : ∀ h' e, Heap.MadeExcOf h h' e (.ref 52) rest →
      wpAny (model prog w) (A.under (.builtin "type.__call__" ⟨.ref 52 :: rest, []⟩)) (call (.ref 29) (.ref e :: rest)) (fun r s' => r = .none ∧ Q (.ref e) s') E ⟨h', g, d, t, os⟩) :
    wpAny (model prog w) A (call (.ref 52) rest) Q E ⟨h, g, d, t, os⟩ := by
  have hC := fault_at G
  have f1 := tc_lookup
  have f2 := tc_bind (.ref 52)
  have hT : (⟨h, g, d, t, os⟩ : Shared).TypeIs (.ref 52) "type" := ⟨_, hC, rfl⟩
  refine wpAny_call (codeAny_of_tree ?_)
  show wpAny _ _ (callAny (.ref 52) _) _ _ _
  repeat (any_goals (first | assumption | with_reducible refine wpAny_loadPart_at hC ?_ | wp_step))
  refine ⟨rfl, ?_⟩
  refine codeAny_call_builtin_at (Code.quiet_builtin _ (by decide +kernel)) entry_typeCall (wpAny_check_type_call_sub hC (fault_type_call G hrest fun h' e hm => ?_))
  exact hq h' e hm
end
end
section
open Builtin Builtin.ObjectAttr
theorem fault_sa (w : World) : findIn (KK w) (.ref 52) "__setattr__" = some (some (.builtin "object.__setattr__")) := by kernel_rfl

/-- the exception's record, its dict and what stands in it -/
def FaultAt (h : Heap) (x : Addr) (vs : Array Value) (dd : Option (Addr × (Str → Option Value))) : Prop :=
  match dd with
  | none => h.get? x = some { cls := .ref 52, data := .fields vs }
  | some (dx, m) => h.get? x = some { cls := .ref 52, dict := some dx, data := .fields vs } ∧ dx ≠ x ∧ h.Ns1 dx m

section
variable {prog : Program} {w : World} {A : Around} {E : Value → Shared → Prop} {h hB : Heap} {g : Array GenState} {d : Drawn} {t : Nat} {os : OsState} {x : Addr} {name : Str} {v : Value} {vs : Array Value}

theorem fault_check_sa {M : Model} {o : Obj} {nameV : Value} {Q : Unit → Shared → Prop} (hC : h.get? 52 = some faultObj) (hx : h.get? x = some o) (hc : o.cls = .ref 52) (hq : Q () ⟨h, g, d, t, os⟩) :
    wpAny M A (checkBuiltinCall "object.__setattr__" ⟨[.ref x, nameV, v], []⟩) Q E ⟨h, g, d, t, os⟩ := by
  have SF := PySem.F.store_Exception
  have hcB : (Value.ref 52 :: faultMro).contains (.type "object") = true := by decide +kernel
  have ha := SF.args (.ref x) nameV v
  simp only [checkBuiltinCall, SF.kind, SF.split]
  refine wpAny_bind ?_
  · unfold isInstance
    repeat (first | (with_reducible refine wpAny_loadPart_at hx ?_; rw [hc]) | (with_reducible refine wpAny_isSubtype_exc hC ?_; rw [hcB]) | wp_step)
    exact hq

theorem st_in_dict {A : Around} {dx : Addr} {m : Str → Option Value} {ns : List Str} {tk : Tok} {Q : Fin → Shared → Prop} (hns : h.Ns1 dx m) (hw : Within m ns) (hsz : ns.length ≤ 1000)
    (hq : ∀ h' tk', h'.Ns1 dx (fun y => if y = name then some v else m y) → Heap.SameBut dx h h' → Q (.done (.ret .none)) ⟨h', g, d, tk', os⟩) :
    wpAny (model prog w) A (storeInDict dx (.str name tk) name v) Q E ⟨h, g, d, t, os⟩ := by
  unfold storeInDict newKeyGuard
  refine wpAny_bind (wpAny_pure (wpAny_bind (wpAny_nsSet1 hns fun h' hn' hs => ?_)))
  obtain ⟨oD, esD, epD, hoD, hdD, hcD⟩ := hn'.count (Within.cons name v hw)
  refine wpAny_bind (wpAny_lookBehind hoD (by rw [hdD]; exact pastItsLine_dict (Nat.le_trans hcD (by rw [List.length_cons, sizeLine_eq]; omega))) ?_)
  wp_walk
  exact hq h' _ hn' hs

theorem fault_entry1 {tk : Tok} {Q : Fin → Shared → Prop} (G : G0 w h) (hna : findIn (KK w) (.ref 52) name = some none) (X : FaultAt h x vs none)
    (hq : ∀ h' tk', FaultAt h' x vs (some (h.objs.size, fun y => if y = name then some v else none)) → (∀ b o, b ≠ x → h.get? b = some o → h'.get? b = some o) → Q (.done (.ret .none)) ⟨h', g, d, tk', os⟩) :
    wpAny (model prog w) A (Builtin.«object.__setattr__» ⟨[.ref x, .str name tk, v], []⟩) Q E ⟨h, g, d, t, os⟩ := by
  have hx : h.get? x = some { cls := .ref 52, data := .fields vs } := X
  have hC := fault_at G
  have hpass := PySem.F.store_Exception.passes (.ref x)
  have hx₁ : (h.push { cls := .type "dict", data := .dict #[] }).get? x = some { cls := .ref 52, data := .fields vs } := Heap.get?_push_of_some _ hx
  have hxs : x ≠ h.objs.size := Nat.ne_of_lt (Heap.lt_size hx)
  have hgd : ((h.push { cls := .type "dict", data := .dict #[] }).update x fun o => { cls := o.cls, dict := some h.objs.size, data := o.data, slots := o.slots }).get? h.objs.size
      = some { cls := .type "dict", data := .dict #[] } :=
    (Heap.get?_update_ne _ _ _ _ hxs.symm).trans (Heap.get?_push_at rfl rfl)
  have hnd : ((h.push { cls := .type "dict", data := .dict #[] }).update x fun o => { cls := o.cls, dict := some h.objs.size, data := o.data, slots := o.slots }).Ns h.objs.size (fun _ => none) :=
    ⟨_, #[], _, hgd, rfl, fun e he => absurd he (by simp), fun _ => rfl⟩
  unfold Builtin.«object.__setattr__»
  repeat (first | rw [refuse_eq] | (rw [refuseLoop_ref, refuseLoop_ref, hpass]) | (with_reducible refine wpAny_loadPart_at hx ?_) | with_reducible refine wpAny_mroOf_exc hC ?_ | (with_reducible refine (looks_findIn G.kin hna).at ?_) | with_reducible refine st_in_dict (m := fun _ => none) (ns := []) ?_ ?_ ?_ ?_ | wp_step)
  · obtain ⟨_, es, ep, he, hd, hk, hf⟩ := hnd
    exact .of_empty ⟨_, es, ep, he, hd, hk, hf⟩
  · exact Within.nil
  · decide
  · intro h' tk' hn' hs
    have hx' : h'.get? x = some { cls := .ref 52, dict := some h.objs.size, data := .fields vs } := (hs.2 x hxs).trans (Heap.get?_update_self _ hx₁ rfl)
    exact hq h' _ ⟨hx', hxs.symm, hn'⟩ fun b ob hbx hb => (hs.2 b (Nat.ne_of_lt (Heap.lt_size hb))).trans ((Heap.get?_update_ne _ _ _ _ hbx).trans (Heap.get?_push_of_some _ hb))

theorem fault_entry2 {tk : Tok} {Q : Fin → Shared → Prop} {dx : Addr} {m : Str → Option Value} {ns : List Str} (G : G0 w h) (hna : findIn (KK w) (.ref 52) name = some none) (X : FaultAt h x vs (some (dx, m)))
    (hw : Within m ns) (hsz : ns.length ≤ 1000)
    (hq : ∀ h' tk', FaultAt h' x vs (some (dx, fun y => if y = name then some v else m y)) → (∀ b o, b ≠ dx → h.get? b = some o → h'.get? b = some o) → Q (.done (.ret .none)) ⟨h', g, d, tk', os⟩) :
    wpAny (model prog w) A (Builtin.«object.__setattr__» ⟨[.ref x, .str name tk, v], []⟩) Q E ⟨h, g, d, t, os⟩ := by
  obtain ⟨hx, hne, hns⟩ := X
  have hC := fault_at G
  have hpass := PySem.F.store_Exception.passes (.ref x)
  unfold Builtin.«object.__setattr__»
  repeat (first | rw [refuse_eq] | (rw [refuseLoop_ref, refuseLoop_ref, hpass]) | (with_reducible refine wpAny_loadPart_at hx ?_) | with_reducible refine wpAny_mroOf_exc hC ?_ | (with_reducible refine (looks_findIn G.kin hna).at ?_) | with_reducible refine st_in_dict hns hw hsz ?_ | wp_step)
  intro h' tk' hn' hs
  exact hq h' _ ⟨(hs.2 x hne.symm).trans hx, hne, hn'⟩ fun b ob hbd hb => (hs.2 b hbd).trans hb

theorem fault_attr {Q : Unit → Shared → Prop} {o : Obj} (G : G0 w h) (hx : h.get? x = some o) (hc : o.cls = .ref 52)
    (he : ∀ A tk (Q' : Fin → Shared → Prop), (∀ h' tk', Q () ⟨h', g, d, tk', os⟩ → Q' (.done (.ret .none)) ⟨h', g, d, tk', os⟩) → wpAny (model prog w) A (Builtin.«object.__setattr__» ⟨[.ref x, .str name tk, v], []⟩) Q' E ⟨h, g, d, tk + 1, os⟩) :
    wpAny (model prog w) A (setAttr (.ref x) name v) Q E ⟨h, g, d, t, os⟩ := by
  have SF := PySem.F.store_Exception
  have f3 := SF.slot.bind (.ref x)
  have hC := fault_at G
  unfold setAttr callSpecial? specialOf
  repeat (any_goals (first | assumption | (with_reducible refine wpAny_loadPart_at hx ?_; rw [hc]) | (with_reducible refine (looks_findIn G.kin (fault_sa w)).at ?_) | wp_step))
  refine codeAny_call_builtin SF.slot.plain SF.entry (fault_check_sa hC hx hc ?_)
  refine he _ _ _ fun h' tk' q => ?_
  repeat (any_goals (first | assumption | wp_step))
end
end
section
variable {prog : Program} {w : World} {A : Around} {E : Value → Shared → Prop} {h hB : Heap} {g : Array GenState} {d : Drawn} {t : Nat} {os : OsState} {e t0 : Addr}
theorem fault_check_init {M : Model} {oe : Obj} {rest : List Value} {Q : Unit → Shared → Prop}
    (hC : h.get? 52 = some faultObj) (he : h.get? e = some oe) (hcls : oe.cls = .ref 52) (hq : Q () ⟨h, g, d, t, os⟩) :
    wpAny M A (checkBuiltinCall "Exception.__init__" ⟨.ref e :: rest, []⟩) Q E ⟨h, g, d, t, os⟩ := by
  have F := PySem.F.excBase_Exception
  have hcB : (Value.ref 52 :: faultMro).contains (.type "Exception") = true := by decide +kernel
  have hshort := F.noStar
  simp only [checkBuiltinCall, F.initKind, F.initSplit, F.initRow]
  repeat (first | (with_reducible refine wpAny_loadPart_at he ?_; rw [hcls]) | with_reducible refine wpAny_loadPart_at hC ?_ | (with_reducible refine wpAny_isSubtype_exc hC ?_; rw [hcB]) | wp_step)
  refine wpAny_onRaise ?_
  rw [show ∀ (a b : String) (n : Nat), Bind.check ⟨.positional, "*", "Exception", .self, [⟨"args", .varPos, false⟩]⟩ a b n (List.map (fun x => x.fst) ({ pos := Value.ref e :: rest } : Args).kw) = pure () from
    fun a b n => check_star_args _ _ _ _ _ _]
  exact wpAny_pure hq

theorem fault_base_init {what : Value} {Q : Value → Shared → Prop} (hC : h.get? 52 = some faultObj) (he : h.get? e = some { cls := .ref 52, data := .fields #[.ref t0, .none, .none, .none, .bool false, .none] })
    (hq : ∀ h' t1, h'.get? e = some { cls := .ref 52, data := .fields #[.ref t1, .none, .none, .none, .bool false, .none] } → (∀ b o, b ≠ e → h.get? b = some o → h'.get? b = some o) → Q .none ⟨h', g, d, t, os⟩) :
    wpAny (model prog w) A (call (.builtin "Exception.__init__") [.ref e, what]) Q E ⟨h, g, d, t, os⟩ := by
  have F := PySem.F.excBase_Exception
  refine wpAny_call (codeAny_call_builtin F.init.plain F.initEntry (fault_check_init hC he rfl ?_))
  wp_walk
  refine hq _ h.objs.size ?_ fun b o hb e' => ?_
  · rw [Heap.get?_update_self _ (Heap.get?_push_of_some _ he) rfl]
    rfl
  · rw [Heap.get?_update_other _ _ hb.symm]
    exact Heap.get?_push_of_some _ e'
end

theorem room_make {A : Around} {n : Nat} {rest : List Value} (R : Room A (n + 2)) : Room (A.under (.builtin "type.__call__" ⟨.ref 52 :: rest, []⟩)) n := by
  refine ⟨R.hd, ?_, ?_⟩
  · have := R.dp
    have e : Code.weight (.builtin "type.__call__" ⟨.ref 52 :: rest, []⟩) = 1 := by rfl
    show A.depth + Code.weight (.builtin "type.__call__" ⟨.ref 52 :: rest, []⟩) + n ≤ 990
    omega
  · have := R.un
    have e : Code.cUnits (.builtin "type.__call__" ⟨.ref 52 :: rest, []⟩) = 1 := by rfl
    show A.units + Code.cUnits (.builtin "type.__call__" ⟨.ref 52 :: rest, []⟩) + 20 * n ≤ 9800
    omega

theorem callD {w : World} {prog : Program} {A : Around} {E : Value → Shared → Prop} {s : Shared} {Q : Value → Shared → Prop} {f : Addr} {o : Obj} {fd : FuncData} {body : List Stmt}
    {args : List Value} {n : Nat} (binds : List (Str × Value))
    (G : G0 w s.heap) (R : Room A (n + 1)) (ho : (KK w).lookup f = some o) (hd : o.data = .func fd) (hcd : codeIn (KK w) fd.code fd.qualname = true) (hbody : fd.body = .stmts body)
    (hbind : BindsTo s fd ⟨args, []⟩ binds) (hloc : (binds.all fun x => decide (fd.scope.names.lookup x.1 = some .local)) = true) (hcell : ∀ x ∈ fd.scope.names, x.2 ≠ .cell)
    (hco : fd.scope.isCoroutine = false) (hgen : fd.scope.isGenerator = false) (hk : fd.scope.kind = .function)
    (h : ∀ L h₁ tk A', h₁.Ns L (lk binds.reverse) → s.heap.StaysIn h₁ → s.heap.objs.size ≤ L → Room A' n →
      wpAny (model prog w) A' (execs body (callEnv fd L f))
        (fun fl s' => Q (match fl with | .ret v => v | _ => .none) s') (fun _ _ => False) { s with heap := h₁, toks := tk }) : wpAny (model prog w) A (call (.ref f) args) Q E s := by
  refine wpAny_call (codeAny_call_def (by have := R.dp; show A.depth < 1000; omega) (G.kin _ _ ho) hd G.lim (codeRec_of G.kin hcd) hbody hbind hcell (locs hloc) (fun h₁ hn k => ?_) hco hgen hk)
  exact wpAny_mono (h _ h₁ _ _ hn k (Nat.le_refl _) R.deeper) (fun _ _ x => x) fun _ _ x => x.elim

theorem wExpr {w : World} {prog : Program} {A : Around} {E : Value → Shared → Prop} {s : Shared} {env : Env} {e : Expr} {pos : Pos} {Q : Flow → Shared → Prop} (hi : interactive env = false) (hs : swapsWith e none pos.line env = pure false)
    (h : wpAny (model prog w) A (eval e env) (fun _ => Q .next) E s) : wpAny (model prog w) A (exec (.Expr e pos) env) Q E s := wpAny_Expr_any h hi hs

theorem exc_cls (w : World) : findCls (KK w) (.type "Exception") (.type "type") "__init__" = some (.val (.builtin "Exception.__init__")) := by kernel_rfl
theorem exc_meta : typeOf (.type "Exception") = pure (.type "type") := by rfl
section
open Builtin Builtin.ObjectAttr
section
variable {prog : Program} {w : World} {A : Around} {E : Value → Shared → Prop} {h hB : Heap} {g : Array GenState} {d : Drawn} {t : Nat} {os : OsState} {e t0 : Addr}

theorem loc_read {s : Shared} {env : Env} {l : List (Str × Value)} {x : Str} {v : Value} {pos : Pos} {Q : Value → Shared → Prop} (hn : s.heap.Ns env.locals (lk l)) (hv : l.lookup x = some v) (h : Q v s) (hk : env.scope.kind = .function)
    (hx : env.kindOf x = some .local) (hd : (x == ("__debug__" : Str)) = false) : wpAny (model prog w) A (eval (.Name x pos) env) Q E s := wpAny_Name (wpAny_loadName_local hk hx hn hv h) hd

theorem fault_init_call {args : List Value} {what atv : Value} {n : Nat} {Q : Value → Shared → Prop} {o : Obj} {fd : FuncData} (G : G0 w hB) (st : hB.StaysIn h) (ne : hB.get? e = none) (R : Room A (n + 1))
    (ho : (KK w).lookup 29 = some o) (hd : o.data = .func fd)
    (hbind : BindsTo ⟨h, g, d, t, os⟩ fd ⟨args, []⟩ [(Str.ofString "self", .ref e), (Str.ofString "what", what), (Str.ofString "at", atv)])
    (he : h.get? e = some { cls := .ref 52, data := .fields #[.ref t0, .none, .none, .none, .bool false, .none] })
    (hq : ∀ h' tk' t1 dx, hB.StaysIn h' → h'.get? e = some { cls := .ref 52, dict := some dx, data := .fields #[.ref t1, .none, .none, .none, .bool false, .none] } → Q .none ⟨h', g, d, tk', os⟩) :
    wpAny (model prog w) A (call (.ref 29) args) Q E ⟨h, g, d, t, os⟩ := by
  obtain rfl := Option.some.inj (ho.symm.trans (show (KK w).lookup 29 = some _ from rfl))
  obtain rfl : fd = _ := (Data.func.inj hd).symm
  refine callD [(Str.ofString "self", .ref e), (Str.ofString "what", what), (Str.ofString "at", atv)] (G.keeps st) R ho hd (by kernel_rfl) rfl hbind (by exact rfl) (by decide) rfl rfl rfl fun L h₁ tk A' hn k hL R' => ?_
  have nL : e ≠ L := fun q => by
    have := Heap.lt_size he
    rw [q] at this
    exact absurd this (Nat.not_lt.mpr hL)
  have nLB : hB.get? L = none := by
    cases q : hB.get? L with
    | none => rfl
    | some o => exact absurd (Heap.lt_size (st _ _ q)) (Nat.not_lt.mpr hL)
  have F₁ : Fr h L h₁ (lk [(Str.ofString "self", Value.ref e), (Str.ofString "what", what), (Str.ofString "at", atv)].reverse) := ⟨hn, k, hL⟩
  have st₁ : hB.StaysIn h₁ := fun b o q => k b o (st b o q)
  have he₁ := k _ _ he
  refine wpAny_execs_cons (wExpr rfl rfl (methC (by exact rfl) (nb_Exception (G.keeps st₁) (method_type F₁ (G.keeps st).kin exc_meta (by decide +kernel) (exc_cls w) (by decide +kernel) ?_))))
  refine callWith_builtin rfl (evalArgs_ok rfl (argsC rfl (loc_read hn (by exact rfl) (argsC rfl (loc_read hn (by exact rfl) (argsN ?_) rfl rfl (by decide))) rfl rfl (by decide))))
  refine fault_base_init (fault_at (G.keeps st₁)) he₁ fun h₂ t1 he₂ k₂ => ?_
  have st₂ : hB.StaysIn h₂ := fun b o q => k₂ b o (fun z => by rw [z, ne] at q; cases q) (st₁ b o q)
  have hn₂ : h₂.Ns L (lk [(Str.ofString "self", Value.ref e), (Str.ofString "what", what), (Str.ofString "at", atv)].reverse) := hn.extBut (fun b o hb q => k₂ b o hb q) nL.symm
  refine wpAny_execs_cons (plainObj_wpAny_Assign_Attribute (loc_read hn₂ (by exact rfl) (loc_read hn₂ (by exact rfl) ?_ rfl rfl (by decide)) rfl rfl (by decide)) rfl)
  refine fault_attr (G.keeps st₂) he₂ rfl fun A tk Q' hQ' => fault_entry1 (G.keeps st₂) (by kernel_rfl) he₂ fun h₃ tk₃ X₃ k₃ => hQ' h₃ tk₃ ?_
  have st₃ : hB.StaysIn h₃ := fun b o q => k₃ b o (fun z => by rw [z, ne] at q; cases q) (st₂ b o q)
  have hn₃ : h₃.Ns L (lk [(Str.ofString "self", Value.ref e), (Str.ofString "what", what), (Str.ofString "at", atv)].reverse) := hn₂.extBut (fun b o hb q => k₃ b o hb q) nL.symm
  have nd : hB.get? h₂.objs.size = none := st₂.fresh
  have dL : h₂.objs.size ≠ L := Nat.ne_of_gt hn₂.lt
  refine wpAny_execs_cons (plainObj_wpAny_Assign_Attribute (loc_read hn₃ (by exact rfl) (loc_read hn₃ (by exact rfl) ?_ rfl rfl (by decide)) rfl rfl (by decide)) rfl)
  refine fault_attr (G.keeps st₃) X₃.1 rfl fun A tk Q' hQ' => fault_entry2 (G.keeps st₃) (by kernel_rfl) X₃ (Within.cons _ _ Within.nil) (by simp) fun h₄ tk₄ X₄ k₄ => hQ' h₄ tk₄ ?_
  refine wpAny_execs_nil ?_
  exact hq h₄ tk₄ t1 _ (fun b o q => k₄ b o (fun z => by rw [z, nd] at q; cases q) (st₃ b o q)) X₄.1
end
end
section
open Builtin Builtin.ObjectAttr
section
variable {prog : Program} {w : World} {A : Around} {E : Value → Shared → Prop}

theorem wRaiseStmt {M : Model} {env : Env} {s : Shared} {x : Sem Value} {Q : Flow → Shared → Prop} (hh : A.handled = none)
    (h : wpAny M A x (fun v s₁ => ∃ e oe vs, v = .ref e ∧ s₁.heap.get? 52 = some faultObj ∧
      s₁.heap.get? e = some oe ∧ oe.cls = .ref 52 ∧ oe.data = .fields vs ∧ vs[1]? = some .none ∧ E (.ref e) s₁) E s) :
    wpAny M A (raiseStmt env (some x) none) Q E s := by
  have hcB : (Value.ref 52 :: faultMro).contains (.type "BaseException") = true := by decide +kernel
  unfold raiseStmt
  refine wpAny_bind (wpAny_mono h (fun v s₁ h₁ => ?_) fun _ _ x => x)
  obtain ⟨e, oe, vs, rfl, hC, he, hcls, hdat, h1, hE⟩ := h₁
  obtain ⟨hp, g, d, tk, os⟩ := s₁
  cases oe
  dsimp only at hcls hdat
  subst hcls hdat
  repeat (first | with_reducible refine wpAny_loadPart_at he ?_ | with_reducible refine wpAny_loadPart_at hC ?_ | (with_reducible refine wpAny_isSubtype_exc hC ?_; rw [hcB]) | wp_step | simp only [h1])
  exact wpAny_raiseNew_none hh hE

theorem fault_make {n : Nat} {vs : List Value} {s : Shared} {Q : Value → Shared → Prop} (G : G0 w s.heap) (R : Room A (n + 3)) (hv : ∃ what, vs = [what] ∨ ∃ a, vs = [what, a])
    (hq : ∀ h' e tk, Made s.heap e h' → Q (.ref e) { s with heap := h', toks := tk }) : wpAny (model prog w) A (call (.ref 52) vs) Q E s := by
  obtain ⟨h, g, d, t, os⟩ := s
  obtain ⟨what, rfl | ⟨a, rfl⟩⟩ := hv
  · refine fault_call G (by first | exact (show 1 ≤ sizeLine by decide) | exact (show 2 ≤ sizeLine by decide)) fun h' e hm => ?_
    obtain ⟨k, ne, t0, he, _, _⟩ := hm
    refine fault_init_call (what := what) (atv := .int (-1) 202) G k ne (room_make R) (by exact rfl) (by exact rfl) (BindsTo.of_defaults rfl ((G.keeps k).kin 22 _ (by exact rfl)) (by exact rfl) rfl rfl) he fun h'' tk' t1 dx st he' => ⟨rfl, hq h'' e tk' ⟨st, ne, _, _, _, he', rfl, rfl, rfl, rfl⟩⟩
  · refine fault_call G (by first | exact (show 1 ≤ sizeLine by decide) | exact (show 2 ≤ sizeLine by decide)) fun h' e hm => ?_
    obtain ⟨k, ne, t0, he, _, _⟩ := hm
    refine fault_init_call (what := what) (atv := a) G k ne (room_make R) (by exact rfl) (by exact rfl) (BindsTo.of_defaults rfl ((G.keeps k).kin 22 _ (by exact rfl)) (by exact rfl) rfl rfl) he fun h'' tk' t1 dx st he' => ⟨rfl, hq h'' e tk' ⟨st, ne, _, _, _, he', rfl, rfl, rfl, rfl⟩⟩

theorem wRaise {env : Env} {s : Shared} {np cpos pos : Pos} {args : List Expr} {n : Nat} {Q : Flow → Shared → Prop} (G : G0 w s.heap) (R : Room A (n + 3)) (hp : (backTo cpos (starEach args env)).any (·.1) = false)
    (h : wpAny (model prog w) A (spliced (backTo cpos (starEach args env))) (fun vs s₂ => G0 w s₂.heap ∧ (∃ what, vs = [what] ∨ ∃ a, vs = [what, a]) ∧
        ∀ h' e tk, Made s₂.heap e h' → E (.ref e) { s₂ with heap := h', toks := tk }) E s)
    (hk : env.scope.kind = .function := by rfl) (hx : env.kindOf (Str.ofString "LogFault") = some .globalImplicit := by rfl) (hg : env.globals = mainGlobals := by rfl) :
    wpAny (model prog w) A (exec (.Raise (some (.Call (.Name (Str.ofString "LogFault") np) args [] cpos)) none pos) env) Q E s := by
  rw [arm_exec_Raise]
  refine wpAny_bind (wpAny_standAt (wRaiseStmt R.hd ?_))
  refine wpAny_bind (wpAny_mono (wpAny_Call_ofName (n_LogFault G ?_ hk hx hg)) (fun v s₃ h₃ => wpAny_bind (wpAny_standAt (wpAny_pure h₃))) fun _ _ x => x)
  unfold callWith
  refine wpAny_bind (wpAny_holding (wpAny_mono (evalArgs_ok (Q := fun a s₂ => a.kw = [] ∧ G0 w s₂.heap ∧ (∃ what, a.pos = [what] ∨ ∃ y, a.pos = [what, y]) ∧ ∀ h' e tk, Made s₂.heap e h' → E (.ref e) { s₂ with heap := h', toks := tk }) hp (wpAny_mono h (fun vs s₂ q => ⟨rfl, q⟩) fun _ _ x => x)) (fun a s₂ h₂ => wpAny_bind (wpAny_standAt ?_)) fun _ _ x => x))
  obtain ⟨apos, akw⟩ := a
  obtain ⟨hkw, G2, hv, h₂⟩ := h₂
  obtain rfl : akw = [] := hkw
  obtain ⟨hp', g, d, tk, os⟩ := s₂
  simp only [hp]
  refine wpAny_bind (wpAny_keeperOf_exc (fault_at G2) ?_)
  refine wpAny_bind (fault_make G2 R hv fun h' e tk hm => wpAny_bind (wpAny_holding (wpAny_point (wpAny_pure ?_))))
  obtain ⟨k, ne, oe, vs, a0, he, hcls, hd, h1, h0⟩ := hm
  exact ⟨e, oe, vs, rfl, fault_at (G2.keeps k), he, hcls, hd, h1, h₂ h' e tk ⟨k, ne, oe, vs, a0, he, hcls, hd, h1, h0⟩⟩
end
end
section
variable {M : Model} {A : Around} {E : Value → Shared → Prop} {s : Shared} {env : Env} {pos : Pos}
theorem sNil {Q : Flow → Shared → Prop} (h : Q .next s) : wpS M A (execs [] env) Q E s := ofAny (wpAny_execs_nil h)
theorem sCons {st : Stmt} {rest : List Stmt} {Q : Flow → Shared → Prop}
    (h : wpS M A (exec st env) (fun f s' => match f with | .next => wpS M A (execs rest env) Q E s' | f => Q f s') E s) : wpS M A (execs (st :: rest) env) Q E s := by
  rw [execs_cons]
  refine sBind (sMono h (fun f s' h' => ?_) fun _ _ x => x)
  cases f <;> first | exact h' | exact sPure h'
theorem sRet {e : Expr} {Q : Flow → Shared → Prop} (h : wpS M A (eval e env) (fun v => Q (.ret v)) E s) : wpS M A (exec (.Return (some e) pos) env) Q E s := by
  rw [exec_Return_some]
  exact sAt (sBind (sMono h (fun _ _ x => sPure x) fun _ _ x => x))
theorem sAsg {x : Str} {px : Pos} {value : Expr} {Q : Flow → Shared → Prop} (hs : swapsWith value (some (.Name x px)) pos.line env = pure false)
    (h : wpS M A (eval value env) (fun v s₁ => wpAny M A (storeName env x v) (fun _ => Q .next) E s₁) E s) : wpS M A (exec (.Assign [.Name x px] value pos) env) Q E s := by
  rw [exec_Assign_Name env x px value pos hs]
  exact sAt (sBind (sMono h (fun v s₁ h₁ => sAt (sBindA (wpAny_bindName (wpAny_mono h₁ (fun _ _ x => sPure x) fun _ _ x => x)))) fun _ _ x => x))
theorem sIf {test : Expr} {body orelse : List Stmt} {Q : Flow → Shared → Prop}
    (h : wpS M A (isTrue test env (eval test env)) (fun b s₂ => if b then wpS M A (execs body env) Q E s₂ else wpS M A (execs orelse env) Q E s₂) E s) :
    wpS M A (exec (.If test body orelse pos) env) Q E s := by
  rw [exec_If]
  refine sAt (sBind (sMono h (fun b s₁ h₁ => ?_) fun _ _ x => x))
  cases b <;> exact h₁
theorem sCmp {l r : Expr} {op : CmpOp} {Q : Value → Shared → Prop} (hm : behindInMarks op r = false)
    (h : wpS M A (eval l env) (fun a s₁ => wpS M A (eval r env) (fun b s₂ => wpAny M A (compareOp op a b) Q E s₂) E s₁) E s) :
    wpS M A (eval (.Compare l [op] [r] pos) env) Q E s := by
  rw [eval_Compare1, markedBehindIn_of_false hm]
  exact sBind (sMono h (fun a s₁ h₁ => sBind (sHold (sMono h₁ (fun b s₂ h₂ => sAt (sOperate (ofAny h₂))) fun _ _ x => x))) fun _ _ x => x)
theorem sTst {l r : Expr} {op : CmpOp} {whole : Sem Value} {Q : Bool → Shared → Prop} (hm : behindInMarks op r = false)
    (h : wpS M A (eval l env) (fun a s₁ => wpS M A (eval r env) (fun b s₂ => wpAny M A (compareOp op a b) (fun c s₃ => wpAny M A (truthy c) Q E s₃) E s₂) E s₁) E s) :
    wpS M A (isTrue (.Compare l [op] [r] pos) env whole) Q E s := by
  rw [isTrue_Compare1, markedBehindIn_of_false hm]
  exact sBind (sMono h (fun a s₁ h₁ => sBind (sHold (sMono h₁ (fun b s₂ h₂ => sAt (sBind (sOperate (ofAny (wpAny_mono h₂ (fun c s₃ h₃ => sHold (ofAny h₃)) fun _ _ x => x))))) fun _ _ x => x))) fun _ _ x => x)
theorem sBin {l r : Expr} {op : Operator} {Q : Value → Shared → Prop}
    (h : wpS M A (eval l env) (fun a s₁ => wpS M A (eval r env) (fun b s₂ => wpAny M A (binaryOp op a b) Q E s₂) E s₁) E s) : wpS M A (eval (.BinOp l op r pos) env) Q E s := by
  rw [eval_BinOp]
  exact sBind (sMono h (fun a s₁ h₁ => sBind (sHold (sMono h₁ (fun b s₂ h₂ => sAt (sOperate (ofAny h₂))) fun _ _ x => x))) fun _ _ x => x)
theorem sTBool {op : BoolOp} {values : List Expr} {whole : Sem Value} {Q : Bool → Shared → Prop} (h : wpS M A (allTrue op values env) Q E s) : wpS M A (isTrue (.BoolOp op values pos) env whole) Q E s := by
  rw [arm_isTrue_BoolOp]; exact h
theorem sAllNil {op : BoolOp} {Q : Bool → Shared → Prop} (h : Q (op == .And) s) : wpS M A (allTrue op [] env) Q E s := by rw [arm_allTrue_nil]; exact sPure h
theorem sAndC {x : Expr} {rest : List Expr} {Q : Bool → Shared → Prop}
    (h : wpS M A (isTrue x env (eval x env)) (fun b s₁ => if b then wpS M A (allTrue .And rest env) Q E s₁ else Q false s₁) E s) : wpS M A (allTrue .And (x :: rest) env) Q E s := by
  rw [arm_allTrue_cons]
  refine sBind (sMono h (fun b s₁ h₁ => ?_) fun _ _ x => x)
  cases b
  · exact sPure h₁
  · exact h₁
theorem sOrC {x : Expr} {rest : List Expr} {Q : Bool → Shared → Prop}
    (h : wpS M A (isTrue x env (eval x env)) (fun b s₁ => if b then Q true s₁ else wpS M A (allTrue .Or rest env) Q E s₁) E s) : wpS M A (allTrue .Or (x :: rest) env) Q E s := by
  rw [arm_allTrue_cons]
  refine sBind (sMono h (fun b s₁ h₁ => ?_) fun _ _ x => x)
  cases b
  · exact h₁
  · exact sPure h₁
theorem sTNot {x : Expr} {whole : Sem Value} {Q : Bool → Shared → Prop} (h : wpS M A (isTrue x env (eval x env)) (fun b s₁ => Q (!b) s₁) E s) : wpS M A (isTrue (.UnaryOp .Not x pos) env whole) Q E s := by
  rw [arm_isTrue_UnaryOp]
  exact sBind (sMono h (fun b s₁ h₁ => sPure h₁) fun _ _ x => x)

theorem sArgsN {Q : List Value → Shared → Prop} (h : Q [] s) : wpS M A (spliced (backTo pos (starEach [] env))) Q E s := ofAny (spliced_nil h)
theorem sArgsC {e : Expr} {r : List Expr} {Q : List Value → Shared → Prop} (he : starEach (e :: r) env = (false, eval e env) :: starEach r env)
    (h : wpS M A (eval e env) (fun v s₁ => wpS M A (spliced (backTo pos (starEach r env))) (fun vs s₂ => Q (v :: vs) s₂) E s₁) E s) : wpS M A (spliced (backTo pos (starEach (e :: r) env))) Q E s := by
  rw [he]
  show wpS M A (do
    let v ← eval e env
    let here ← (pure [v] : Sem (List Value))
    return here ++ (← holding here (spliced (backTo pos (starEach r env))))) Q E s
  exact sBind (sMono h (fun v s₁ h₁ => sBind (sPure (sBind (sHold (sMono h₁ (fun vs s₂ h₂ => sPure h₂) fun _ _ x => x))))) fun _ _ x => x)
theorem sEvalArgs {f : Value} {args : List (Bool × Sem Value)} {Q : Args → Shared → Prop} (hp : args.any (·.1) = false)
    (h : wpS M A (spliced args) (fun vs s' => Q ⟨vs, []⟩ s') E s) : wpS M A (evalArgs f true args []) Q E s := by
  cases args with
  | nil =>
    unfold evalArgs
    show wpS _ _ (spliced [] >>= _) Q E s
    exact sBind (sMono h (fun vs s' h' => sHold (sBind (sPure (sBind (sPure (sPure h')))))) fun _ _ x => x)
  | cons a r =>
    obtain ⟨b, x⟩ := a
    obtain rfl : b = false := by simp at hp; exact hp.1
    unfold evalArgs
    show wpS M A (spliced ((false, x) :: r) >>= _) Q E s
    exact sBind (sMono h (fun vs s' h' => sHold (sBind (sPure (sBind (sPure (sPure h')))))) fun _ _ x => x)
theorem sTail {t : Sem Value} {Q : Value → Shared → Prop} (ht : wpS M A t Q E s) : wpS M A (t >>= fun r => holding [r] point >>= fun _ => pure r) Q E s :=
  sBind (sMono ht (fun r s₂ hr => sBindA (wpAny_holding (wpAny_point (sPure hr)))) fun _ _ x => x)
theorem sCallWithB {id : String} {first : List Value} {args : List (Bool × Sem Value)} {Q : Value → Shared → Prop} (hplain : args.any (·.1) = false)
    (h : wpS M A (spliced args) (fun vs s₁ => wpS M A (call (.builtin id) (first ++ vs)) Q E s₁) E s) : wpS M A (callWith pos (.builtin id) first args []) Q E s := by
  unfold callWith
  refine sBind (sHold (sMono (sEvalArgs (Q := fun a s₁ => wpS M A (call (.builtin id) (first ++ a.pos) a.kw) Q E s₁) hplain h) (fun a s₁ h₁ => sAt ?_) fun _ _ x => x))
  simp only [hplain, List.any_nil, Bool.or_false]
  exact sBindA (wpAny_pure (sTail h₁))
theorem sCallWithF {a : Addr} {o : Obj} {fd : FuncData} {first : List Value} {args : List (Bool × Sem Value)} {Q : Value → Shared → Prop} (hplain : args.any (·.1) = false)
    (h : wpS M A (spliced args) (fun vs s₁ => (s₁.heap.get? a = some o ∧ o.data = .func fd) ∧ wpS M A (call (.ref a) (first ++ vs)) Q E s₁) E s) :
    wpS M A (callWith pos (.ref a) first args []) Q E s := by
  unfold callWith
  refine sBind (sHold (sMono (sEvalArgs (Q := fun x s₁ => (s₁.heap.get? a = some o ∧ o.data = .func fd) ∧ wpS M A (call (.ref a) (first ++ x.pos) x.kw) Q E s₁) hplain h) (fun x s₁ h₁ => sAt ?_) fun _ _ x => x))
  simp only [hplain, List.any_nil, Bool.or_false]
  refine sBindA (m := keeperOf (.ref a)) ?_
  unfold keeperOf
  refine wpAny_bind (wpAny_load h₁.1.1 ?_)
  rw [h₁.1.2]
  refine wpAny_pure ?_
  dsimp only
  split
  · exact sTail h₁.2
  · refine sTail ?_
    unfold callMarked
    exact sKeep h₁.2
theorem sMeth {o : Expr} {name : Str} {apos : Pos} {args : List Expr} {Q : Value → Shared → Prop}
    (he : eval (.Call (.Attribute o name apos) args [] pos) env = (do
      let ov ← eval o env
      standAt apos.atName
      let (f, first) ← holding [ov] (getMethod ov name (plOf o env))
      callWith pos f first (backTo pos (starEach args env)) []))
    (h : wpS M A (eval o env) (fun ov s₁ => wpAny M A (getMethod ov name (plOf o env)) (fun fx s₂ => wpS M A (callWith pos fx.1 fx.2 (backTo pos (starEach args env)) []) Q E s₂) E s₁) E s) :
    wpS M A (eval (.Call (.Attribute o name apos) args [] pos) env) Q E s := by
  rw [he]
  refine sBind (sMono h (fun ov s₁ h₁ => sAt (sBindA (wpAny_holding (wpAny_mono h₁ (fun fx s₂ h₂ => ?_) fun _ _ x => x)))) fun _ _ x => x)
  exact h₂
theorem sWhile {test : Expr} {body orelse : List Stmt} {Q : Flow → Shared → Prop}
    (h : codeS M A (.whileLoop test body orelse env) (fun r s' => match r with | .ok f => Q f s' | .error e => cameBackBy M A env E e s') s) : wpS M A (exec (.While test body orelse pos) env) Q E s := by
  rw [exec_While]; exact sAt (sRunOwn h)
theorem sFor {target iter : Expr} {body orelse : List Stmt} {Q : Flow → Shared → Prop}
    (h : wpS M A (eval iter env) (fun x s₁ => wpAny M A (pyIter x) (fun it s₂ =>
      codeS M A (.forLoop target it body orelse env) (fun r s' => match r with | .ok f => Q f s' | .error e => cameBackBy M A env E e s') s₂) E s₁) E s)
    (hs : ∀ x, foldedSetIterable iter env x = pure x := by intro _; rfl) : wpS M A (exec (.For target iter body orelse pos) env) Q E s := by
  rw [exec_For]
  refine sAt (sBind (sMono h (fun x s₁ h₁ => ?_) fun _ _ h' => h'))
  rw [hs x]
  exact sBindA (wpAny_pure (sAt (sBindA (wpAny_holding (wpAny_mono h₁ (fun it s₂ h₂ => sRunOwn h₂) fun _ _ h' => h')))))
end

section
variable {prog : Program} {w : World} {A : Around} {E : Value → Shared → Prop} {s : Shared} {env : Env} {pos : Pos} {R : Result → Shared → Prop}
theorem sExpr {e : Expr} {Q : Flow → Shared → Prop} (hi : interactive env = false) (hs : swapsWith e none pos.line env = pure false)
    (h : wpS (model prog w) A (eval e env) (fun _ => Q .next) E s) : wpS (model prog w) A (exec (.Expr e pos) env) Q E s := by
  rw [exec_Expr env e pos hi hs]
  exact sAt (sBind (sMono h (fun v s' h' => ofAny (wpAny_dropValue h')) fun _ _ x => x))
theorem sCallN {f : Addr} {x : Str} {np : Pos} {args : List Expr} {Q : Value → Shared → Prop} {o : Obj} {fd : FuncData}
    (ho : (KK w).lookup f = some o) (hd : o.data = .func fd) (hp : (backTo pos (starEach args env)).any (·.1) = false)
    (h : wpAny (model prog w) A (eval (.Name x np) env) (fun v s₁ => v = .ref f ∧ wpS (model prog w) A (spliced (backTo pos (starEach args env))) (fun vs s₂ => G0 w s₂.heap ∧ wpS (model prog w) A (call (.ref f) vs) Q E s₂) E s₁) E s) :
    wpS (model prog w) A (eval (.Call (.Name x np) args [] pos) env) Q E s := by
  show wpS _ A (do callWith pos (← eval (.Name x np) env) [] (backTo pos (starEach args env)) (backToKw pos (keywordEach [] env))) Q E s
  refine sBindA (wpAny_mono h (fun v s₁ h₁ => ?_) fun _ _ x => x)
  obtain ⟨rfl, h₁⟩ := h₁
  exact sCallWithF (o := o) (fd := fd) hp (sMono h₁ (fun vs s₂ h₂ => ⟨⟨h₂.1.kin _ _ ho, hd⟩, h₂.2⟩) fun _ _ x => x)
theorem sCallM {f : Value} {x : Str} {np : Pos} {args : List Expr} {Q : Value → Shared → Prop}
    (hf : keeperOf f = pure .machine) (hp : (backTo pos (starEach args env)).any (·.1) = false)
    (h : wpAny (model prog w) A (eval (.Name x np) env) (fun v s₁ => v = f ∧ wpS (model prog w) A (spliced (backTo pos (starEach args env))) (fun vs s₂ => wpS (model prog w) A (call f vs) Q E s₂) E s₁) E s) :
    wpS (model prog w) A (eval (.Call (.Name x np) args [] pos) env) Q E s := by
  show wpS _ A (do callWith pos (← eval (.Name x np) env) [] (backTo pos (starEach args env)) (backToKw pos (keywordEach [] env))) Q E s
  refine sBindA (wpAny_mono h (fun v s₁ h₁ => ?_) fun _ _ x => x)
  obtain ⟨rfl, h₁⟩ := h₁
  show wpS _ _ (callWith pos v [] _ []) _ _ _
  unfold callWith
  refine sBind (sHold (sMono (sEvalArgs (Q := fun a s₂ => wpS (model prog w) A (call v ([] ++ a.pos) a.kw) Q E s₂) hp h₁) (fun a s₂ h₂ => sAt ?_) fun _ _ x => x))
  simp only [hp, List.any_nil, Bool.or_false]
  rw [hf]
  exact sBindA (wpAny_pure (sTail h₂))

theorem codeS_while {test : Expr} {body orelse : List Stmt} (I : Nat → Shared → Prop)
    (turn : ∀ n s, I n s →
      wpS (model prog w) A (isTrue test env (eval test env)) (fun b s₂ =>
        if b then wpS (model prog w) A (execs body env) (fun f s₃ => match f with
            | .next | .cont => ∃ m, m < n ∧ I m s₃
            | .brk => R (.ok .next) s₃
            | .ret v => R (.ok (.ret v)) s₃) (notedBy (model prog w) A env fun e s' => R (.error e) s') s₂
        else wpS (model prog w) A (execs orelse env) (fun f s₃ => R (.ok f) s₃) (notedBy (model prog w) A env fun e s' => R (.error e) s') s₂)
        (notedBy (model prog w) A env fun e s' => R (.error e) s') s)
    (n : Nat) (h : I n s) : codeS (model prog w) A (.whileLoop test body orelse env) R s := by
  refine codeS_loop rfl rfl I (fun n s hI => ?_) n h
  show wpS _ A ((whileTurn test body orelse env).onRaise (fun x => do noteFrame x env; theTreesLotGoes x)) _ _ s
  refine sNoted ?_
  simp only [whileTurn]
  refine sBind (sMono (turn n s hI) (fun b s₂ h₂ => ?_) fun _ _ h' => h')
  cases b with
  | false => exact sBind (sMono h₂ (fun f s₃ h₃ => sPure h₃) fun _ _ h' => h')
  | true =>
    refine sBind (sMono h₂ (fun f s₃ h₃ => ?_) fun _ _ h' => h')
    cases f with
    | next => exact sPure (.inl ⟨rfl, h₃⟩)
    | cont => exact sPure (.inl ⟨rfl, h₃⟩)
    | brk => exact sPure h₃
    | ret v => exact sPure h₃
theorem codeS_block {stmts : List Stmt} (h : wpS (model prog w) A (execs stmts env) (fun f s' => R (.ok f) s') (notedBy (model prog w) A env fun e s' => R (.error e) s') s) : codeS (model prog w) A (.block stmts env) R s := by
  refine codeS_tree rfl ?_
  show wpS _ _ (do return Fin.done (← (execs stmts env).onRaise (fun x => do noteFrame x env; theTreesLotGoes x))) _ _ s
  exact sBind (sNoted (sMono h (fun f s' h' => sPure h') fun _ _ h' => h'))
theorem codeS_for {target : Expr} {it : Value} {body orelse : List Stmt} (I : Nat → Shared → Prop)
    (turn : ∀ n s, I n s → wpAny (model prog w) A (pyNext it) (fun r s₁ => match r with
      | none => wpS (model prog w) A (execs orelse env) (fun f s₃ => R (.ok f) s₃) (notedBy (model prog w) A env fun e s' => R (.error e) s') s₁
      | some v => wpAny (model prog w) A (assign target env v) (fun _ s₂ => wpS (model prog w) A (execs body env) (fun f s₃ => match f with
          | .next | .cont => ∃ m, m < n ∧ I m s₃
          | .brk => R (.ok .next) s₃
          | .ret v => R (.ok (.ret v)) s₃) (notedBy (model prog w) A env fun e s' => R (.error e) s') s₂) (notedBy (model prog w) A env fun e s' => R (.error e) s') s₁) (notedBy (model prog w) A env fun e s' => R (.error e) s') s)
    (n : Nat) (h : I n s) (ht : ∀ v, letOwnedTupleGo target it v = pure () := by intro _; rfl) : codeS (model prog w) A (.forLoop target it body orelse env) R s := by
  refine codeS_loop rfl rfl I (fun n s hI => ?_) n h
  show wpS _ _ ((forTurn target it body orelse env).onRaise (fun x => do noteFrame x env; theTreesLotGoes x)) _ _ s
  refine sNoted ?_
  simp only [forTurn]
  refine sAt (sBind (sOnRaise (ofAny (wpAny_mono (turn n s hI) (fun r s₁ h₁ => ?_) fun _ _ h' => wpAny_standAt h'))))
  cases r with
  | none => exact sPure (.inr ⟨rfl, codeS_block h₁⟩)
  | some v =>
    refine sBindA (m := letOwnedTupleGo target it v) ?_
    rw [ht v]
    refine wpAny_pure ?_
    refine sBindA (wpAny_mono h₁ (fun _ s₂ h₂ => sBind (sMono h₂ (fun f s₃ h₃ => ?_) fun _ _ h' => h')) fun _ _ h' => h')
    cases f with
    | next => exact sPure (.inl ⟨rfl, h₃⟩)
    | cont => exact sPure (.inl ⟨rfl, h₃⟩)
    | brk => exact sPure h₃
    | ret v => exact sPure h₃
theorem codeS_func {body : List Stmt}
    (h : wpS (model prog w) (A.deeper env) (execs body env) (fun f s' => R (.ok (.ret (match f with | .ret v => v | _ => .none))) s')
      (fun e s' => wpAny (model prog w) (A.deeper env) (leaving env e) (fun _ s'' => R (.error e) s'') (fun e' s'' => R (.error e') s'') s') s) : codeS (model prog w) A (.func body env) R s := by
  refine codeS_tree rfl ?_
  show wpS _ (A.deeper env) (do point; match ← (execs body env).onRaise (leaving env) with | .ret v => ret v | _ => ret .none) _ _ s
  refine sBindA (wpAny_point (sBind (sOnRaise (sMono h (fun f s' h' => ?_) fun _ _ h' => h'))))
  cases f <;> exact sPure h'
theorem codeS_call_function {a : Addr} {args : Args} {o : Obj} {fd : FuncData} {body : List Stmt} (hroom : A.depth < recursionLimit)
    (ho : s.heap.get? a = some o)
    (hd' : o.data = .func fd) (hco : fd.scope.isCoroutine = false) (hgen : fd.scope.isGenerator = false) (hbody : fd.body = .stmts body) (hcd : s.heap.CodeRec fd.code fd.qualname)
    (h : wpAny (model prog w) A.in1 (bindArgs fd args) (fun binds s₁ =>
      wpAny (model prog w) A.in1 (newFunctionEnv fd.scope fd.globals fd.closure binds (fd.qualname ++ ".<locals>.") (some a) fd.code none fd.builtins)
        (fun env s₂ => s₂.heap.NoLimit ∧ codeS (model prog w) A (.func body env) R s₂) (fun e s' => R (.error e) s') s₁) (fun e s' => R (.error e) s') s) :
    codeS (model prog w) A (.call (.ref a) args) R s := by
  refine codeS_tree rfl ?_
  show wpS _ A.in1 (callAny (.ref a) args) _ _ s
  simp only [callAny]
  refine sBindA (wpAny_load ho ?_)
  obtain ⟨c, oc, vs, tq, hc, hoc, hdc, hq⟩ := hcd
  simp only [hd', callFunction, hco, hgen, hbody, hc]
  rw [hc] at h
  refine sBindA (m := field (.ref c) 1) (wpAny_field hoc hdc hq (sBindA (wpAny_pure ?_)))
  exact sBindA (wpAny_mono h (fun binds s₁ h₁ => sBindA (wpAny_mono h₁ (fun env s₂ h₂ => sBindA (wpAny_enterFrame h₂.1 hroom
    (sPure (And.intro rfl h₂.2)))) fun _ _ h' => h')) fun _ _ h' => h')
theorem codeS_call_plain {name : Str} {params : Arguments} {body : List Stmt} {scope : Scope}
    {pm cd doc : Value} {a : Addr} {o : Obj} {args : List Value} {binds : List (Str × Value)}
    (hroom : A.depth < recursionLimit) (ho : s.heap.get? a = some o) (hdata : o.data = .func (docDef name params body scope pm cd doc)) (hlim : s.heap.NoLimit) (hcd : s.heap.CodeRec cd name)
    (hbind : bindArgs (docDef name params body scope pm cd doc) ⟨args, []⟩ = pure binds)
    (hloc : ∀ x ∈ binds, scope.names.lookup x.1 = some .local)
    (h : ∀ h₁, Fr s.heap s.heap.objs.size h₁ (fun x => binds.reverse.lookup x) →
      wpS (model prog w) (A.deeper (envOf name scope s.heap.objs.size a cd)) (execs body (envOf name scope s.heap.objs.size a cd))
        (fun f s' => R (.ok (.ret (match f with | .ret v => v | _ => .none))) s')
        (fun e s' => wpAny (model prog w) (A.deeper (envOf name scope s.heap.objs.size a cd)) (leaving (envOf name scope s.heap.objs.size a cd) e)
          (fun _ s'' => R (.error e) s'') (fun e' s'' => R (.error e') s'') s')
        { s with heap := h₁, toks := s.toks + binds.length })
    (hco : scope.isCoroutine = false := by rfl) (hgen : scope.isGenerator = false := by rfl) (hk : scope.kind = .function := by rfl)
    (hcell : ∀ x ∈ scope.names, x.2 ≠ .cell := by decide) : codeS (model prog w) A (.call (.ref a) ⟨args, []⟩) R s := by
  refine codeS_call_function hroom ho hdata hco hgen rfl hcd ?_
  rw [hbind]
  refine wpAny_pure (wpAny_newFunctionEnv hcell hloc (fun h₁ hns hsb => ⟨hlim.fresh _ hsb, ?_⟩) hk)
  show codeS _ _ (.func body (envOf name scope s.heap.objs.size a cd)) _ _
  exact codeS_func (h h₁ ⟨hns, fun b o e => hsb.extBut b o (Nat.ne_of_lt (Heap.lt_size e)) (Heap.get?_push_of_some _ e), Nat.le_refl _⟩)
end
open Builtin
theorem ba_mro : mroOf (.type "bytearray") = pure [.type "bytearray", .type "object"] := by rw [mroOf_type]; kernel_rfl
theorem ba_lookup_new : typeLookup (.type "bytearray") "__new__" = pure (some (.builtin "bytearray.__new__")) := by rw [typeLookup_type, builtinLookup_eq_fast]; kernel_rfl
theorem ba_slot_init : Slot "bytearray" "__init__" "bytearray.__init__" :=
  .of (owner := "bytearray") (n := "__init__") (by rw [typeLookup_type, builtinLookup_eq_fast]; kernel_rfl) (by decide +kernel) (by decide +kernel) (by decide +kernel)
    (by first | exact .inl (by decide +kernel) | exact .inr (by decide +kernel)) (by rw [isSubtype_type]; kernel_rfl)
theorem ba_slot_append : Slot "bytearray" "append" "bytearray.append" :=
  .of (owner := "bytearray") (n := "append") (by rw [typeLookup_type, builtinLookup_eq_fast]; kernel_rfl) (by decide +kernel) (by decide +kernel) (by decide +kernel)
    (by first | exact .inl (by decide +kernel) | exact .inr (by decide +kernel)) (by rw [isSubtype_type]; kernel_rfl)
theorem ba_slot_extend : Slot "bytearray" "extend" "bytearray.extend" :=
  .of (owner := "bytearray") (n := "extend") (by rw [typeLookup_type, builtinLookup_eq_fast]; kernel_rfl) (by decide +kernel) (by decide +kernel) (by decide +kernel)
    (by first | exact .inl (by decide +kernel) | exact .inr (by decide +kernel)) (by rw [isSubtype_type]; kernel_rfl)
theorem ba_called : TypeCalled "bytearray" "bytearray.__new__" "bytearray.__init__" :=
  ⟨by decide +kernel, by decide +kernel, ⟨_, _, ba_mro⟩, madeBy_type ba_mro ba_lookup_new (by decide +kernel), by decide +kernel, by rw [isSubtype_type]; kernel_rfl, ba_slot_init⟩
theorem ba_typeCall : checkTypeCall "bytearray" ⟨[], []⟩ = pure () := by kernel_rfl
theorem ba_newCall : checkBuiltinCall "bytearray.__new__" ⟨[.type "bytearray"], []⟩ = pure () := by kernel_rfl
theorem ba_plain_new : plainId "bytearray.__new__" = true := by decide +kernel
theorem ba_entry_new : entryFor table "bytearray.__new__" = some Builtin.«list.__new__» :=
  entryFor_alias (id' := "list.__new__") (by rw [fastTable_eq_tree]; kernel_rfl) (by first | rfl | decide +kernel) (by decide +kernel) (by rw [fastTable_eq_tree]; kernel_rfl)
theorem ba_entry_init : entryFor table "bytearray.__init__" = some Builtin.«bytearray.__init__» := entryFor_of_tree (by kernel_rfl)
theorem ba_entry_append : entryFor table "bytearray.append" = some Builtin.«bytearray.append» := entryFor_of_tree (by kernel_rfl)
theorem ba_entry_extend : entryFor table "bytearray.extend" = some Builtin.«bytearray.extend» := entryFor_of_tree (by kernel_rfl)
theorem ba_sub : isSubtype (.type "bytearray") (.type "bytearray") = pure true := by rw [isSubtype_type]; kernel_rfl
theorem ba_owner_new : ("bytearray.__new__".splitOn ".__new__").headD "" = "bytearray" := by simp +decide [String.splitOn, String.splitOnAux]

def BArr (h : Heap) (a : Addr) (b : Array UInt8) : Prop := h.get? a = some { cls := .type "bytearray", data := .bytearray b }

section
variable {prog : Program} {w : World} {A : Around} {E : Value → Shared → Prop} {s : Shared}
theorem ba_code_new {Q₁ : Value → Shared → Prop}
    (h : Q₁ (.ref s.heap.objs.size) { s with heap := s.heap.push { cls := .type "bytearray", data := .bytearray #[] } }) :
    codeAny (model prog w) A (.call (.builtin "bytearray.__new__") ⟨[.type "bytearray"], []⟩) (wants Q₁ E) s := by
  refine codeAny_of_tree ?_
  show wpAny _ A.in1 (do checkBuiltinCall "bytearray.__new__" ⟨[.type "bytearray"], []⟩; again (.builtin "bytearray.__new__" ⟨[.type "bytearray"], []⟩)) _ _ s
  refine wpAny_bind (wpAny_of_eq ba_newCall (wpAny_pure ⟨plainId_quiet ba_plain_new _, codeAny_builtin_stack ba_entry_new rfl fun p st => ?_⟩))
  rw [Around.under_plainId ba_plain_new _]
  have hsub := ba_sub
  have hown := ba_owner_new
  obtain ⟨hp, g, d, tk, os⟩ := s
  simp only [hown]
  wp_walk
  exact h

theorem codeS_builtin {id : String} {args : Args} {b : Builtin} {R : Result → Shared → Prop} (hok : badIds.contains id = false) (hb : entryFor table id = some b)
    (h : wpS (model prog w) (A.under (.builtin id args)) (b args)
      (fun fin s' => match fin with | .done f => R (.ok f) s' | .again c' => c'.quiet = true ∧ codeS (model prog w) A c' R s') (fun e s' => R (.error e) s') s) :
    codeS (model prog w) A (.builtin id args) R s := by
  refine codeS_tree (by simp only [okC, hok, Bool.not_false]) ?_
  show wpS _ _ (match entryFor table id with | some b => b args | none => unsupported ((withoutEnding? id "#data").getD id)) _ _ s
  rw [hb]; exact h
theorem codeS_call_builtin {id : String} {args : Args} {b : Builtin} {R : Result → Shared → Prop} (hq : plainId id = true) (hok : badIds.contains id = false) (hb : entryFor table id = some b)
    (h : wpAny (model prog w) A.in1 (checkBuiltinCall id args) (fun _ s₁ => wpS (model prog w) A.in1 (b args)
      (fun fin s' => match fin with | .done f => R (.ok f) s' | .again c' => c'.quiet = true ∧ codeS (model prog w) A c' R s') (fun e s' => R (.error e) s') s₁)
      (fun e s' => R (.error e) s') s) : codeS (model prog w) A (.call (.builtin id) args) R s := by
  refine codeS_tree rfl ?_
  show wpS _ A.in1 (do checkBuiltinCall id args; again (.builtin id args)) _ _ s
  exact sBindA (wpAny_mono h (fun _ s₁ h₁ => sPure (And.intro (plainId_quiet hq args) (codeS_builtin hok hb (by rw [Around.under_plainId hq args]; exact h₁)))) fun _ _ h' => h')
theorem sCallEntry {T : String} {name : Str} {id : String} {b : Builtin} {self : Value} {rest : List Value} {Q : Value → Shared → Prop} (h : Slot T name id) (hT : s.TypeIs self T)
    (hok : badIds.contains id = false) (hb : entryFor table id = some b)
    (hc : wpS (model prog w) A.in1 (b ⟨self :: rest, []⟩) (fun fin s' => ∃ v, fin = .done (.ret v) ∧ Q v s') E s)
    (ha : argsOk id ⟨self :: rest, []⟩ := by rfl) : wpS (model prog w) A (call (.builtin id) (self :: rest)) Q E s := by
  refine sCall (codeS_call_builtin h.plain hok hb (h.check _ _ _ _ _ _ _ _ hT ha (sMono hc (fun fin s' h' => ?_) fun _ _ h' => h')))
  obtain ⟨v, rfl, hv⟩ := h'; exact hv

/-- a step of a checkResize on a clean stack -/
theorem sCheckResize {a : Addr} {b : Array UInt8} {Q : Unit → Shared → Prop} (hb : BArr s.heap a b) (h : Q () s) : wpS (model prog w) A (Bytes.checkResize (.ref a)) Q E s := by
  unfold Bytes.checkResize
  refine sBind ?_
  refine sBind (sExported ?_)
  show wpS _ _ (do return decide ((← Bytes.exportsOf (.ref a)) > 0)) _ _ _
  unfold Bytes.exportsOf
  refine sBindA (wpAny_bind (wpAny_load hb ?_))
  refine wpAny_pure (sPure ?_)
  exact sPure h
theorem sWrite {a : Addr} {b : Array UInt8} {f : Array UInt8 → Array UInt8} {Q : Unit → Shared → Prop} (hb : BArr s.heap a b) (hz : (f b).size ≤ sizeLine) (h : ∀ h', BArr h' a (f b) → Heap.SameBut a s.heap h' → Q () { s with heap := h' }) :
    wpAny (model prog w) A (Bytes.write (.ref a) f) Q E s := by
  show wpAny _ _ (updateBytearray a f) _ _ _
  unfold updateBytearray
  refine wpAny_bind (wpAny_load hb ?_)
  show wpAny _ _ (update a (Obj.mapBytearray f) >>= fun _ => lookBehind a) _ _ _
  refine wpAny_bind (wpAny_update hb ?_)
  have hS₂ : (s.heap.update a (Obj.mapBytearray f)).get? a = some { cls := .type "bytearray", data := .bytearray (f b) } := Heap.get?_update_self (Obj.mapBytearray f) hb rfl
  refine wpAny_lookBehind hS₂ ?_ (h _ hS₂ (Heap.SameBut.update ..))
  show (if (f b).size > sizeLine then some "bytearray:memory" else none) = none
  rw [if_neg (by omega)]

theorem ba_append {a : Addr} {b : Array UInt8} {i : Int} {t : Tok} {Q : Value → Shared → Prop} (hb : BArr s.heap a b) (h0 : 0 ≤ i) (h1 : i < 256) (hz : b.size < sizeLine)
    (h : ∀ h', BArr h' a (b.push i.toNat.toUInt8) → Heap.SameBut a s.heap h' → Q .none { s with heap := h' }) :
    wpS (model prog w) A (call (.builtin "bytearray.append") [.ref a, .int i t]) Q E s := by
  refine sCallEntry ba_slot_append ⟨_, hb, rfl⟩ (by decide) ba_entry_append ?_
  unfold Builtin.«bytearray.append»
  refine sBindA (wpAny_of_eq (a := (.ref a, .int i t)) rfl ?_)
  show wpS _ _ (Bytes.byteValue (.int i t) >>= _) _ _ _
  unfold Bytes.byteValue
  refine sBind (sBindA (wpAny_of_eq (rfl : asIndex (.int i t) = pure i) ?_))
  have hn : (decide (i < 0) || decide (i ≥ 256)) = false := by simp only [Bool.or_eq_false_iff, decide_eq_false_iff_not]; omega
  simp only [hn, Bool.false_eq_true, if_false]
  refine sPure (sBind (sCheckResize hb ?_))
  exact sBindA (sWrite hb (by simp; omega) fun h' k1 k2 => sPure ⟨_, rfl, h h' k1 k2⟩)

theorem ba_buf_bytes : typeLookup (.type "bytes") "__buffer__" = pure (some (.builtin "bytes.__buffer__")) := by rw [typeLookup_type, builtinLookup_eq_fast]; kernel_rfl
theorem ba_buf : typeLookup (.type "bytearray") "__buffer__" = pure (some (.builtin "bytearray.__buffer__")) := by rw [typeLookup_type, builtinLookup_eq_fast]; kernel_rfl
theorem ba_rel_bytes : typeLookup (.type "bytes") "__release_buffer__" = pure none := by rw [typeLookup_type, builtinLookup_eq_fast]; kernel_rfl
theorem ba_rel : typeLookup (.type "bytearray") "__release_buffer__" = pure (some (.builtin "bytearray.__release_buffer__")) := by rw [typeLookup_type, builtinLookup_eq_fast]; kernel_rfl
theorem slotOwn {M : Model} {v : Value} {T id name : String} {Q : Bool → Shared → Prop} (hT : s.TypeIs v T) (hl : typeLookup (.type T) name = pure (some (.builtin id))) (he : id.endsWith ("." ++ name) = true)
    (hd : id.dropRight (name.length + 1) = T) (hs : isSubtype (.type T) (.type T) = pure true) (h : Q true s) : wpAny M A (Bytes.slotIsOwn v name) Q E s := by
  unfold Bytes.slotIsOwn
  refine wpAny_bind (wpAny_specialOf hT hl ?_)
  dsimp only
  rw [he, hd]
  simp only [Bool.not_true, Bool.false_eq_true, if_false]
  exact wpAny_isInstance hT hs h
theorem ba_take {b : Array UInt8} {t : Tok} {Q : Option (Array UInt8 × Option Value) → Shared → Prop} (h : Q (some (b, none)) s) : wpAny (model prog w) A (Bytes.takeBufferQuiet? "bytearray.extend" (.bytes b t) 0) Q E s := by
  have hT : s.TypeIs (.bytes b t) "bytes" := typeIs_bytes _ _ _
  obtain ⟨hp, g, d, tk, os⟩ := s
  have f1 := ba_buf_bytes
  have f2 := ba_rel_bytes
  repeat (first | with_reducible refine slotOwn hT ba_buf_bytes (by decide +kernel) (by decide +kernel) F.bm_sub ?_ | wp_step)
  exact h

theorem ba_extend {a : Addr} {b c : Array UInt8} {t : Tok} {Q : Value → Shared → Prop} (hb : BArr s.heap a b) (hz : b.size + c.size ≤ sizeLine)
    (h : ∀ h', BArr h' a (b ++ c) → Heap.SameBut a s.heap h' → Q .none { s with heap := h' }) :
    wpS (model prog w) A (call (.builtin "bytearray.extend") [.ref a, .bytes c t]) Q E s := by
  refine sCallEntry ba_slot_extend ⟨_, hb, rfl⟩ (by decide) ba_entry_extend ?_
  unfold Builtin.«bytearray.extend»
  refine sBindA (wpAny_of_eq (a := (.ref a, .bytes c t)) rfl ?_)
  dsimp only
  refine sBindA (wpAny_specialOf (typeIs_bytes _ _ _) ba_buf_bytes ?_)
  show wpS _ _ (rule "bytearray.extend.bytes-like" >>= _) _ _ _
  refine sBindA (wpAny_rule ?_)
  refine sBindA (wpAny_bind (m := Bytes.payload? (.ref a)) (wpAny_bind (wpAny_load hb (wpAny_pure (wpAny_pure ?_)))))
  refine sBindA (ba_take ?_)
  dsimp only
  show wpS _ _ ((do
    if !c.isEmpty then Bytes.checkResize (.ref a)
    Bytes.write (.ref a) (· ++ c)
    ret .none) : Sem Fin) _ _ _
  have hw : wpS (model prog w) A.in1 (do Bytes.write (.ref a) (· ++ c); ret .none) (fun fin s' => ∃ v, fin = .done (.ret v) ∧ Q v s') E s :=
    sBindA (sWrite hb (by simp; omega) fun h' k1 k2 => sPure ⟨_, rfl, h h' k1 k2⟩)
  cases c.isEmpty with
  | true => exact hw
  | false => exact sBind (sCheckResize hb hw)

theorem ba_bytes_none : typeLookup (.type "bytearray") "__bytes__" = pure none := by rw [typeLookup_type, builtinLookup_eq_fast]; kernel_rfl
theorem ba_index_none : typeLookup (.type "bytearray") "__index__" = pure none := by rw [typeLookup_type, builtinLookup_eq_fast]; kernel_rfl
theorem ba_buffer {a : Addr} {b : Array UInt8} {Q : Option (Array UInt8) → Shared → Prop} (hb : BArr s.heap a b) (h : Q (some b) s) : wpAny (model prog w) A (Bytes.buffer? "bytes.__new__" (.ref a) true) Q E s := by
  have hT : s.TypeIs (.ref a) "bytearray" := ⟨_, hb, rfl⟩
  obtain ⟨hp, g, d, tk, os⟩ := s
  have f1 := ba_buf
  repeat (first | with_reducible refine slotOwn hT ba_buf (by decide +kernel) (by decide +kernel) ba_sub ?_ | with_reducible refine slotOwn hT ba_rel (by decide +kernel) (by decide +kernel) ba_sub ?_ | with_reducible refine wpAny_load hb ?_ | wp_step)
  exact h

theorem ba_code_bytes {a : Addr} {b : Array UInt8} {Q : Value → Shared → Prop} (hb : BArr s.heap a b) (hz : b.size ≤ sizeLine)
    (hQ : Q (.bytes b s.toks) { s with toks := s.toks + 1 }) :
    codeAny (model prog w) A (.call (.builtin "bytes.__new__") ⟨[.type "bytes", .ref a], []⟩) (wants Q E) s := by
  have hT : s.TypeIs (.ref a) "bytearray" := ⟨_, hb, rfl⟩
  refine codeAny_of_tree ?_
  show wpAny _ A.in1 (do checkBuiltinCall "bytes.__new__" ⟨[.type "bytes", .ref a], []⟩; again (.builtin "bytes.__new__" ⟨[.type "bytes", .ref a], []⟩)) _ _ s
  refine wpAny_bind (wpAny_of_eq (F.bm_newCall _) (wpAny_pure ⟨plainId_quiet F.bm_plain _, codeAny_builtin F.bm_entry ?_⟩))
  rw [Around.under_plainId F.bm_plain _]
  unfold Builtin.«bytes.__new__»
  refine wpAny_bind (wpAny_of_eq (a := true) rfl ?_)
  refine bm_if_false rfl ?_
  refine wpAny_bind (wpAny_of_eq F.bm_sub ?_)
  refine bm_if_false rfl ?_
  refine wpAny_bind (wpAny_of_eq (F.bm_bind _) ?_)
  refine wpAny_bind (wpAny_of_eq (a := ()) rfl ?_)
  refine wpAny_bind (wpAny_of_eq (a := ()) rfl ?_)
  refine bm_if_false rfl ?_
  refine wpAny_bind (wpAny_specialOf hT ba_bytes_none ?_)
  refine wpAny_bind (wpAny_bind ?_)
  show wpAny _ _ (load a >>= _) _ _ _
  refine wpAny_bind (wpAny_load hb ?_)
  refine wpAny_pure (wpAny_pure ?_)
  refine bm_if_false rfl ?_
  refine wpAny_bind (wpAny_specialOf hT ba_index_none ?_)
  refine bm_if_true rfl ?_
  show wpAny _ _ (Bytes.buffer? "bytes.__new__" (.ref a) true >>= _) _ _ _
  refine wpAny_bind (ba_buffer hb ?_)
  refine wpAny_bind (wpAny_rule (wpAny_bind (wpAny_mkBytes ?_ hz)))
  show wpAny _ _ (if (Value.type "bytes" == Value.type "bytes") = true then _ else _) _ _ _
  refine bm_if_true (by decide) ?_
  first
    | exact wpAny_pure hQ
    | exact wpAny_bind (wpAny_pure (wpAny_pure hQ))
theorem ba_to_bytes {a : Addr} {b : Array UInt8} {Q : Value → Shared → Prop} (hb : BArr s.heap a b) (hz : b.size ≤ sizeLine)
    (hQ : ∀ t k, Q (.bytes b t) { s with toks := k }) : wpAny (model prog w) A (call (.type "bytes") [.ref a]) Q E s := by
  refine callType_codes (Q₁ := fun obj s₁ => s₁.TypeIs obj "bytes" ∧ Q obj s₁) F.bm_called (F.bm_typeCall _) F.entry_object_init
    (ba_code_bytes hb hz ⟨PySem.W.typeIs_bytes _ _ _, hQ _ _⟩) fun obj s₁ h₁ => ?_
  exact ⟨h₁.1, F.args_object_init_2 obj _, object_init_meets F.bm_called.init.lookup F.bm_called.made (by decide) prog w A.in1 _ s₁ ⟨h₁.1, rfl, h₁.2⟩⟩

/-- the empty bytearray -/
theorem ba_init {a : Addr} {Q : Value → Shared → Prop} (hb : BArr s.heap a #[]) (h : ∀ h', BArr h' a #[] → Heap.SameBut a s.heap h' → Q .none { s with heap := h' }) :
    wpS (model prog w) A (call (.builtin "bytearray.__init__") [.ref a]) Q E s := by
  refine sCallEntry ba_slot_init ⟨_, hb, rfl⟩ (by decide) ba_entry_init ?_ (by rfl)
  unfold Builtin.«bytearray.__init__»
  have hT : s.TypeIs (.ref a) "bytearray" := ⟨_, hb, rfl⟩
  unfold Bytes.ownRelease
  refine sBindA (wpAny_bind (slotOwn hT ba_rel (by decide +kernel) (by decide +kernel) ba_sub (wpAny_pure ?_)))
  show wpS _ _ (Bytes.bindOptional "bytearray.__init__" "bytearray" ["source", "encoding", "errors"] [] [] >>= _) _ _ _
  refine sBindA (wpAny_of_eq (a := [none, none, none]) rfl ?_)
  refine sBindA (wpAny_of_eq (a := ()) rfl ?_)
  refine sBindA (wpAny_of_eq (a := ()) rfl ?_)
  refine sBind (sBind (sExported ?_))
  show wpS _ _ (do return decide ((← Bytes.exportsOf (.ref a)) > 0)) _ _ _
  unfold Bytes.exportsOf
  refine sBindA (wpAny_bind (wpAny_load hb (wpAny_pure (sPure ?_))))
  show wpS _ _ (Bytes.write (.ref a) (fun _ => #[]) >>= _) _ _ _
  exact sBindA (sWrite hb (by decide) fun h' k1 k2 => sPure ⟨_, rfl, h h' k1 k2⟩)

theorem ba_new {Q : Value → Shared → Prop} (h : ∀ h' a, BArr h' a #[] → s.heap.get? a = none → s.heap.StaysIn h' → Q (.ref a) { s with heap := h' }) :
    wpS (model prog w) A (call (.type "bytearray") []) Q E s := by
  have hmade := ba_called.made
  have hsub := ba_called.sub
  refine sCall (codeS_tree rfl ?_)
  show wpS _ _ (callAny (.type "bytearray") _) _ _ _
  refine sPure ⟨Code.quiet_builtin _ (by decide +kernel), codeS_builtin (by decide) F.entry_type_call ?_⟩
  unfold Builtin.«type.__call__»
  show wpS _ _ (checkTypeCall "bytearray" ⟨[], []⟩ >>= _) _ _ _
  refine sBindA (wpAny_of_eq ba_typeCall ?_)
  refine sBindA (wpAny_of_eq ba_mro ?_)
  show wpS _ _ (Bind.madeBy (.type "bytearray") >>= _) _ _ _
  refine sBindA (wpAny_of_eq hmade ?_)
  show wpS _ _ (holding [.builtin "bytearray.__new__"] (call (.builtin "bytearray.__new__") [.type "bytearray"]) >>= _) _ _ _
  refine sBindA (wpAny_holding (wpAny_call (codeAny_mono (ba_code_new (Q₁ := fun obj s₁ => obj = .ref s.heap.objs.size ∧ s₁ = { s with heap := s.heap.push { cls := .type "bytearray", data := .bytearray #[] } }) (E := fun _ _ => False) ⟨rfl, rfl⟩) fun r s₁ hr => ?_)))
  cases r with
  | error e => exact hr.elim
  | ok fl =>
    cases fl with
    | ret obj =>
      obtain ⟨rfl, rfl⟩ := hr
      have hb : BArr (s.heap.push { cls := .type "bytearray", data := .bytearray #[] }) s.heap.objs.size #[] := Heap.get?_push_size _ rfl
      have hT : ({ s with heap := s.heap.push { cls := .type "bytearray", data := .bytearray #[] } } : Shared).TypeIs (.ref s.heap.objs.size) "bytearray" := ⟨_, hb, rfl⟩
      have nn : s.heap.get? s.heap.objs.size = none := Heap.get?_none_of_le (Nat.le_refl _)
      refine sBindA (wpAny_isInstance hT ba_sub ?_)
      show wpS _ _ (holding [.ref s.heap.objs.size] (callSpecial? (.ref s.heap.objs.size) "__init__" [] []) >>= _) _ _ _
      refine sBind (sHold ?_)
      unfold callSpecial?
      refine sBindA (wpAny_specialOf hT ba_slot_init.lookup ?_)
      dsimp only
      refine sHold (sBindA (wpAny_of_eq (ba_slot_init.bind _) ?_))
      refine sBind (ba_init hb fun h' k1 k2 => sPure ?_)
      dsimp only
      refine sPure ?_
      refine h h' _ k1 nn fun b o e => ?_
      exact k2.extBut b o (fun z => by rw [z, nn] at e; cases e) (Heap.get?_push_of_some _ e)
    | _ => exact hr.elim
end
theorem callFS {w : World} {prog : Program} {A : Around} {E : Value → Shared → Prop} {s : Shared} {Q : Value → Shared → Prop} {f : Addr} {o : Obj} {name : Str} {params : Arguments} {body : List Stmt} {scope : Scope}
    {pm cd doc : Value} {args : List Value} {n : Nat} (binds : List (Str × Value))
    (G : G0 w s.heap) (R : Room A (n + 1)) (ho : (KK w).lookup f = some o) (hd : o.data = .func (docDef name params body scope pm cd doc)) (hcd : codeIn (KK w) cd name = true)
    (hbind : bindArgs (docDef name params body scope pm cd doc) ⟨args, []⟩ = pure binds) (hloc : (binds.all fun x => decide (scope.names.lookup x.1 = some .local)) = true)
    (hcell : ∀ x ∈ scope.names, x.2 ≠ .cell)
    (h : ∀ L h₁ tk, FS w s.heap L binds.reverse h₁ h₁ → s.heap.StaysIn h₁ → Room (A.deeper (envOf name scope L f cd)) n →
      wpS (model prog w) (A.deeper (envOf name scope L f cd)) (execs body (envOf name scope L f cd))
        (fun fl s' => Q (match fl with | .ret v => v | _ => .none) s')
        (fun e s' => wpAny (model prog w) (A.deeper (envOf name scope L f cd)) (leaving (envOf name scope L f cd) e) (fun _ s'' => E e s'') (fun e' s'' => E e' s'') s')
        { s with heap := h₁, toks := tk })
    (hco : scope.isCoroutine = false := by rfl) (hgen : scope.isGenerator = false := by rfl) (hk : scope.kind = .function := by rfl) : wpS (model prog w) A (call (.ref f) args) Q E s := by
  refine sCall (codeS_call_plain (by have := R.dp; show A.depth < 1000; omega) (G.kin _ _ ho) hd G.lim (codeRec_of G.kin hcd) hbind (locs hloc) (fun h₁ F₁ => ?_) hco hgen hk hcell)
  exact h _ h₁ _ ⟨G, F₁, fun _ _ _ e => e, ⟨_, F₁.ns⟩⟩ F₁.keep R.deeper

theorem callRS {w : World} {prog : Program} {A : Around} {E : Value → Shared → Prop} {s : Shared} {Q : Value → Shared → Prop} {f : Addr} {o : Obj} {name : Str} {params : Arguments} {body : List Stmt} {scope : Scope}
    {pm cd doc : Value} {args : List Value} {n : Nat} (binds : List (Str × Value))
    (G : G0 w s.heap) (R : Room A (n + 1)) (ho : (KK w).lookup f = some o) (hd : o.data = .func (docDef name params body scope pm cd doc)) (hcd : codeIn (KK w) cd name = true)
    (hbind : bindArgs (docDef name params body scope pm cd doc) ⟨args, []⟩ = pure binds) (hloc : (binds.all fun x => decide (scope.names.lookup x.1 = some .local)) = true)
    (hcell : ∀ x ∈ scope.names, x.2 ≠ .cell)
    (h : ∀ L h₁ tk A', FS w s.heap L binds.reverse h₁ h₁ → s.heap.StaysIn h₁ → Room A' n →
      wpS (model prog w) A' (execs body (envOf name scope L f cd))
        (fun fl s' => Q (match fl with | .ret v => v | _ => .none) s') (fun _ _ => False) { s with heap := h₁, toks := tk })
    (hco : scope.isCoroutine = false := by rfl) (hgen : scope.isGenerator = false := by rfl) (hk : scope.kind = .function := by rfl) : wpS (model prog w) A (call (.ref f) args) Q E s :=
  callFS binds G R ho hd hcd hbind hloc hcell (fun L h₁ tk F k R' => sMono (h L h₁ tk _ F k R') (fun _ _ x => x) fun _ _ x => x.elim) hco hgen hk

theorem callXS {w : World} {prog : Program} {A : Around} {E : Value → Shared → Prop} {s : Shared} {Q : Value → Shared → Prop} {f : Addr} {o : Obj} {name : Str} {params : Arguments} {body : List Stmt} {scope : Scope}
    {pm cd doc : Value} {args : List Value} {n : Nat} {l : List Env} (binds : List (Str × Value))
    (G : G0 w s.heap) (R : Room A (n + 1)) (O : Fok A l s.heap) (ho : (KK w).lookup f = some o) (hd : o.data = .func (docDef name params body scope pm cd doc)) (hcd : codeIn (KK w) cd name = true)
    (hbind : bindArgs (docDef name params body scope pm cd doc) ⟨args, []⟩ = pure binds) (hloc : (binds.all fun x => decide (scope.names.lookup x.1 = some .local)) = true)
    (hcell : ∀ x ∈ scope.names, x.2 ≠ .cell)
    (hE : ∀ e h' tk, Rsd l s.heap e h' → E (.ref e) { s with heap := h', toks := tk })
    (h : ∀ L h₁ tk A' l' E', FS w s.heap L binds.reverse h₁ h₁ → s.heap.StaysIn h₁ → Room A' n → A'.frames = some l' → (∀ hc m, s.heap.StaysIn hc → hc.Ns L m → Fok A' l' hc) →
      (∀ hc m e h' tk, s.heap.StaysIn hc → hc.Ns L m → Rsd l' hc e h' → E' (.ref e) { s with heap := h', toks := tk }) →
      (∀ hc m e h' tk, s.heap.StaysIn hc → hc.Ns L m → Made hc e h' → E' (.ref e) { s with heap := h', toks := tk }) → PassesOwn (model prog w) A' (envOf name scope L f cd) E' →
      wpS (model prog w) A' (execs body (envOf name scope L f cd)) (fun fl s' => Q (match fl with | .ret v => v | _ => .none) s') E' { s with heap := h₁, toks := tk })
    (hco : scope.isCoroutine = false := by rfl) (hgen : scope.isGenerator = false := by rfl) (hk : scope.kind = .function := by rfl) : wpS (model prog w) A (call (.ref f) args) Q E s := by
  refine callFS binds G R ho hd hcd hbind hloc hcell (fun L h₁ tk F k R' => ?_) hco hgen hk
  refine h L h₁ tk _ _ _ F k R' (Around.frames_deeper O.fr) (fun hc m st hn => frames_in rfl hk O st hn F.new) (fun hc m e h' tk st hn X => ?_) (fun hc m e h' tk st hn X => ?_) PassesOwn.leaving
  · exact leave_on (s := { s with heap := h', toks := tk }) rfl hk O st hn F.new X fun h'' Y => hE e h'' tk Y
  · exact leave_made (s := { s with heap := h', toks := tk }) rfl hk O st hn F.new X fun h'' Y => hE e h'' tk Y

/-! the figures of a count, the lowest first -/
noncomputable def figs (n : Nat) : List UInt8 := if n < 128 then [n.toUInt8] else (128 + n % 128).toUInt8 :: figs (n / 128)
termination_by n
decreasing_by omega
theorem figs_lt {n : Nat} (h : n < 128) : figs n = [n.toUInt8] := by rw [figs]; simp [h]
theorem figs_ge {n : Nat} (h : ¬ n < 128) : figs n = (128 + n % 128).toUInt8 :: figs (n / 128) := by rw [figs]; simp [h]
noncomputable def figN (n : Nat) : Nat := if n < 128 then 1 else 1 + figN (n / 128)
termination_by n
decreasing_by omega
theorem figs_len (n : Nat) : (figs n).length = figN n := by
  induction n using Nat.strongRecOn with
  | ind n ih =>
    by_cases h : n < 128
    · rw [figs_lt h, figN]; simp [h]
    · rw [figs_ge h, figN]; simp [h]; rw [ih _ (by omega)]; omega
theorem figN_le (k n : Nat) (h : n < 128 ^ (k + 1)) : figN n ≤ k + 1 := by
  induction k generalizing n with
  | zero => rw [figN]; simp at h; simp [h]
  | succ k ih =>
    rw [figN]
    split
    · omega
    · have := ih (n / 128) (by rw [Nat.div_lt_iff_lt_mul (by decide), ← Nat.pow_succ]; exact h)
      omega



theorem FS.but {w : World} {hE hR h h' : Heap} {L a : Addr} {l : List (Str × Value)} (F : FS w hE L l hR h) (nE : hE.get? a = none) (nR : hR.get? a = none) (k : Heap.SameBut a h h') : FS w hE L l hR h' := by
  have aL : L ≠ a := fun e => by
    obtain ⟨m, o, _, _, ho, _⟩ := F.nsR
    rw [e, nR] at ho; cases ho
  refine ⟨F.g, ⟨F.fr.ns.extBut k.extBut aL, fun b o e => k.extBut b o (fun z => by rw [z, nE] at e; cases e) (F.fr.keep b o e), F.fr.above⟩, fun b o hb e => k.extBut b o (fun z => by rw [z, nR] at e; cases e) (F.ext b o hb e), F.nsR⟩
theorem FS.aL {w : World} {hE hR h : Heap} {L a : Addr} {l : List (Str × Value)} (F : FS w hE L l hR h) (nR : hR.get? a = none) : a ≠ L := fun e => by
  obtain ⟨m, o, _, _, ho, _⟩ := F.nsR
  rw [← e, nR] at ho; cases ho
theorem BArr.but {h h' : Heap} {a L : Addr} {b : Array UInt8} (hb : BArr h a b) (n : a ≠ L) (k : Heap.SameBut L h h') : BArr h' a b := k.extBut a _ n hb

theorem ba_attrs : PlainAttrs "bytearray" :=
  ⟨⟨"bytearray.__getattribute__", by rw [typeLookup_type, builtinLookup_eq_fast]; kernel_rfl, by decide +kernel⟩, by rw [typeLookup_type, builtinLookup_eq_fast]; kernel_rfl⟩
theorem ba_ty_append : typeOf (.builtin "bytearray.append") = pure (.type "method_descriptor") := by show builtinType _ = _; rw [builtinType_eq_fast]; kernel_rfl
theorem ba_ty_extend : typeOf (.builtin "bytearray.extend") = pure (.type "method_descriptor") := by show builtinType _ = _; rw [builtinType_eq_fast]; kernel_rfl
section
variable {M : Model} {A : Around} {E : Value → Shared → Prop} {s : Shared}
theorem ba_get_append {a : Addr} {b : Array UInt8} {pl : Sem Bool} {Q : Value × List Value → Shared → Prop} (hb : BArr s.heap a b) (h : Q (.builtin "bytearray.append", [.ref a]) s) : wpAny M A (getMethod (.ref a) "append" pl) Q E s :=
  getMethod_builtin ⟨_, hb, rfl⟩ ba_attrs ba_slot_append ba_ty_append (fun _ e => by cases e; exact ⟨_, hb, rfl⟩) h
theorem ba_get_extend {a : Addr} {b : Array UInt8} {pl : Sem Bool} {Q : Value × List Value → Shared → Prop} (hb : BArr s.heap a b) (h : Q (.builtin "bytearray.extend", [.ref a]) s) : wpAny M A (getMethod (.ref a) "extend" pl) Q E s :=
  getMethod_builtin ⟨_, hb, rfl⟩ ba_attrs ba_slot_extend ba_ty_extend (fun _ e => by cases e; exact ⟨_, hb, rfl⟩) h
end

theorem spec_count_octets {w : World} {prog : Program} {A : Around} {E : Value → Shared → Prop} {s : Shared} {Q : Value → Shared → Prop} {n : Nat} {t : Tok}
    (G : G0 w s.heap) (R : Room A 4) (hz : figN n ≤ 1000000) (hQ : ∀ h' t' tk', s.heap.StaysIn h' → Q (.bytes (figs n).toArray t') { s with heap := h', toks := tk' }) :
    wpS (model prog w) A (call (.ref 61) [.int n t]) Q E s := by
  refine callRS [(Str.ofString "number", .int n t)] G R (by exact rfl) (by exact rfl) (by kernel_rfl) (by exact rfl) (by exact rfl) (by decide) fun L h₁ tk A' F k R' => ?_
  refine sCons (sAsg (by rfl) ?_)
  refine sCallM (f := .type "bytearray") (by rfl) (by rfl) (nb_bytearray F.gh ⟨rfl, sArgsN ?_⟩)
  refine ba_new fun h₂ a hb₂ na k₂ => ?_
  have F₂ := F.stays k₂
  have nE : s.heap.get? a = none := by
    cases q : s.heap.get? a with
    | none => rfl
    | some o => rw [k _ _ q] at na; cases na
  have aL := F.aL na
  ((with_reducible refine' FS.st ?F ?hl ?_ ?hL ?hk ?hx); (case F => assumption); (case hl => exact rfl); (case hL => exact rfl); (case hk => exact rfl); (case hx => exact rfl))
  intro h₃ F₃ b₃
  have hb₃ := hb₂.but aL b₃
  refine sCons (sAsg (by rfl) (ofAny ?_))
  walk_at "W"
  ((with_reducible refine' FS.st ?F ?hl ?_ ?hL ?hk ?hx); (case F => assumption); (case hl => exact rfl); (case hL => exact rfl); (case hk => exact rfl); (case hx => exact rfl))
  intro h₄ F₄ b₄
  have hb₄ := hb₃.but aL b₄
  clear F₂ F₃ hb₂ hb₃ b₃ b₄ k₂
  refine sCons (sWhile (codeS_while (fun m s' => ∃ pre h' tk' t', pre ++ figs m = figs n ∧ s' = { s with heap := h', toks := tk' } ∧ BArr h' a pre.toArray ∧
    FS w s.heap L [(Str.ofString "number", .int n t), (Str.ofString "found", .ref a), (Str.ofString "rest", .int (m : Nat) t')] h₁ h') (fun m s' hI => ?_) n ⟨[], h₄, _, t, rfl, rfl, hb₄, F₄⟩))
  obtain ⟨pre, h', tk', t', e1, rfl, hb, F⟩ := hI
  refine ofAny ?_
  walk_at "W"
  refine wIteT (fun hlt => ?_) (fun hlt => ?_)
  · have hge : ¬ m < 128 := by have := of_decide_eq_true hlt; omega
    refine sCons (sExpr rfl rfl (sMeth (by exact rfl) (ofAny ?_)))
    walk_at "ld"
    refine ba_get_append hb (sCallWithB rfl (sArgsC rfl (ofAny ?_)))
    walk_at "W"
    walk_at "modc"
    walk_at "W"
    refine sArgsN ?_
    have hm : Int.fmod (m : Int) 128 = ((m % 128 : Nat) : Int) := by rw [Int.fmod_eq_emod_of_nonneg _ (by omega)]; omega
    have hd : Int.fdiv (m : Int) 128 = ((m / 128 : Nat) : Int) := by rw [Int.fdiv_eq_ediv_of_nonneg _ (by omega)]; omega
    rw [hm]
    have hsz : pre.length < sizeLine := by
      have := congrArg List.length e1
      rw [List.length_append, figs_len, figs_len] at this
      show _ < 16777216
      omega
    refine ba_append hb (by omega) (by omega) (by simpa using hsz) fun h₅ hb₅ k₅ => ?_
    have F₅ := F.but nE na k₅
    refine sCons (sAsg (by rfl) (ofAny ?_))
    walk_at "W"
    walk_at "divc"
    rw [hd]
    ((with_reducible refine' FS.st ?F ?hl ?_ ?hL ?hk ?hx); (case F => assumption); (case hl => exact rfl); (case hL => exact rfl); (case hk => exact rfl); (case hx => exact rfl))
    intro h₆ F₆ b₆
    refine sNil ⟨m / 128, by omega, pre ++ [(128 + m % 128).toUInt8], h₆, _, _, ?_, rfl, ?_, F₆⟩
    · rw [← e1, figs_ge hge]; simp
    · have := hb₅.but aL b₆
      have e : ((128 : Int) + ((m % 128 : Nat) : Int)).toNat.toUInt8 = (128 + m % 128).toUInt8 := by congr 1
      rw [e] at this
      simpa using this
  · have hlt' : m < 128 := by have := of_decide_eq_false hlt; omega
    refine sNil ?_
    refine sCons (sExpr rfl rfl (sMeth (by exact rfl) (ofAny ?_)))
    walk_at "ld"
    refine ba_get_append hb (sCallWithB rfl (sArgsC rfl (ofAny ?_)))
    walk_at "W"
    refine sArgsN ?_
    have hsz : pre.length + figN m = figN n := by
      have := congrArg List.length e1
      rw [List.length_append, figs_len, figs_len] at this
      exact this
    have h1 : figN m = 1 := by rw [figN]; simp [hlt']
    refine ba_append hb (by omega) (by omega) (by show _ < 16777216; simp; omega) fun h₅ hb₅ k₅ => ?_
    have F₅ := F.but nE na k₅
    refine sCons (sRet (ofAny ?_))
    refine callM (f := .type "bytes") (by rfl) (by rfl) (nb_bytes F₅.gh ⟨rfl, ?_⟩)
    walk_at "W"
    refine ba_to_bytes hb₅ (by show _ ≤ 16777216; simp; omega) fun t₆ k₆ => ?_
    have e2 : pre.toArray.push (m : Int).toNat.toUInt8 = (figs n).toArray := by rw [← e1, figs_lt hlt']; simp
    rw [e2]
    exact hQ h₅ _ _ F₅.fr.keep
theorem sub_step {n i : Nat} (h : i < n) : n - i = (n - (i + 1)) + 1 := by omega
section
variable {prog : Program} {w : World} {A : Around} {E : Value → Shared → Prop} {s : Shared}
theorem bj_slot : Slot "bytes" "join" "bytes.join" :=
  .of (owner := "bytes") (n := "join") (by rw [typeLookup_type, builtinLookup_eq_fast]; kernel_rfl) (by decide +kernel) (by decide +kernel) (by decide +kernel)
    (by first | exact .inl (by decide +kernel) | exact .inr (by decide +kernel)) (by rw [isSubtype_type]; kernel_rfl)
theorem bj_entry : entryFor table "bytes.join" = some Builtin.«bytes.join» := entryFor_of_tree (by kernel_rfl)
theorem bj_ty : typeOf (.builtin "bytes.join") = pure (.type "method_descriptor") := by show builtinType _ = _; rw [builtinType_eq_fast]; kernel_rfl
theorem bj_take {id : String} {b : Array UInt8} {t : Tok} {Q : Option (Array UInt8 × Option Value) → Shared → Prop} (h : Q (some (b, none)) s) : wpAny (model prog w) A (Bytes.takeBufferQuiet? id (.bytes b t) 0) Q E s := by
  have hT : s.TypeIs (.bytes b t) "bytes" := typeIs_bytes _ _ _
  obtain ⟨hp, g, d, tk, os⟩ := s
  have f1 := ba_buf_bytes
  have f2 := ba_rel_bytes
  repeat (first | with_reducible refine slotOwn hT ba_buf_bytes (by decide +kernel) (by decide +kernel) F.bm_sub ?_ | wp_step)
  exact h
/-- bytes, one by one -/
def BytesAre : List Value → List (Array UInt8) → Prop
  | [], bs => bs = []
  | v :: vs, bs => ∃ b bs' t, v = .bytes b t ∧ bs = b :: bs' ∧ BytesAre vs bs'
theorem bj_letGo {M : Model} : ∀ {taken : List (Value × Option Value)} {keep : List Value} {s : Shared} {Q : Unit → Shared → Prop}, (∀ x ∈ taken, x.2 = none) → Q () s → wpAny M A (Bytes.joinLetGo taken keep) Q E s
  | [], _, _, _, _, h => wpAny_pure h
  | (x, w) :: rest, keep, s, Q, hn, h => by
    obtain rfl : w = none := hn (x, w) (.head _)
    unfold Bytes.joinLetGo
    exact wpAny_bind (wpAny_letGo (bj_letGo (fun y hy => hn y (.tail _ hy)) h))
theorem bj_items {l : Addr} {items : Array Value} {Q : Value → Shared → Prop} (hl : s.heap.PlainList l items) (h : Q (.ref l) s) : wpAny (model prog w) A (Bytes.joinItems (.ref l)) Q E s := by
  obtain ⟨n, ho⟩ := hl
  obtain ⟨hp, g, d, tk, os⟩ := s
  have hT : (⟨hp, g, d, tk, os⟩ : Shared).TypeIs (.ref l) "list" := ⟨_, ho, rfl⟩
  unfold Bytes.joinItems
  wp_walk
  exact h
theorem BytesAre.get : ∀ {vs : List Value} {bs : List (Array UInt8)} {i : Nat}, BytesAre vs bs → i < vs.length → ∃ b t, vs[i]? = some (.bytes b t) ∧ bs[i]? = some b
  | [], _, _, _, hi => by simp at hi
  | v :: vs, bs, 0, h, _ => by
    obtain ⟨b, bs', t, rfl, rfl, _⟩ := h
    exact ⟨b, t, rfl, rfl⟩
  | v :: vs, bs, i + 1, h, hi => by
    obtain ⟨b, bs', t, rfl, rfl, h'⟩ := h
    have := BytesAre.get (i := i) h' (by simpa using hi)
    simpa using this
theorem BytesAre.len : ∀ {vs : List Value} {bs : List (Array UInt8)}, BytesAre vs bs → bs.length = vs.length
  | [], _, h => by rw [BytesAre] at h; subst h; rfl
  | v :: vs, bs, h => by
    obtain ⟨b, bs', t, rfl, rfl, h'⟩ := h
    simp [BytesAre.len h']

theorem bj_joined (bs : List (Array UInt8)) : Bytes.joined #[] bs = bs.foldl (· ++ ·) #[] := by
  unfold Bytes.joined
  have key : ∀ (bs : List (Array UInt8)) (k : Nat) (a : Array UInt8), (bs.zipIdx k).foldl (fun out (p, i) => (if i > 0 then out ++ (#[] : Array UInt8) else out) ++ p) a = bs.foldl (· ++ ·) a := by
    intro bs
    induction bs with
    | nil => intro k a; rfl
    | cons b bs ih =>
      intro k a
      rw [List.zipIdx_cons, List.foldl_cons, List.foldl_cons, ih]
      congr 1
      dsimp only
      split <;> simp
  exact key bs 0 #[]
theorem bj_total (bs : List (Array UInt8)) (k : Nat) : bs.toArray.foldl (fun a b => a + b.size) k = k + (bs.map (·.size)).sum := by
  rw [List.foldl_toArray]
  induction bs generalizing k with
  | nil => simp
  | cons b bs ih => rw [List.foldl_cons, ih, List.map_cons, List.sum_cons]; omega
theorem call_join {l : Addr} {items : Array Value} {bs : List (Array UInt8)} {t : Tok} {Q : Value → Shared → Prop} (hl : s.heap.PlainList l items) (hb : BytesAre items.toList bs) (hz : (bs.map (·.size)).sum ≤ 16777216)
    (h : ∀ t k, Q (.bytes (bs.foldl (· ++ ·) #[]) t) { s with toks := k }) : wpAny (model prog w) A (call (.builtin "bytes.join") [.bytes #[] t, .ref l]) Q E s := by
  refine wpAny_call_entry bj_slot (typeIs_bytes _ _ _) bj_entry ?_ (by rfl)
  unfold Builtin.«bytes.join» Bytes.joinM
  have hl' := hl
  obtain ⟨n, ho⟩ := hl
  refine wpAny_bind (wpAny_of_eq (a := (.bytes #[] t, .ref l)) rfl ?_)
  show wpAny _ _ (Bytes.joinItems (.ref l) >>= _) _ _ _
  refine wpAny_bind (bj_items hl' ?_)
  refine wpAny_bind (wpAny_seqItems ho rfl ?_)
  dsimp only
  refine bm_if_true rfl ?_
  obtain ⟨vs⟩ := items
  have hlen := hb.len
  by_cases h1 : ∃ x, vs = [x]
  · obtain ⟨x, rfl⟩ := h1
    obtain ⟨b, t', hx, hb0⟩ := hb.get (i := 0) (by simp)
    obtain rfl : x = .bytes b t' := by simpa using hx
    obtain rfl : bs = [b] := by
      match bs, hlen, hb0 with
      | [b'], _, hb0 => simpa using hb0
    show wpAny _ _ (typeOf (.bytes b t') >>= _) _ _ _
    refine wpAny_bind (wpAny_of_eq (a := .type "bytes") rfl ?_)
    refine bm_if_true (by decide) (wpAny_bind (wpAny_rule (wpAny_pure ⟨_, rfl, ?_⟩)))
    have := h t' s.toks
    rw [List.foldl_cons, List.foldl_nil, Array.empty_append] at this
    exact this
  have tail : ∀ f : Nat → Array (Array UInt8) × List (Value × Option Value) → Sem (ForInStep (Array (Array UInt8) × List (Value × Option Value))),
      (∀ i st s', i < vs.length → (∀ x ∈ st.2, x.2 = none ∧ x.1.onHeap = false) → s' = s → wpAny (model prog w) A.in1 (f i st) (fun r s'' => ∃ b t, vs[i]? = some (.bytes b t) ∧ r = .yield (st.1.push b, st.2 ++ [(.bytes b t, none)]) ∧ s'' = s) E s') →
      wpAny (model prog w) A.in1 (forIn [:vs.length] ((#[], []) : Array (Array UInt8) × List (Value × Option Value)) f) (fun st s' => st.1 = bs.toArray ∧ (∀ x ∈ st.2, x.2 = none) ∧ s' = s) E s := by
    intro f hf
    rw [Std.Legacy.Range.forIn_eq_forIn_range']
    refine wpAny_forIn_list f (fun rest st s' => ∃ i, i ≤ vs.length ∧ rest = List.range' i (vs.length - i) ∧ st.1 = (bs.take i).toArray ∧ (∀ x ∈ st.2, x.2 = none ∧ x.1.onHeap = false) ∧ s' = s) _ (fun x rest st s' hI => ?_) (fun st s' hI => ?_) _ _ ⟨0, Nat.zero_le _, by simp [Std.Legacy.Range.size], rfl, by simp, rfl⟩
    · obtain ⟨i, hi, hr, hp, ht, rfl⟩ := hI
      have hlt : i < vs.length := Decidable.byContradiction fun z => by
        rw [Nat.sub_eq_zero_of_le (Nat.le_of_not_lt z)] at hr; cases hr
      rw [sub_step hlt, List.range'_succ] at hr
      injection hr with e1 e2
      subst e1
      refine wpAny_mono (hf x st _ hlt ht rfl) (fun r s'' hq => ?_) fun _ _ x => x
      obtain ⟨b, t', hx, rfl, rfl⟩ := hq
      obtain ⟨b', t'', hx', hb'⟩ := hb.get (i := x) (by simpa using hlt)
      have : b' = b := by
        have : (some (Value.bytes b t') : Option Value) = some (.bytes b' t'') := hx.symm.trans hx'
        cases this; rfl
      subst this
      refine ⟨x + 1, hlt, e2, ?_, ?_, rfl⟩
      · rw [List.take_add_one, hb', hp]; simp
      · intro y hy
        rcases List.mem_append.mp hy with hy | hy
        · exact ht y hy
        · simp at hy; subst hy; exact ⟨rfl, rfl⟩
    · obtain ⟨i, hi, hr, hp, ht, rfl⟩ := hI
      have : i = vs.length := Decidable.byContradiction fun z => by
        rw [sub_step (Nat.lt_of_le_of_ne hi z), List.range'_succ] at hr; cases hr
      subst this
      refine ⟨?_, fun x hx => (ht x hx).1, rfl⟩
      rw [hp, List.take_of_length_le (by simp at hlen; omega)]
  have fin : ∀ k, (∀ st : Array (Array UInt8) × List (Value × Option Value), st.1 = bs.toArray → (∀ x ∈ st.2, x.2 = none) → wpAny (model prog w) A.in1 (k st : Sem PySem.Fin) (fun fin s' => ∃ v, fin = .done (.ret v) ∧ Q v s') E s) → ∀ f, (∀ i st s', i < vs.length → (∀ x ∈ st.2, x.2 = none ∧ x.1.onHeap = false) → s' = s → wpAny (model prog w) A.in1 (f i st) (fun r s'' => ∃ b t, vs[i]? = some (.bytes b t) ∧ r = .yield (st.1.push b, st.2 ++ [(.bytes b t, none)]) ∧ s'' = s) E s') →
      wpAny (model prog w) A.in1 (forIn [:vs.length] ((#[], []) : Array (Array UInt8) × List (Value × Option Value)) f >>= k) (fun fin s' => ∃ v, fin = .done (.ret v) ∧ Q v s') E s := fun k hk f hf =>
    wpAny_bind (wpAny_mono (tail f hf) (fun st s' hs => by obtain ⟨a, b, rfl⟩ := hs; exact hk st a b) fun _ _ x => x)
  match vs, h1, hb, hlen, ho, tail, fin with
  | [x], h1, _, _, _, _, _ => exact absurd ⟨x, rfl⟩ h1
  | [], _, hb, hlen, ho, tail, fin =>
    show wpAny _ _ (forIn [:0] _ _ >>= _) _ _ _
    refine fin _ (fun st hp hn => ?_) _ (fun i st s' hi _ _ => absurd hi (by simp))
    obtain rfl : bs = [] := by simpa using hlen
    obtain ⟨p, tk⟩ := st
    dsimp only at hp hn
    subst hp
    refine wpAny_bind (wpAny_of_eq (a := #[]) rfl ?_)
    refine bm_if_false (by unfold Bytes.tooLong; simp) ?_
    refine wpAny_bind (m := mkBytes (Bytes.joined #[] [])) (wpAny_mkBytes ?_ (by decide))
    refine wpAny_bind (wpAny_holding (wpAny_point ?_))
    refine wpAny_bind (bj_letGo hn (wpAny_pure ⟨_, rfl, ?_⟩))
    exact h _ _
  | x :: y :: r, _, hb, hlen, ho, tail, fin =>
    show wpAny _ _ (forIn [:(x :: y :: r).length] _ _ >>= _) _ _ _
    refine fin _ (fun st hp hn => ?_) _ (fun i st s' hi ht e => ?_)
    · obtain ⟨p, tk⟩ := st
      dsimp only at hp hn
      subst hp
      refine wpAny_bind (wpAny_of_eq (a := #[]) rfl ?_)
      have htot : ((bs.toArray, tk).fst.foldl (· + ·.size) ((#[] : Array UInt8).size * ((bs.toArray, tk).fst.size - 1))) = (bs.map (·.size)).sum := by
        show bs.toArray.foldl (fun a b => a + b.size) _ = _
        rw [bj_total]; simp
      refine bm_if_false (by unfold Bytes.tooLong; rw [htot]; exact decide_eq_false (by show ¬ _ > 16777216; omega)) ?_
      have hfold : (bs.foldl (· ++ ·) (#[] : Array UInt8)).size = (bs.map (·.size)).sum := by
        have key : ∀ (bs : List (Array UInt8)) (a : Array UInt8), (bs.foldl (· ++ ·) a).size = a.size + (bs.map (·.size)).sum := by
          intro bs
          induction bs with
          | nil => intro a; simp
          | cons b bs ih => intro a; rw [List.foldl_cons, ih, List.map_cons, List.sum_cons, Array.size_append]; omega
        rw [key]; simp
      refine wpAny_bind (m := mkBytes (Bytes.joined #[] bs.toArray.toList)) (wpAny_mkBytes ?_ (by rw [List.toList_toArray, bj_joined, hfold]; exact hz))
      rw [List.toList_toArray, bj_joined]
      refine wpAny_bind (wpAny_holding (wpAny_point ?_))
      refine wpAny_bind (bj_letGo hn (wpAny_pure ⟨_, rfl, ?_⟩))
      exact h _ _
    · subst e
      refine wpAny_bind (wpAny_seqItems ho rfl ?_)
      dsimp only
      obtain ⟨b, t', hx, _⟩ := hb.get (i := i) (by simpa using hi)
      refine bm_if_false ?_ ?_
      · rw [Bool.or_eq_false_iff]
        refine ⟨rfl, ?_⟩
        rw [List.any_eq_false]
        intro z hz
        rw [(ht z hz).2]
        simp
      have hg : (⟨x :: y :: r⟩ : Array Value).getD i Value.none = .bytes b t' := by
        have : (⟨x :: y :: r⟩ : Array Value)[i]? = some (.bytes b t') := by simpa using hx
        simp [Array.getD_eq_getD_getElem?, this]
      rw [hg]
      refine wpAny_bind (wpAny_holding (bj_take ?_))
      dsimp only
      refine wpAny_bind (wpAny_seqItems ho rfl ?_)
      dsimp only
      refine bm_if_false (by simp) (wpAny_pure ⟨b, t', hx, rfl, rfl⟩)
end
/-! the data of the rows, their spelling and their reading -/
inductive Dat where
  | int (i : Int)
  | str (s : List Nat)
  | byt (b : List UInt8)
  | bad
  | tup (l : List Dat)

noncomputable def fold (i : Int) : Nat := if 0 ≤ i then (2 * i).toNat else (-2 * i - 1).toNat
noncomputable def plain (n : Nat) : Int := if n % 2 = 0 then ((n / 2 : Nat) : Int) else -1 - ((n / 2 : Nat) : Int)
theorem plain_fold : ∀ i : Int, plain (fold i) = i
  | .ofNat n => by
    show plain (2 * n) = n
    unfold plain
    rw [if_pos (Nat.mul_mod_right 2 n), Nat.mul_div_cancel_left n (by decide)]
  | .negSucc n => by
    have e : fold (.negSucc n) = 2 * n + 1 := by
      unfold fold
      rw [if_neg (by exact fun h => nomatch h)]
      have : -2 * Int.negSucc n - 1 = ((2 * n + 1 : Nat) : Int) := by rw [Int.negSucc_eq]; omega
      rw [this]; rfl
    rw [e]
    unfold plain
    rw [if_neg (by rw [Nat.mul_add_mod]; decide), Nat.mul_add_div (by decide)]
    rw [Int.negSucc_eq]
    omega
theorem fold_plain (n : Nat) : fold (plain n) = n := by
  have e := Nat.div_add_mod n 2
  unfold plain
  split
  · rename_i h
    rw [h] at e
    exact e
  · rename_i h
    have h1 : n % 2 = 1 := by have := Nat.mod_two_eq_zero_or_one n; exact this.resolve_left h
    rw [h1] at e
    unfold fold
    rw [if_neg (by omega)]
    omega

mutual
noncomputable def spell : Dat → List UInt8
  | .int i => 105 :: figs (fold i)
  | .str s => 116 :: (figs s.length ++ s.flatMap figs)
  | .byt b => 111 :: (figs b.length ++ b)
  | .bad => [0]
  | .tup l => 114 :: (figs l.length ++ spellL l)
noncomputable def spellL : List Dat → List UInt8
  | [] => []
  | d :: l => spell d ++ spellL l
end

noncomputable def numG (first : Bool) : List UInt8 → Option (Nat × List UInt8)
  | [] => none
  | b :: r => if b.toNat < 128 then (if b.toNat = 0 ∧ first = false then none else some (b.toNat, r)) else
    match numG false r with
    | none => none
    | some (v, r') => some (b.toNat - 128 + 128 * v, r')
noncomputable abbrev num (o : List UInt8) := numG true o

theorem numG_figs (n : Nat) : ∀ (f : Bool) (r : List UInt8), (f = true ∨ 0 < n) → numG f (figs n ++ r) = some (n, r) := by
  induction n using Nat.strongRecOn with
  | ind n ih =>
    intro f r hf
    by_cases h : n < 128
    · have e : n.toUInt8.toNat = n := by simp [UInt8.toNat_ofNat']; omega
      rw [figs_lt h, List.cons_append, List.nil_append, numG, e, if_pos h, if_neg]
      rintro ⟨a, b⟩
      rcases hf with hf | hf
      · rw [b] at hf; cases hf
      · omega
    · have e : (128 + n % 128).toUInt8.toNat = 128 + n % 128 := by simp [UInt8.toNat_ofNat']; omega
      rw [figs_ge h, List.cons_append, numG, e, if_neg (by omega), ih (n / 128) (by omega) false r (.inr (by omega))]
      show some (_, r) = some (n, r)
      congr 2
      omega
theorem figs_numG : ∀ (o : List UInt8) (f : Bool) (n : Nat) (r : List UInt8), numG f o = some (n, r) → o = figs n ++ r ∧ (f = false → 0 < n) := by
  intro o
  induction o with
  | nil => intro f n r h; cases h
  | cons b o ih =>
    intro f n r h
    rw [numG] at h
    split at h
    · rename_i hb
      split at h
      · cases h
      · rename_i h0
        cases h
        rw [figs_lt hb]
        refine ⟨by simp, fun hf => ?_⟩
        have : ¬ b.toNat = 0 := fun z => h0 ⟨z, hf⟩
        omega
    · rename_i hb
      split at h
      · cases h
      · rename_i v r' hv
        obtain ⟨e, hpos⟩ := ih false v r' hv
        cases h
        have hv0 := hpos rfl
        have hlt := UInt8.toNat_lt b
        refine ⟨?_, fun _ => by omega⟩
        rw [figs_ge (by omega), show (b.toNat - 128 + 128 * v) / 128 = v by omega, show 128 + (b.toNat - 128 + 128 * v) % 128 = b.toNat by omega, e]
        simp
theorem num_figs (n : Nat) (r : List UInt8) : num (figs n ++ r) = some (n, r) := numG_figs n true r (.inl rfl)
theorem figs_num {o : List UInt8} {n : Nat} {r : List UInt8} (h : num o = some (n, r)) : o = figs n ++ r := (figs_numG o true n r h).1
theorem figs_pos (n : Nat) : 0 < (figs n).length := by rw [figs_len, figN]; split <;> omega
theorem num_lt {o : List UInt8} {n : Nat} {r : List UInt8} (h : num o = some (n, r)) : r.length < o.length := by
  rw [figs_num h, List.length_append]; have := figs_pos n; omega

/-- a reader, many times over -/
noncomputable def rep {α : Type} (f : List UInt8 → Option (α × List UInt8)) : Nat → List UInt8 → Option (List α × List UInt8)
  | 0, r => some ([], r)
  | k + 1, r => match f r with
    | none => none
    | some (x, r') => match rep f k r' with
      | none => none
      | some (xs, r'') => some (x :: xs, r'')
theorem rep_long {α : Type} {f : List UInt8 → Option (α × List UInt8)} (hf : ∀ o x r, f o = some (x, r) → r.length < o.length) : ∀ (k : Nat) (r : List UInt8), r.length < k → rep f k r = none
  | 0, r, h => by omega
  | k + 1, r, h => by
    rw [rep]
    cases e : f r with
    | none => rfl
    | some p =>
      obtain ⟨x, r'⟩ := p
      have := hf _ _ _ e
      dsimp only
      rw [rep_long hf k r' (by omega)]
theorem rep_le {α : Type} {f : List UInt8 → Option (α × List UInt8)} (hf : ∀ o x r, f o = some (x, r) → r.length < o.length) : ∀ (k : Nat) (o : List UInt8) (l : List α) (r : List UInt8), rep f k o = some (l, r) → r.length + k ≤ o.length ∧ l.length = k
  | 0, o, l, r, h => by cases h; simp
  | k + 1, o, l, r, h => by
    rw [rep] at h
    split at h
    · cases h
    · rename_i x r' e
      split at h
      · cases h
      · rename_i xs r'' e2
        cases h
        have := hf _ _ _ e
        obtain ⟨a, b⟩ := rep_le hf k _ _ _ e2
        exact ⟨by omega, by simp [b]⟩

noncomputable def sign (o : List UInt8) : Option (Nat × List UInt8) := match num o with
  | none => none
  | some (c, r) => if 1114111 < c then none else some (c, r)
theorem sign_lt {o : List UInt8} {c : Nat} {r : List UInt8} (h : sign o = some (c, r)) : r.length < o.length := by
  unfold sign at h
  split at h
  · cases h
  · rename_i e
    split at h
    · cases h
    · cases h; exact num_lt e

/-- the reading; n levels of rows are let through -/
noncomputable def meant (n : Nat) (o : List UInt8) : Option (Dat × List UInt8) := match o with
  | [] => none
  | c :: o1 => if c ≠ 105 ∧ c ≠ 116 ∧ c ≠ 111 ∧ c ≠ 114 then none else match num o1 with
    | none => none
    | some (many, rest) =>
      if c = 105 then some (.int (plain many), rest)
      else if c = 111 then (if many ≤ rest.length then some (.byt (rest.take many), rest.drop many) else none)
      else if c = 116 then (match rep sign many rest with | none => none | some (s, r) => some (.str s, r))
      else match n with
        | 0 => none
        | n + 1 => match rep (meant n) many rest with | none => none | some (l, r) => some (.tup l, r)

theorem meant_lt {n : Nat} : ∀ {o : List UInt8} {d : Dat} {r : List UInt8}, meant n o = some (d, r) → r.length < o.length := by
  induction n with
  | zero =>
    intro o d r h
    unfold meant at h
    split at h
    · cases h
    · split at h
      · cases h
      · split at h
        · cases h
        · rename_i many rest e
          have := num_lt e
          split at h
          · cases h; simp; omega
          · split at h
            · split at h
              · cases h; simp; omega
              · cases h
            · split at h
              · split at h
                · cases h
                · rename_i e2
                  cases h
                  have := (rep_le (fun _ _ _ => sign_lt) _ _ _ _ e2).1
                  simp; omega
              · cases h
  | succ n ih =>
    intro o d r h
    unfold meant at h
    split at h
    · cases h
    · split at h
      · cases h
      · split at h
        · cases h
        · rename_i many rest e
          have := num_lt e
          split at h
          · cases h; simp; omega
          · split at h
            · split at h
              · cases h; simp; omega
              · cases h
            · split at h
              · split at h
                · cases h
                · rename_i e2
                  cases h
                  have := (rep_le (fun _ _ _ => sign_lt) _ _ _ _ e2).1
                  simp; omega
              · dsimp only at h
                split at h
                · cases h
                · rename_i e2
                  cases h
                  have := (rep_le (fun _ _ _ => ih) _ _ _ _ e2).1
                  simp; omega

mutual
/-- what is written: n levels of tuples, and nothing bad -/
def fits : Nat → Dat → Prop
  | _, .int _ => True
  | _, .str _ => True
  | _, .byt _ => True
  | _, .bad => False
  | 0, .tup _ => False
  | n + 1, .tup l => fitsL n l
def fitsL : Nat → List Dat → Prop
  | _, [] => True
  | n, d :: l => fits n d ∧ fitsL n l
end
mutual
/-- the signs are signs -/
def okD : Dat → Prop
  | .str s => ∀ c ∈ s, c ≤ 1114111
  | .tup l => okL l
  | _ => True
def okL : List Dat → Prop
  | [] => True
  | d :: l => okD d ∧ okL l
end

theorem rep_sign : ∀ (s : List Nat) (r : List UInt8), (∀ c ∈ s, c ≤ 1114111) → rep sign s.length (s.flatMap figs ++ r) = some (s, r)
  | [], r, _ => rfl
  | c :: s, r, h => by
    have h1 : sign (figs c ++ (s.flatMap figs ++ r)) = some (c, s.flatMap figs ++ r) := by
      unfold sign
      rw [num_figs]
      have := h c (.head _)
      simp; omega
    rw [List.length_cons, rep, List.flatMap_cons, List.append_assoc, h1]
    dsimp only
    rw [rep_sign s r fun x hx => h x (.tail _ hx)]
theorem sign_rep : ∀ (k : Nat) (o : List UInt8) (s : List Nat) (r : List UInt8), rep sign k o = some (s, r) → o = s.flatMap figs ++ r ∧ s.length = k ∧ ∀ c ∈ s, c ≤ 1114111
  | 0, o, s, r, h => by cases h; simp
  | k + 1, o, s, r, h => by
    rw [rep] at h
    split at h
    · cases h
    · rename_i c r' e
      split at h
      · cases h
      · rename_i xs r'' e2
        cases h
        obtain ⟨a, b, c'⟩ := sign_rep k _ _ _ e2
        unfold sign at e
        split at e
        · cases e
        · rename_i e3
          split at e
          · cases e
          · cases e
            refine ⟨by rw [figs_num e3, a]; simp, by simp [b], fun x hx => ?_⟩
            rcases List.mem_cons.mp hx with rfl | hx
            · omega
            · exact c' x hx

mutual
theorem meant_spell : ∀ (d : Dat) (n : Nat) (r : List UInt8), fits n d → okD d → meant n (spell d ++ r) = some (d, r)
  | .int i, n, r, _, _ => by
    rw [spell, List.cons_append]; unfold meant; rw [num_figs]
    simp [plain_fold]
  | .str s, n, r, _, ok => by
    rw [spell, List.cons_append, List.append_assoc]; unfold meant; rw [num_figs]
    rw [okD] at ok
    simp [rep_sign s r ok]
  | .byt b, n, r, _, _ => by
    rw [spell, List.cons_append, List.append_assoc]; unfold meant; rw [num_figs]
    simp
  | .bad, n, r, h, _ => by cases n <;> exact h.elim
  | .tup l, 0, r, h, _ => h.elim
  | .tup l, n + 1, r, h, ok => by
    rw [spell, List.cons_append, List.append_assoc]; unfold meant; rw [num_figs]
    rw [fits] at h
    rw [okD] at ok
    simp [meantL_spell l n r h ok]
theorem meantL_spell : ∀ (l : List Dat) (n : Nat) (r : List UInt8), fitsL n l → okL l → rep (meant n) l.length (spellL l ++ r) = some (l, r)
  | [], n, r, _, _ => rfl
  | d :: l, n, r, h, ok => by
    rw [fitsL] at h
    rw [okL] at ok
    rw [List.length_cons, rep, spellL, List.append_assoc, meant_spell d n _ h.1 ok.1]
    dsimp only
    rw [meantL_spell l n r h.2 ok.2]
end

theorem spellL_rep {n : Nat} (ih : ∀ o d r, meant n o = some (d, r) → o = spell d ++ r ∧ fits n d ∧ okD d) : ∀ (k : Nat) (o : List UInt8) (l : List Dat) (r : List UInt8), rep (meant n) k o = some (l, r) → o = spellL l ++ r ∧ l.length = k ∧ fitsL n l ∧ okL l
  | 0, o, l, r, h => by cases h; simp [spellL, fitsL, okL]
  | k + 1, o, l, r, h => by
    rw [rep] at h
    split at h
    · cases h
    · rename_i c r' e
      split at h
      · cases h
      · rename_i xs r'' e2
        cases h
        obtain ⟨a, b, c', d'⟩ := spellL_rep ih k _ _ _ e2
        obtain ⟨a1, b1, c1⟩ := ih _ _ _ e
        refine ⟨by rw [a1, a, spellL, List.append_assoc], by simp [b], ?_, ?_⟩
        · rw [fitsL]; exact ⟨b1, c'⟩
        · rw [okL]; exact ⟨c1, d'⟩
theorem spell_meant {n : Nat} : ∀ (o : List UInt8) (d : Dat) (r : List UInt8), meant n o = some (d, r) → o = spell d ++ r ∧ fits n d ∧ okD d := by
  induction n with
  | zero =>
    intro o d r h
    unfold meant at h
    split at h
    · cases h
    · rename_i c o1
      split at h
      · cases h
      · rename_i hc
        split at h
        · cases h
        · rename_i many rest e
          have e1 := figs_num e
          split at h
          · rename_i hc'
            cases h
            refine ⟨by rw [spell, fold_plain, hc', e1]; simp, by simp [fits], by simp [okD]⟩
          · split at h
            · rename_i hc'
              split at h
              · rename_i hl
                cases h
                refine ⟨by rw [spell, hc', e1, List.length_take, Nat.min_eq_left hl]; simp, by simp [fits], by simp [okD]⟩
              · cases h
            · split at h
              · rename_i hc'
                split at h
                · cases h
                · rename_i s r' e2
                  cases h
                  obtain ⟨a, b, c⟩ := sign_rep _ _ _ _ e2
                  refine ⟨by rw [spell, hc', e1, a, b]; simp, by simp [fits], by rw [okD]; exact c⟩
              · cases h
  | succ n ih =>
    intro o d r h
    unfold meant at h
    split at h
    · cases h
    · rename_i c o1
      split at h
      · cases h
      · rename_i hc
        split at h
        · cases h
        · rename_i many rest e
          have e1 := figs_num e
          split at h
          · rename_i hc'
            cases h
            refine ⟨by rw [spell, fold_plain, hc', e1]; simp, by simp [fits], by simp [okD]⟩
          · split at h
            · rename_i hc'
              split at h
              · rename_i hl
                cases h
                refine ⟨by rw [spell, hc', e1, List.length_take, Nat.min_eq_left hl]; simp, by simp [fits], by simp [okD]⟩
              · cases h
            · split at h
              · rename_i hc'
                split at h
                · cases h
                · rename_i s r' e2
                  cases h
                  obtain ⟨a, b, c⟩ := sign_rep _ _ _ _ e2
                  refine ⟨by rw [spell, hc', e1, a, b]; simp, by simp [fits], by rw [okD]; exact c⟩
              · rename_i h1 h2 h3
                dsimp only at h
                split at h
                · cases h
                · rename_i l r' e2
                  cases h
                  obtain ⟨a, b, c1, c2⟩ := spellL_rep ih _ _ _ _ e2
                  have hc' : c = 114 := Decidable.byContradiction fun z => hc ⟨h1, h3, h2, z⟩
                  refine ⟨by rw [spell, hc', e1, a, b]; simp, by rw [fits]; exact c1, by rw [okD]; exact c2⟩
mutual
theorem fits_mono : ∀ {d : Dat} {n m : Nat}, n ≤ m → fits n d → fits m d
  | .int _, _, _, _, _ => by simp [fits]
  | .str _, _, _, _, _ => by simp [fits]
  | .byt _, _, _, _, _ => by simp [fits]
  | .bad, 0, _, _, h => h.elim
  | .bad, _ + 1, _, _, h => h.elim
  | .tup _, 0, _, _, h => h.elim
  | .tup l, n + 1, 0, hm, _ => absurd hm (by omega)
  | .tup l, n + 1, m + 1, hm, h => by
    rw [fits] at h ⊢
    exact fitsL_mono (by omega) h
theorem fitsL_mono : ∀ {l : List Dat} {n m : Nat}, n ≤ m → fitsL n l → fitsL m l
  | [], _, _, _, _ => by simp [fitsL]
  | d :: l, n, m, hm, h => by
    rw [fitsL] at h ⊢
    exact ⟨fits_mono hm h.1, fitsL_mono hm h.2⟩
end
mutual
/-- nothing bad in it -/
def pureD : Dat → Prop
  | .bad => False
  | .tup l => pureL l
  | _ => True
def pureL : List Dat → Prop
  | [] => True
  | d :: l => pureD d ∧ pureL l
end
mutual
theorem fits_some : ∀ {d : Dat}, pureD d → ∃ n, fits n d
  | .int _, _ => ⟨0, by simp [fits]⟩
  | .str _, _ => ⟨0, by simp [fits]⟩
  | .byt _, _ => ⟨0, by simp [fits]⟩
  | .bad, h => by rw [pureD] at h; exact h.elim
  | .tup l, h => by
    rw [pureD] at h
    obtain ⟨n, hn⟩ := fitsL_some h
    exact ⟨n + 1, by rw [fits]; exact hn⟩
theorem fitsL_some : ∀ {l : List Dat}, pureL l → ∃ n, fitsL n l
  | [], _ => ⟨0, by simp [fitsL]⟩
  | d :: l, h => by
    rw [pureL] at h
    obtain ⟨n, hn⟩ := fits_some h.1
    obtain ⟨m, hm⟩ := fitsL_some h.2
    exact ⟨max n m, by rw [fitsL]; exact ⟨fits_mono (Nat.le_max_left ..) hn, fitsL_mono (Nat.le_max_right ..) hm⟩⟩
end
/-- unlike data have unlike spellings, and none opens another -/
theorem spell_inj {d d' : Dat} {r r' : List UInt8} (p : pureD d) (p' : pureD d') (o : okD d) (o' : okD d') (e : spell d ++ r = spell d' ++ r') : d = d' ∧ r = r' := by
  obtain ⟨n, hn⟩ := fits_some p
  obtain ⟨m, hm⟩ := fits_some p'
  have h1 := meant_spell d (max n m) r (fits_mono (Nat.le_max_left ..) hn) o
  have h2 := meant_spell d' (max n m) r' (fits_mono (Nat.le_max_right ..) hm) o'
  rw [e, h2] at h1
  have := Option.some.inj h1
  exact ⟨(Prod.mk.inj this).1.symm, (Prod.mk.inj this).2.symm⟩
mutual
theorem pure_fits : ∀ {d : Dat} {n : Nat}, fits n d → pureD d
  | .int _, _, _ => by simp [pureD]
  | .str _, _, _ => by simp [pureD]
  | .byt _, _, _ => by simp [pureD]
  | .bad, 0, h => h.elim
  | .bad, _ + 1, h => h.elim
  | .tup _, 0, h => h.elim
  | .tup l, n + 1, h => by
    rw [fits] at h
    rw [pureD]
    exact pureL_fits h
theorem pureL_fits : ∀ {l : List Dat} {n : Nat}, fitsL n l → pureL l
  | [], _, _ => by simp [pureL]
  | d :: l, n, h => by
    rw [fitsL] at h
    rw [pureL]
    exact ⟨pure_fits h.1, pureL_fits h.2⟩
end
/-- what is nested too deep is not read -/
theorem unmeant {n : Nat} {d : Dat} {r : List UInt8} (p : pureD d) (o : okD d) (h : ¬ fits n d) : meant n (spell d ++ r) = none := by
  cases e : meant n (spell d ++ r) with
  | none => rfl
  | some x =>
    obtain ⟨d', r'⟩ := x
    obtain ⟨e1, f, o'⟩ := spell_meant _ _ _ e
    obtain ⟨rfl, _⟩ := spell_inj p (pure_fits f) o o' e1
    exact absurd f h
mutual
/-- the depth: how many tuples within one another -/
noncomputable def deep : Dat → Nat
  | .tup l => 1 + deepL l
  | _ => 0
noncomputable def deepL : List Dat → Nat
  | [] => 0
  | d :: l => max (deep d) (deepL l)
end
mutual
theorem deep_fits : ∀ {d : Dat} {n : Nat}, pureD d → (fits n d ↔ deep d ≤ n)
  | .int _, n, _ => by simp [fits, deep]
  | .str _, n, _ => by simp [fits, deep]
  | .byt _, n, _ => by simp [fits, deep]
  | .bad, _, h => by rw [pureD] at h; exact h.elim
  | .tup l, 0, _ => by simp [fits, deep]
  | .tup l, n + 1, h => by
    rw [pureD] at h
    rw [fits, deep, deepL_fits h]
    omega
theorem deepL_fits : ∀ {l : List Dat} {n : Nat}, pureL l → (fitsL n l ↔ deepL l ≤ n)
  | [], n, _ => by simp [fitsL, deepL]
  | d :: l, n, h => by
    rw [pureL] at h
    rw [fitsL, deepL, deep_fits h.1, deepL_fits h.2]
    omega
end
/-- the digits to the base 128, the lowest first -/
noncomputable def digs (n : Nat) : List Nat := if n < 128 then [n] else n % 128 :: digs (n / 128)
termination_by n
decreasing_by omega
theorem digs_lt {n : Nat} (h : n < 128) : digs n = [n] := by rw [digs]; simp [h]
theorem digs_ge {n : Nat} (h : ¬ n < 128) : digs n = n % 128 :: digs (n / 128) := by rw [digs]; simp [h]
theorem digs_ne (n : Nat) : digs n ≠ [] := by rw [digs]; split <;> simp
theorem digs_small (n : Nat) : ∀ x ∈ digs n, x < 128 := by
  induction n using Nat.strongRecOn with
  | ind n ih =>
    intro x hx
    by_cases h : n < 128
    · rw [digs_lt h] at hx; simp at hx; omega
    · rw [digs_ge h] at hx
      rcases List.mem_cons.mp hx with rfl | hx
      · omega
      · exact ih _ (by omega) x hx
/-- as the law writes them: all but the last raised by 128 -/
theorem figs_digs (n : Nat) : figs n = (digs n).dropLast.map (fun x => (128 + x).toUInt8) ++ [((digs n).getLast (digs_ne n)).toUInt8] := by
  induction n using Nat.strongRecOn with
  | ind n ih =>
    by_cases h : n < 128
    · simp [figs_lt h, digs_lt h]
    · have hne := digs_ne (n / 128)
      rw [figs_ge h, ih _ (by omega)]
      simp only [digs_ge h]
      rw [List.dropLast_cons_of_ne_nil hne, List.getLast_cons hne]
      simp
theorem digs_len (n : Nat) : (digs n).length = figN n := by
  induction n using Nat.strongRecOn with
  | ind n ih =>
    rw [figN]
    by_cases h : n < 128
    · simp [digs_lt h, h]
    · rw [digs_ge h, List.length_cons, ih _ (by omega), if_neg h]; omega
/-- the digits that are still to come -/
noncomputable def rdig (n : Nat) : List Nat := if n = 0 then [] else digs n
theorem digs_step (n : Nat) : digs n = n % 128 :: rdig (n / 128) := by
  by_cases h : n < 128
  · rw [digs_lt h, rdig, if_pos (by omega)]; congr 1; omega
  · rw [digs_ge h, rdig, if_neg (by omega)]
theorem rdig_step {n : Nat} (h : n ≠ 0) : rdig n = n % 128 :: rdig (n / 128) := by
  rw [rdig, if_neg h, digs_step]
theorem callY {w : World} {prog : Program} {A : Around} {E : Value → Shared → Prop} {s : Shared} {Q : Value → Shared → Prop} {f : Addr} {o : Obj} {name : Str} {params : Arguments} {body : List Stmt} {scope : Scope}
    {pm cd doc : Value} {args : List Value} {n : Nat} {l : List Env} (P : Prop) (binds : List (Str × Value))
    (G : G0 w s.heap) (R : Room A (n + 1)) (O : Fok A l s.heap) (ho : (KK w).lookup f = some o) (hd : o.data = .func (docDef name params body scope pm cd doc)) (hcd : codeIn (KK w) cd name = true)
    (hbind : bindArgs (docDef name params body scope pm cd doc) ⟨args, []⟩ = pure binds) (hloc : (binds.all fun x => decide (scope.names.lookup x.1 = some .local)) = true)
    (hcell : ∀ x ∈ scope.names, x.2 ≠ .cell)
    (hE : P → ∀ e h' tk, Rsd l s.heap e h' → E (.ref e) { s with heap := h', toks := tk })
    (h : ∀ L h₁ tk A' l' E', FS w s.heap L binds.reverse h₁ h₁ → s.heap.StaysIn h₁ → Room A' n → (∀ hc m, s.heap.StaysIn hc → hc.Ns L m → Fok A' l' hc) →
      (P → ∀ hc m e h' tk, s.heap.StaysIn hc → hc.Ns L m → Rsd l' hc e h' → E' (.ref e) { s with heap := h', toks := tk }) →
      (P → ∀ hc m e h' tk, s.heap.StaysIn hc → hc.Ns L m → Made hc e h' → E' (.ref e) { s with heap := h', toks := tk }) → PassesOwn (model prog w) A' (envOf name scope L f cd) E' →
      wpAny (model prog w) A' (execs body (envOf name scope L f cd)) (fun fl s' => Q (match fl with | .ret v => v | _ => .none) s') E' { s with heap := h₁, toks := tk })
    (hco : scope.isCoroutine = false := by rfl) (hgen : scope.isGenerator = false := by rfl) (hk : scope.kind = .function := by rfl) : wpAny (model prog w) A (call (.ref f) args) Q E s := by
  by_cases hP : P
  · exact callX binds G R O ho hd hcd hbind hloc hcell (hE hP) (fun L h₁ tk A' l' E' F k R' _ fo c1 c2 po => h L h₁ tk A' l' E' F k R' fo (fun _ => c1) (fun _ => c2) po) hco hgen hk
  · exact callF binds G R ho hd hcd hbind hloc hcell (fun L h₁ tk F k R' => wpAny_mono (h L h₁ tk _ _ (fun _ _ => False) F k R' (fun hc m st hn => frames_in rfl hk O st hn F.new) (fun p => (hP p).elim) (fun p => (hP p).elim) PassesOwn.never) (fun _ _ x => x) fun _ _ x => x.elim) hco hgen hk


theorem callYS {w : World} {prog : Program} {A : Around} {E : Value → Shared → Prop} {s : Shared} {Q : Value → Shared → Prop} {f : Addr} {o : Obj} {name : Str} {params : Arguments} {body : List Stmt} {scope : Scope}
    {pm cd doc : Value} {args : List Value} {n : Nat} {l : List Env} (P : Prop) (binds : List (Str × Value))
    (G : G0 w s.heap) (R : Room A (n + 1)) (O : Fok A l s.heap) (ho : (KK w).lookup f = some o) (hd : o.data = .func (docDef name params body scope pm cd doc)) (hcd : codeIn (KK w) cd name = true)
    (hbind : bindArgs (docDef name params body scope pm cd doc) ⟨args, []⟩ = pure binds) (hloc : (binds.all fun x => decide (scope.names.lookup x.1 = some .local)) = true)
    (hcell : ∀ x ∈ scope.names, x.2 ≠ .cell)
    (hE : P → ∀ e h' tk, Rsd l s.heap e h' → E (.ref e) { s with heap := h', toks := tk })
    (h : ∀ L h₁ tk A' l' E', FS w s.heap L binds.reverse h₁ h₁ → s.heap.StaysIn h₁ → Room A' n → (∀ hc m, s.heap.StaysIn hc → hc.Ns L m → Fok A' l' hc) →
      (P → ∀ hc m e h' tk, s.heap.StaysIn hc → hc.Ns L m → Rsd l' hc e h' → E' (.ref e) { s with heap := h', toks := tk }) →
      (P → ∀ hc m e h' tk, s.heap.StaysIn hc → hc.Ns L m → Made hc e h' → E' (.ref e) { s with heap := h', toks := tk }) → PassesOwn (model prog w) A' (envOf name scope L f cd) E' →
      wpS (model prog w) A' (execs body (envOf name scope L f cd)) (fun fl s' => Q (match fl with | .ret v => v | _ => .none) s') E' { s with heap := h₁, toks := tk })
    (hco : scope.isCoroutine = false := by rfl) (hgen : scope.isGenerator = false := by rfl) (hk : scope.kind = .function := by rfl) : wpS (model prog w) A (call (.ref f) args) Q E s := by
  by_cases hP : P
  · exact callXS binds G R O ho hd hcd hbind hloc hcell (hE hP) (fun L h₁ tk A' l' E' F k R' _ fo c1 c2 po => h L h₁ tk A' l' E' F k R' fo (fun _ => c1) (fun _ => c2) po) hco hgen hk
  · exact callFS binds G R ho hd hcd hbind hloc hcell (fun L h₁ tk F k R' => sMono (h L h₁ tk _ _ (fun _ _ => False) F k R' (fun hc m st hn => frames_in rfl hk O st hn F.new) (fun p => (hP p).elim) (fun p => (hP p).elim) PassesOwn.never) (fun _ _ x => x) fun _ _ x => x.elim) hco hgen hk
theorem numG_drop {d : List UInt8} {f : Bool} {i : Nat} (h : i < d.length) : numG f (d.drop i) = (if (d.getD i 0).toNat < 128 then (if (d.getD i 0).toNat = 0 ∧ f = false then none else some ((d.getD i 0).toNat, d.drop (i + 1))) else
    match numG false (d.drop (i + 1)) with
    | none => none
    | some (v, r') => some ((d.getD i 0).toNat - 128 + 128 * v, r')) := by
  have e : d.getD i 0 = d[i] := by simp [h]
  rw [List.drop_eq_getElem_cons h, numG, e]
  try rfl
/-- where the reading of a count stands -/
def Mid (d : List UInt8) (p sp acc wgt : Nat) : Prop :=
  numG true (d.drop p) = match numG (decide (sp = p)) (d.drop sp) with | none => none | some (v, r) => some (acc + wgt * v, r)
theorem Mid.start (d : List UInt8) (p : Nat) : Mid d p p 0 1 := by
  unfold Mid
  simp only [decide_true]
  cases numG true (d.drop p) with
  | none => rfl
  | some x => simp
theorem Mid.step {d : List UInt8} {p sp acc wgt : Nat} (M : Mid d p sp acc wgt) (h : sp < d.length) (hp : p ≤ sp) (hb : ¬ (d.getD sp 0).toNat < 128) :
    Mid d p (sp + 1) (acc + ((d.getD sp 0).toNat - 128) * wgt) (wgt * 128) := by
  unfold Mid at M ⊢
  rw [M, numG_drop h, if_neg hb]
  have : decide (sp + 1 = p) = false := by simp; omega
  rw [this]
  cases numG false (d.drop (sp + 1)) with
  | none => rfl
  | some x =>
    obtain ⟨v, r⟩ := x
    dsimp only
    congr 2
    rw [Nat.mul_add, Nat.mul_comm wgt ((d.getD sp 0).toNat - 128), Nat.add_assoc, Nat.mul_assoc]

inductive CtI (w : World) (s : Shared) (L : Addr) (h₁ : Heap) (d : List UInt8) (t tp : Tok) (p : Nat) (X : Nat → Prop) (s' : Shared) : Prop where
  | mk (sp acc wgt : Nat) (h' : Heap) (tk' : Nat) (ta tb tc : Tok) (M : Mid d p sp acc wgt) (hpsp : p ≤ sp) (hspd : sp ≤ d.length) (x : X sp) (e : s' = { s with heap := h', toks := tk' })
      (F : FS w s.heap L [(Str.ofString "at", .int (p : Nat) tp), (Str.ofString "data", .bytes d.toArray t), (Str.ofString "number", .int (acc : Nat) ta), (Str.ofString "weight", .int (wgt : Nat) tb), (Str.ofString "spot", .int (sp : Nat) tc)] h₁ h') : CtI w s L h₁ d t tp p X s'
theorem spec_read_count {w : World} {prog : Program} {A : Around} {E : Value → Shared → Prop} {s : Shared} {Q : Value → Shared → Prop} {l : List Env} {d : List UInt8} {p : Nat} {t tp : Tok}
    (G : G0 w s.heap) (R : Room A 5) (O : Fok A l s.heap) (hz : d.length ≤ 1000000) (hp : p ≤ d.length)
    (hQ : ∀ v r, num (d.drop p) = some (v, r) → ∀ h' q t1 t2 tk', s.heap.StaysIn h' → IsTup h' q #[.int (v : Nat) t1, .int ((d.length - r.length : Nat) : Int) t2] → Q (.ref q) { s with heap := h', toks := tk' })
    (hE : num (d.drop p) = none → ∀ e h' tk', Rsd l s.heap e h' → E (.ref e) { s with heap := h', toks := tk' }) :
    wpAny (model prog w) A (call (.ref 68) [.bytes d.toArray t, .int (p : Nat) tp]) Q E s := by
  refine callY (num (d.drop p) = none) [(Str.ofString "data", .bytes d.toArray t), (Str.ofString "at", .int (p : Nat) tp)] G R O (by exact rfl) (by exact rfl) (by kernel_rfl) (by exact rfl) (by exact rfl) (by decide) hE fun L h₁ tk A' l' E' F k R' fo c1 c2 po => ?_
  walk_at "W"
  walk_at "st"
  intro h₂ k₂ F₂ b₂
  walk_at "W"
  walk_at "st"
  intro h₃ k₃ F₃ b₃
  walk_at "W"
  walk_at "st"
  intro h₄ k₄ F₄ b₄
  clear F F₂ F₃
  have hsz : d.toArray.size ≤ 1099511627776 := by simp; omega
  refine wpAny_execs_cons (wpAny_mono (Q := fun f s' => f = .next ∧ CtI w s L h₁ d t tp p (fun sp => ¬ (sp < d.length ∧ ¬ (d.getD sp 0).toNat < 128)) s')
    (wpAny_While (codeAny_whileLoop (fun m s' => CtI w s L h₁ d t tp p (fun sp => m = d.length - sp) s') (fun m s' hI => ?_) (d.length - p) ⟨p, 0, 1, h₄, _, _, _, _, Mid.start d p, Nat.le_refl _, hp, rfl, rfl, F₄⟩)) (fun f s' hx => ?_) fun _ _ x => x)
  · obtain ⟨sp, acc, wgt, h', tk', ta, tb, tc, M, hpsp, hspd, rfl, rfl, F⟩ := hI
    walk_at "bool"
    walk_at "bool"
    walk_at "W"
    walk_at "len"
    refine len_bytes hsz ?_
    walk_at "W"
    refine wIteT (fun hlt => ?_) (fun hlt => ?_)
    · have hlt : sp < d.length := by have := of_decide_eq_true hlt; simp at this; omega
      walk_at "bool"
      walk_at "W"
      walk_at "sub"
      refine KBy.item_N (by omega) (by omega) (by omega) ?_
      rw [Int.toNat_natCast]
      walk_at "W"
      refine wIteT (fun hb => ?_) (fun hb => ?_)
      · have hb : ¬ (d.getD sp 0).toNat < 128 := by have := of_decide_eq_true hb; omega
        walk_at "bool"
        walk_at "W"
        refine wIteT (fun _ => ?_) (fun z => nomatch z)
        walk_at "W"
        walk_at "sub"
        refine KBy.item_N (by omega) (by omega) (by omega) ?_
        rw [Int.toNat_natCast]
        walk_at "W"
        have hby := UInt8.toNat_lt (d.getD sp 0)
        ((with_reducible refine mul_int ?_ ?hm); (case hm => exact .of_left (natAbs_small (by omega))))
        walk_at "W"
        walk_at "st"
        intro h₅ k₅ F₅ b₅
        walk_at "W"
        walk_at "mulR"
        walk_at "st"
        intro h₆ k₆ F₆ b₆
        walk_at "W"
        walk_at "st"
        intro h₇ k₇ F₇ b₇
        walk_at "W"
        have e1 : (acc : Int) + (((d.getD sp 0).toNat : Int) - 128) * (wgt : Int) = ((acc + ((d.getD sp 0).toNat - 128) * wgt : Nat) : Int) := by
          push_cast
          rw [show (((d.getD sp 0).toNat - 128 : Nat) : Int) = ((d.getD sp 0).toNat : Int) - 128 by omega]
        have e2 : (wgt : Int) * 128 = ((wgt * 128 : Nat) : Int) := by push_cast; rfl
        have e3 : (sp : Int) + 1 = ((sp + 1 : Nat) : Int) := by push_cast; rfl
        rw [e1, e2, e3] at F₇
        exact ⟨d.length - (sp + 1), by omega, sp + 1, acc + ((d.getD sp 0).toNat - 128) * wgt, wgt * 128, h₇, _, _, _, _, M.step hlt hpsp hb, by omega, hlt, rfl, rfl, F₇⟩
      · have hb : (d.getD sp 0).toNat < 128 := by have := of_decide_eq_false hb; omega
        refine wIteT (fun z => nomatch z) (fun _ => ?_)
        walk_at "W"
        exact ⟨rfl, sp, acc, wgt, h', _, _, _, _, M, hpsp, hspd, fun z => z.2 hb, rfl, F⟩
    · have hlt : ¬ sp < d.length := by have := of_decide_eq_false hlt; simp at this; omega
      refine wIteT (fun z => nomatch z) (fun _ => ?_)
      walk_at "W"
      exact ⟨rfl, sp, acc, wgt, h', _, _, _, _, M, hpsp, hspd, fun z => hlt z.1, rfl, F⟩
  · obtain ⟨rfl, sp, acc, wgt, h', tk', ta, tb, tc, M, hpsp, hspd, hstop, rfl, F⟩ := hx
    clear F₄
    walk_at "W"
    walk_at "len"
    refine len_bytes hsz ?_
    walk_at "W"
    refine wIteT (fun hlt => ?_) (fun hlt => ?_)
    · have hn : sp = d.length := by have := of_decide_eq_true hlt; simp at this; omega
      have hno : num (d.drop p) = none := by
        unfold Mid at M
        rw [show num (d.drop p) = numG true (d.drop p) from rfl, M, hn, List.drop_length]
        rfl
      walk_at "W"
      refine wRaise F.gh R' (by rfl) ?_
      walk_at "W"
      exact ⟨F.gh, ⟨_, .inr ⟨_, rfl⟩⟩, fun h' e tk X => c2 hno _ _ e h' tk F.fr.keep F.fr.ns X⟩
    · have hlt : sp < d.length := by have := of_decide_eq_false hlt; simp at this; omega
      have hb : (d.getD sp 0).toNat < 128 := Decidable.byContradiction fun z => hstop ⟨hlt, z⟩
      walk_at "W"
      walk_at "bool"
      walk_at "bool"
      walk_at "W"
      walk_at "sub"
      refine KBy.item_N (by omega) (by omega) (by omega) ?_
      rw [Int.toNat_natCast]
      walk_at "W"
      have numis : ¬ ((d.getD sp 0).toNat = 0 ∧ p < sp) → num (d.drop p) = some (acc + (d.getD sp 0).toNat * wgt, d.drop (sp + 1)) := fun hne => by
        unfold Mid at M
        rw [show num (d.drop p) = numG true (d.drop p) from rfl, M, numG_drop hlt, if_pos hb, if_neg (fun z => hne ⟨z.1, by have := z.2; simp at this; omega⟩)]
        dsimp only
        rw [Nat.mul_comm wgt]
      refine wIteT (fun h0 => ?_) (fun h0 => ?_)
      · have h0 : (d.getD sp 0).toNat = 0 := by simpa using h0
        walk_at "bool"
        walk_at "W"
        refine wIteT (fun h1 => ?_) (fun h1 => ?_)
        · have h1 : p < sp := by have := of_decide_eq_true h1; omega
          walk_at "bool"
          have hno : num (d.drop p) = none := by
            unfold Mid at M
            rw [show num (d.drop p) = numG true (d.drop p) from rfl, M, numG_drop hlt, if_pos hb, if_pos ⟨h0, by simp; omega⟩]
          refine wIteT (fun _ => ?_) (fun z => nomatch z)
          walk_at "W"
          refine wRaise F.gh R' (by rfl) ?_
          walk_at "W"
          exact ⟨F.gh, ⟨_, .inr ⟨_, rfl⟩⟩, fun h' e tk X => c2 hno _ _ e h' tk F.fr.keep F.fr.ns X⟩
        · have numis := numis fun z => by have := of_decide_eq_false h1; omega
          refine wIteT (fun z => nomatch z) (fun _ => ?_)
          walk_at "W"
          refine wpAny_Tuple ?_
          walk_at "W"
          walk_at "sub"
          refine KBy.item_N (by omega) (by omega) (by omega) ?_
          rw [Int.toNat_natCast]
          walk_at "W"
          ((with_reducible refine mul_int ?_ ?hm); (case hm => exact .of_left (natAbs_small (by have := UInt8.toNat_lt (d.getD sp 0); omega))))
          walk_at "W"
          refine ⟨by show 2 ≤ 16777216; omega, ?_⟩
          have := hQ _ _ numis
          rw [List.length_drop, show d.length - (d.length - (sp + 1)) = sp + 1 by omega] at this
          refine this _ _ _ _ _ (F.stays fun b o e => Heap.get?_push_of_some _ e).fr.keep ⟨_, Heap.get?_push_size _ rfl, rfl, _, by push_cast; rfl⟩
      · have h0 : ¬ (d.getD sp 0).toNat = 0 := by simpa using h0
        have numis := numis fun z => h0 z.1
        refine wIteT (fun z => nomatch z) (fun _ => ?_)
        walk_at "W"
        refine wpAny_Tuple ?_
        walk_at "W"
        walk_at "sub"
        refine KBy.item_N (by omega) (by omega) (by omega) ?_
        rw [Int.toNat_natCast]
        walk_at "W"
        ((with_reducible refine mul_int ?_ ?hm); (case hm => exact .of_left (natAbs_small (by have := UInt8.toNat_lt (d.getD sp 0); omega))))
        walk_at "W"
        refine ⟨by show 2 ≤ 16777216; omega, ?_⟩
        have := hQ _ _ numis
        rw [List.length_drop, show d.length - (d.length - (sp + 1)) = sp + 1 by omega] at this
        refine this _ _ _ _ _ (F.stays fun b o e => Heap.get?_push_of_some _ e).fr.keep ⟨_, Heap.get?_push_size _ rfl, rfl, _, by push_cast; rfl⟩
/-- these objects are as they were -/
def Keep (bs : List Addr) (h h' : Heap) : Prop := ∀ b ∈ bs, ∀ o, h.get? b = some o → h'.get? b = some o
theorem Keep.stays {bs : List Addr} {h h' : Heap} (k : h.StaysIn h') : Keep bs h h' := fun b _ o e => k b o e
theorem Keep.but {bs : List Addr} {a : Addr} {h h' : Heap} (k : Heap.SameBut a h h') (n : a ∉ bs) : Keep bs h h' := fun b hb o e => k.extBut b o (fun z => n (z ▸ hb)) e
theorem Keep.trans {bs : List Addr} {h h' h'' : Heap} (k : Keep bs h h') (k' : Keep bs h' h'') : Keep bs h h'' := fun b hb o e => k' b hb o (k b hb o e)

/-- an iterator, n items long, that lives in the objects bs (the first is itself) -/
structure Walker (prog : Program) (w : World) (n : Nat) (item : Nat → Value → Prop) (it : Addr) (bs : List Addr) (IA : Nat → Heap → Prop) : Prop where
  item : ∀ {A : Around} {E : Value → Shared → Prop} {i : Nat} {s : Shared} {Q : Option Value → Shared → Prop}, A.handled = none → i < n → IA i s.heap →
    (∀ h' v k, item i v → IA (i + 1) h' → Heap.SameBut it s.heap h' → Q (some v) { s with heap := h', toks := k }) → wpAny (model prog w) A (pyNext (.ref it)) Q E s
  fin : ∀ {A : Around} {E : Value → Shared → Prop} {s : Shared} {Q : Option Value → Shared → Prop}, A.handled = none → IA n s.heap →
    (∀ h' k, Heap.ExtBut it s.heap h' → Q none { s with heap := h', toks := k }) → wpAny (model prog w) A (pyNext (.ref it)) Q E s
  keep : ∀ {i : Nat} {h h' : Heap}, IA i h → Keep bs h h' → IA i h'
  has : it ∈ bs

theorem walker_range (prog : Program) (w : World) (n : Nat) (it : Addr) :
    Walker prog w n (fun i v => ∃ t, v = .int (i : Nat) t) it [it] (fun i h => IsRangeIter h it (i : Nat) ((n : Int) - (i : Nat)) 1) where
  item := by
    intro A E i s Q hh hi hit hQ
    refine wpAny_pyNext_range_item hit (by omega) fun h' hit' hs => hQ h' _ _ ⟨_, rfl⟩ ?_ hs
    have e1 : (i : Int) + 1 = ((i + 1 : Nat) : Int) := by push_cast; rfl
    rw [e1] at hit'
    rw [show (n : Int) - ((i + 1 : Nat) : Int) = (n : Int) - ((i : Nat) : Int) - 1 by push_cast; omega]
    exact hit'
  fin := fun hh hit hQ => wpAny_pyNext_range_end hh hit (by omega) fun h' he => hQ h' _ he
  keep := fun h k => k _ (.head _) _ h
  has := .head _

/-- what a for asks of its iterator; J: what stands between the turns -/
inductive ForT (prog : Program) (w : World) (A : Around) (E : Value → Shared → Prop) (s0 : Shared) (env : Env) (x : Str) (body : List Stmt) (Q : Flow → Shared → Prop) (itv : Value) (s₂ : Shared) : Prop
  | mk (n : Nat) (item : Nat → Value → Prop) (it : Addr) (bs : List Addr) (IA : Nat → Heap → Prop) (J : Nat → Heap → Prop) (W : Walker prog w n item it bs IA) (e : itv = .ref it)
    (es : s₂ = { s0 with heap := s₂.heap, toks := s₂.toks }) (hi : IA 0 s₂.heap) (hj : J 0 s₂.heap)
    (stab : ∀ i h h', i ≤ n → IA i h → J i h → (Heap.SameBut it h h' ∨ Heap.ExtBut it h h') → J i h')
    (turn : ∀ i v h tk, i < n → item i v → IA (i + 1) h → J i h → wpAny (model prog w) A (storeName env x v) (fun _ s₃ => wpAny (model prog w) A (execs body env) (fun f s₄ => match f with
        | .next | .cont => ∃ h' tk', s₄ = { s0 with heap := h', toks := tk' } ∧ J (i + 1) h' ∧ Keep bs h h'
        | .brk => False
        | .ret v => Q (.ret v) s₄) E s₃) E { s0 with heap := h, toks := tk })
    (fin : ∀ h tk, J n h → Q .next { s0 with heap := h, toks := tk }) : ForT prog w A E s0 env x body Q itv s₂
/-- a for over an iterator; J: what stands between the turns -/
theorem wForW {prog : Program} {w : World} {A : Around} {E : Value → Shared → Prop} {s : Shared} {env : Env} {pos px : Pos} {x : Str} {iter : Expr} {body : List Stmt} {Q : Flow → Shared → Prop} (s0 : Shared)
    (hh : A.handled = none) (po : PassesOwn (model prog w) A env E) (hs : ∀ x, foldedSetIterable iter env x = pure x)
    (ht : ∀ it v, letOwnedTupleGo (.Name x px) it v = pure ())
    (h : wpAny (model prog w) A (eval iter env) (fun v s₁ => wpAny (model prog w) A (pyIter v) (fun itv s₂ => ForT prog w A E s0 env x body Q itv s₂) E s₁) E s) :
    wpAny (model prog w) A (exec (.For (.Name x px) iter body [] pos) env) Q E s := by
  refine wpAny_For (wpAny_mono h (fun v s₁ h₁ => wpAny_mono h₁ (fun itv s₂ h₂ => ?_) fun _ _ x => x) fun _ _ x => x) hs
  obtain ⟨n, item, it, bs, IA, J, W, rfl, es, hi, hj, stab, turn, fin⟩ := h₂
  refine codeAny_forLoop (fun m s' => ∃ i h tk, m = n - i ∧ i ≤ n ∧ s' = { s0 with heap := h, toks := tk } ∧ IA i h ∧ J i h) (fun m s' hI => ?_) n ⟨0, s₂.heap, s₂.toks, rfl, Nat.zero_le _, es, hi, hj⟩ (ht _)
  obtain ⟨i, h, tk, rfl, hin, rfl, hi, hj⟩ := hI
  by_cases hlt : i < n
  · refine W.item hh hlt hi fun h' v k hv hi' hs => ?_
    refine wpAny_passesOwn po ?_
    refine wpAny_assign_Name ?_
    refine wpAny_mono (turn i v h' k hlt hv hi' (stab i h h' hin hi hj (.inl hs))) (fun _ s₃ h₃ => wpAny_passesOwn po (wpAny_mono h₃ (fun f s₄ h₄ => ?_) fun _ _ x => x)) fun _ _ x => x
    cases f with
    | next => obtain ⟨h'', tk', e, hj', hk⟩ := h₄; exact ⟨n - (i + 1), by omega, i + 1, h'', tk', rfl, hlt, e, W.keep hi' hk, hj'⟩
    | cont => obtain ⟨h'', tk', e, hj', hk⟩ := h₄; exact ⟨n - (i + 1), by omega, i + 1, h'', tk', rfl, hlt, e, W.keep hi' hk, hj'⟩
    | brk => exact h₄.elim
    | ret v => exact h₄
  · obtain rfl : i = n := by omega
    refine W.fin hh hi fun h' k he => ?_
    exact wpAny_execs_nil (fin h' k (stab i h h' hin hi hj (.inr he)))

theorem rep_add {α : Type} {f : List UInt8 → Option (α × List UInt8)} : ∀ (i k : Nat) (o : List UInt8), rep f (i + k) o = match rep f i o with
    | none => none
    | some (l, r) => match rep f k r with
      | none => none
      | some (l2, r2) => some (l ++ l2, r2)
  | 0, k, o => by
    rw [Nat.zero_add]
    show rep f k o = match rep f k o with | none => none | some (l2, r2) => some ([] ++ l2, r2)
    cases rep f k o with
    | none => rfl
    | some x => rfl
  | i + 1, k, o => by
    rw [show i + 1 + k = (i + k) + 1 by omega]
    show (match f o with | none => none | some (x, r') => match rep f (i + k) r' with | none => none | some (xs, r'') => some (x :: xs, r'')) = _
    cases e : f o with
    | none => simp [rep, e]
    | some x =>
      obtain ⟨a, r⟩ := x
      simp only [rep, e, rep_add i k r]
      cases rep f i r with
      | none => rfl
      | some y =>
        obtain ⟨l, r2⟩ := y
        dsimp only
        cases rep f k r2 with
        | none => rfl
        | some z => rfl
theorem small_range {n : Nat} (h : n ≤ 16777216) : PySem.Builtin.Range.small 0 n 1 = true := by
  have e : Builtin.Range.rangeSize 0 n 1 = n := by unfold Builtin.Range.rangeSize; simp; omega
  unfold PySem.Builtin.Range.small
  rw [e]
  simp [Builtin.Range.rangeFitsLong]
  omega
theorem rangeSize_nat (n : Nat) : Builtin.Range.rangeSize 0 n 1 = n := by unfold Builtin.Range.rangeSize; simp; omega
theorem join_signs (sg : List Nat) : Txt.join ⟨#[]⟩ (sg.map fun c => (⟨#[c]⟩ : Str)) = ⟨sg.toArray⟩ := by
  unfold Txt.join
  rw [StrLaws.glued_eq_join]
  induction sg with
  | nil => rfl
  | cons c r ih =>
    cases r with
    | nil => rfl
    | cons c' r' =>
      show (⟨#[c]⟩ : Str) ++ ⟨#[]⟩ ++ Str.join ⟨#[]⟩ (List.map (fun c => (⟨#[c]⟩ : Str)) (c' :: r')) = _
      rw [ih]
      show (⟨(#[c] ++ #[]) ++ (c' :: r').toArray⟩ : Str) = _
      simp
theorem StrsAre.snoc {vs : List Value} {ys : List Str} (h : StrsAre vs ys) (y : Str) (t : Tok) : StrsAre (vs ++ [.str y t]) (ys ++ [y]) := by
  induction h with
  | nil => exact .cons y t .nil
  | cons z u _ ih => exact .cons z u ih

section
variable {prog : Program} {w : World} {A : Around} {E : Value → Shared → Prop} {s : Shared}
/-- iter(range(n)) -/
theorem iter_range_nat {n : Nat} {t : Tok} {Q : Value → Shared → Prop} (hn : n ≤ 16777216)
    (h : ∀ h' k it, s.heap.get? it = none → s.heap.StaysIn h' → IsRangeIter h' it (0 : Nat) ((n : Int) - (0 : Nat)) 1 → Q (.ref it) { s with heap := h', toks := k }) :
    wpAny (model prog w) A (call (.type "range") [.int (n : Nat) t]) (fun v s₁ => wpAny (model prog w) A (pyIter v) Q E s₁) E s := by
  refine call_range_1 ?_
  refine wpAny_pyIter_range (Heap.get?_push_size _ rfl) (small_range hn) ?_
  have k1 : s.heap.StaysIn ((s.heap.push { cls := .type "range", data := .fields #[.int 0 s.toks, .int (n : Nat) t, .int 1 (s.toks + 1)] })) := fun b o e => Heap.get?_push_of_some _ e
  refine h _ _ _ ?_ (fun b o e => Heap.get?_push_of_some _ (k1 b o e)) ?_
  · exact Heap.get?_none_of_le (by rw [Heap.size_push]; omega)
  · have := Heap.get?_push_size (s.heap.push { cls := .type "range", data := .fields #[.int 0 s.toks, .int (n : Nat) t, .int 1 (s.toks + 1)] }) (o := { cls := .type "range_iterator", data := .fields #[rawInt 0, rawInt (Builtin.Range.rangeSize 0 n 1), rawInt 1] }) rfl
    rw [rangeSize_nat] at this
    rw [show (n : Int) - ((0 : Nat) : Int) = n by simp]
    rw [rangeSize_nat]
    exact this
end
theorem IsList.stays {h h' : Heap} {a : Addr} {items : Array Value} (x : h.PlainList a items) (k : h.StaysIn h') : h'.PlainList a items := let ⟨o, ho⟩ := x; ⟨o, k a _ ho⟩
theorem IsList.but {h h' : Heap} {a b : Addr} {items : Array Value} (x : h.PlainList a items) (n : a ≠ b) (k : Heap.SameBut b h h') : h'.PlainList a items := let ⟨o, ho⟩ := x; ⟨o, k.extBut a _ n ho⟩
theorem PlainList.isList {h : Heap} {a : Addr} {items : Array Value} (x : h.PlainList a items) : h.IsList a items := let ⟨n, ho⟩ := x; ⟨_, ho, rfl, n, rfl⟩
theorem PlainList.get {h : Heap} {a : Addr} {items : Array Value} (x : h.PlainList a items) : ∃ o, h.get? a = some o := let ⟨_, ho⟩ := x; ⟨_, ho⟩
theorem get_none_of_stays {h h' : Heap} {a : Addr} (k : h.StaysIn h') (n : h'.get? a = none) : h.get? a = none := by
  cases q : h.get? a with
  | none => rfl
  | some o => rw [k _ _ q] at n; cases n
theorem FS.ebut {w : World} {hE hR h h' : Heap} {L a : Addr} {l : List (Str × Value)} (F : FS w hE L l hR h) (nE : hE.get? a = none) (nR : hR.get? a = none) (k : Heap.SameBut a h h' ∨ Heap.ExtBut a h h') : FS w hE L l hR h' := by
  have ke : Heap.ExtBut a h h' := k.elim (·.extBut) id
  have aL : L ≠ a := fun e => by
    obtain ⟨m, o, _, _, ho, _⟩ := F.nsR
    rw [e, nR] at ho; cases ho
  exact ⟨F.g, ⟨F.fr.ns.extBut ke aL, fun b o e => ke b o (fun z => by rw [z, nE] at e; cases e) (F.fr.keep b o e), F.fr.above⟩, fun b o hb e => ke b o (fun z => by rw [z, nR] at e; cases e) (F.ext b o hb e), F.nsR⟩
theorem IsList.ebut {h h' : Heap} {a b : Addr} {items : Array Value} (x : h.PlainList a items) (n : a ≠ b) (k : Heap.SameBut b h h' ∨ Heap.ExtBut b h h') : h'.PlainList a items := let ⟨o, ho⟩ := x; ⟨o, (k.elim (·.extBut) id : Heap.ExtBut b h h') a _ n ho⟩
section
variable {prog : Program} {w : World} {A : Around} {E : Value → Shared → Prop} {s : Shared}
theorem list_get_append {M : Model} {a : Addr} {items : Array Value} {pl : Sem Bool} {Q : Value × List Value → Shared → Prop} (x : s.heap.PlainList a items) (h : Q (.builtin "list.append", [.ref a]) s) : wpAny M A (getMethod (.ref a) "append" pl) Q E s :=
  let ⟨_, ho⟩ := x; getMethod_list_append ho rfl rfl h
end

theorem rep_prefix_none {α : Type} {f : List UInt8 → Option (α × List UInt8)} {i n : Nat} {o r : List UInt8} {l : List α} (h : rep f i o = some (l, r)) (hi : i < n) (hf : f r = none) : rep f n o = none := by
  obtain ⟨k, rfl⟩ : ∃ k, n = i + (k + 1) := ⟨n - i - 1, by omega⟩
  rw [rep_add, h]
  dsimp only
  rw [rep, hf]
theorem rep_snoc {α : Type} {f : List UInt8 → Option (α × List UInt8)} {i : Nat} {o r r' : List UInt8} {l : List α} {x : α} (h : rep f i o = some (l, r)) (hf : f r = some (x, r')) : rep f (i + 1) o = some (l ++ [x], r') := by
  rw [rep_add, h]
  dsimp only
  rw [rep, hf]
  rfl

theorem drop_rest {d r x : List UInt8} {p : Nat} (h : d.drop p = x ++ r) (hp : p ≤ d.length) : d.drop (d.length - r.length) = r := by
  have hl := congrArg List.length h
  rw [List.length_drop, List.length_append] at hl
  rw [show d.length - r.length = p + x.length by omega, ← List.drop_drop, h, List.drop_left]
theorem unpackS {prog : Program} {w : World} {A : Around} {E : Value → Shared → Prop} {s : Shared} {env : Env} {elts : List Expr} {x1 : Nat} {pos : Pos} {t : Addr} {items : Array Value} {Q : Unit → Shared → Prop} (hh : A.handled = none) (ht : IsTup s.heap t items)
    (hn : (assignEach elts env).length = items.size) (hstar : (assignEach elts env).findIdx? (·.1) = none)
    (h : ∀ h', s.heap.StaysIn h' → wpAny (model prog w) A (assignInOrder ((assignEach elts env).map (·.2)) items.toList) Q E { s with heap := h' }) :
    wpAny (model prog w) A (assign (.Tuple elts x1 pos) env (.ref t)) Q E s :=
  assign_Tuple_tuple hh ht hn hstar fun h' he => h h' fun b o e => he b o (Nat.ne_of_lt (Heap.lt_size e)) e

inductive SigI (w : World) (hE hR : Heap) (L a : Addr) (d : List UInt8) (t : Tok) (p i : Nat) (h : Heap) : Prop where
  | mk (sg : List Nat) (r : List UInt8) (items : Array Value) (lo : List (Str × Value)) (tsp : Tok) (e1 : rep sign i (d.drop p) = some (sg, r)) (e2 : r.length ≤ d.length - p) (F : FS w hE L lo hR h)
      (li : h.PlainList a items) (e3 : items.size = i) (e4 : StrsAre items.toList (sg.map fun c => (⟨#[c]⟩ : Str)))
      (e5 : lo.lookup (Str.ofString "data") = some (.bytes d.toArray t)) (e6 : lo.lookup (Str.ofString "signs") = some (.ref a)) (e7 : lo.lookup (Str.ofString "spot") = some (.int ((d.length - r.length : Nat) : Int) tsp)) : SigI w hE hR L a d t p i h
theorem spec_read_text {w : World} {prog : Program} {A : Around} {E : Value → Shared → Prop} {s : Shared} {Q : Value → Shared → Prop} {l : List Env} {d : List UInt8} {p many : Nat} {t tp tm : Tok}
    (G : G0 w s.heap) (R : Room A 7) (O : Fok A l s.heap) (hz : d.length ≤ 1000000) (hp : p ≤ d.length)
    (hQ : ∀ sg r, rep sign many (d.drop p) = some (sg, r) → ∀ h' q t1 t2 tk', s.heap.StaysIn h' → IsTup h' q #[.str ⟨sg.toArray⟩ t1, .int ((d.length - r.length : Nat) : Int) t2] → Q (.ref q) { s with heap := h', toks := tk' })
    (hE : rep sign many (d.drop p) = none → ∀ e h' tk', Rsd l s.heap e h' → E (.ref e) { s with heap := h', toks := tk' }) :
    wpAny (model prog w) A (call (.ref 101) [.bytes d.toArray t, .int (p : Nat) tp, .int (many : Nat) tm]) Q E s := by
  refine callY (rep sign many (d.drop p) = none) [(Str.ofString "data", .bytes d.toArray t), (Str.ofString "at", .int (p : Nat) tp), (Str.ofString "many", .int (many : Nat) tm)] G R O (by exact rfl) (by exact rfl) (by kernel_rfl) (by exact rfl) (by exact rfl) (by decide) hE fun L h₁ tk A' l' E' F k R' fo c1 c2 po => ?_
  have hsz : d.toArray.size ≤ 1099511627776 := by simp; omega
  refine wpAny_execs_cons (wAsg (by rfl) (wpAny_List ?_))
  walk_at "W"
  refine ⟨by decide, ?_⟩
  have la : (h₁.push { cls := .type "list", data := .seq #[] }).PlainList h₁.objs.size #[] := ⟨0, Heap.get?_push_size _ rfl⟩
  have na : h₁.get? h₁.objs.size = none := Heap.get?_none_of_le (Nat.le_refl _)
  have F₁ := F.stays (h' := h₁.push { cls := .type "list", data := .seq #[] }) fun b o e => Heap.get?_push_of_some _ e
  generalize h₁.objs.size = a at la na
  generalize h₁.push { cls := .type "list", data := .seq #[] } = h₁' at la F₁
  have nE : s.heap.get? a = none := get_none_of_stays k na
  have aL := F₁.aL na
  walk_at "st"
  intro h₂ k₂ F₂ b₂
  have l₂ := IsList.but la aL b₂
  walk_at "W"
  walk_at "st"
  intro h₃ k₃ F₃ b₃
  have l₃ := IsList.but l₂ aL b₃
  clear F F₁ F₂ l₂ la b₂ b₃
  refine wpAny_execs_cons (wForW s R'.hd po (by intro _; rfl) (by intro _ _; rfl) ?_)
  refine callM (f := .type "range") (by rfl) (by rfl) (nb_range F₃.gh ⟨rfl, argsC (by rfl) ?_⟩)
  refine callM (f := .builtin "min") (by rfl) (by rfl) (nb_min F₃.gh ⟨rfl, ?_⟩)
  walk_at "W"
  walk_at "len"
  refine len_bytes hsz ?_
  walk_at "W"
  refine min_two_ints R'.hd fun h₄ k₄ st₄ => ?_
  have F₄ := F₃.stays st₄
  have l₄ := IsList.stays l₃ st₄
  have en : ∀ (x y : Tok), (if (d.toArray.size : Int) - (p : Nat) + 1 < (many : Nat) then Value.int ((d.toArray.size : Int) - (p : Nat) + 1) y else Value.int (many : Nat) x) = .int ((min many (d.length - p + 1) : Nat) : Int) (if (d.toArray.size : Int) - (p : Nat) + 1 < (many : Nat) then y else x) := fun x y => by
    have : d.toArray.size = d.length := by simp
    rw [this]
    split
    · rename_i hlt
      rw [show min many (d.length - p + 1) = d.length - p + 1 by omega]
      congr 1; omega
    · rename_i hlt
      rw [show min many (d.length - p + 1) = many by omega]
  rw [en]
  walk_at "W"
  refine iter_range_nat (by omega) fun h₅ k₅ it nit st₅ hit => ?_
  have F₅ := F₄.stays st₅
  have l₅ := IsList.stays l₄ st₅
  have itE : s.heap.get? it = none := get_none_of_stays F₄.fr.keep nit
  have itL : it ≠ L := fun e => by obtain ⟨o, es, ep, ho, _⟩ := F₄.fr.ns; rw [← e, nit] at ho; cases ho
  have ita : a ≠ it := fun e => by obtain ⟨o, ho⟩ := l₄; rw [e, nit] at ho; cases ho
  have itR : h₁.get? it = none := by
    cases q : h₁.get? it with
    | none => rfl
    | some o => exact absurd (F₄.ext _ _ itL q) (by rw [nit]; simp)
  refine ⟨min many (d.length - p + 1), _, it, _, _, fun i h => SigI w s.heap h₁ L a d t p i h,
    walker_range prog w _ it, rfl, rfl, hit, ⟨[], d.drop p, #[], _, tp, rfl, by simp, F₅, l₅, rfl, .nil, rfl, rfl, ?_⟩, ?_, ?_, ?_⟩
  · rw [List.length_drop, show d.length - (d.length - p) = p by omega]; rfl
  · rintro i h h' _ _ ⟨sg, r, items, lo, tsp, e1, e2, F, li, e3, e4, e5, e6, e7⟩ kk
    exact ⟨sg, r, items, lo, tsp, e1, e2, F.ebut itE itR kk, IsList.ebut li ita kk, e3, e4, e5, e6, e7⟩
  · rintro i v h tk hin ⟨tv, rfl⟩ hit' ⟨sg, r, items, lo, tsp, e1, e2, F, li, e3, e4, e5, e6, e7⟩
    clear F₃ F₄ F₅ l₃ l₄ l₅
    walk_at "st"
    intro h₆ k₆ F₆ b₆
    have li₆ := IsList.but li aL b₆
    have kp₆ : Keep [it] h h₆ := Keep.but b₆ (by simpa using itL.symm)
    refine wpAny_execs_cons (Assign_Tuple ?_ (by rfl) (by rfl))
    refine callN (f := 68) (by exact rfl) (by exact rfl) (by rfl) (n_read_count F₆.gh ⟨rfl, ?_⟩)
    walk_at "X"
    refine ⟨F₆.gh, ?_⟩
    have hsp : d.drop (d.length - r.length) = r := by
      obtain ⟨hr, _⟩ := sign_rep _ _ _ _ e1
      exact drop_rest hr hp
    refine spec_read_count F₆.gh (R'.mono (by omega)) (fo _ _ F₆.fr.keep F₆.fr.ns) hz (by omega) (fun v r' hnum h₇ q t1 t2 k₇ st₇ tup => ?_) fun hno e h' tk' X => ?_
    · rw [hsp] at hnum
      have F₇ := F₆.stays st₇
      have li₇ := IsList.stays li₆ st₇
      have kp₇ : Keep [it] h h₇ := kp₆.trans (Keep.stays st₇)
      refine unpackS R'.hd tup (by rfl) (by rfl) fun h₈ st₈ => ?_
      have F₈ := F₇.stays st₈
      have li₈ := IsList.stays li₇ st₈
      have kp₈ : Keep [it] h h₈ := kp₇.trans (Keep.stays st₈)
      clear F F₆ F₇ li li₆ li₇
      refine assignInOrder_cons (wpAny_assign_Name ?_)
      walk_at "st"
      intro h₉ k₉ F₉ b₉
      refine assignInOrder_cons (wpAny_assign_Name ?_)
      walk_at "st"
      intro h₁₀ k₁₀ F₁₀ b₁₀
      have li₁₀ := IsList.but (IsList.but li₈ aL b₉) aL b₁₀
      have kp₁₀ : Keep [it] h h₁₀ := (kp₈.trans (Keep.but b₉ (by simpa using itL.symm))).trans (Keep.but b₁₀ (by simpa using itL.symm))
      clear F₈ F₉ li₈
      refine assignInOrder_nil ?_
      walk_at "X"
      refine n_LAST_SIGN F₁₀.gh ?_
      walk_at "X"
      refine wIteT (fun hb => ?_) (fun hb => ?_)
      · have hb : 1114111 < v := by have := of_decide_eq_true hb; omega
        walk_at "X"
        refine wRaise F₁₀.gh R' (by rfl) ?_
        walk_at "X"
        exact ⟨F₁₀.gh, ⟨_, .inr ⟨_, rfl⟩⟩, fun h' e tk X => c2 (rep_prefix_none e1 (by omega) (by unfold sign; rw [hnum]; dsimp only; rw [if_pos hb])) _ _ e h' tk F₁₀.fr.keep F₁₀.fr.ns X⟩
      · have hb : ¬ 1114111 < v := by have := of_decide_eq_false hb; omega
        walk_at "X"
        refine wExpr rfl rfl (methC (by exact rfl) ?_)
        walk_at "X"
        refine list_get_append li₁₀ (callWith_builtin rfl (evalArgs_ok rfl (argsC (by exact rfl) ?_)))
        refine callM (f := .builtin "chr") (by rfl) (by rfl) (nb_chr F₁₀.gh ⟨rfl, ?_⟩)
        walk_at "X"
        refine PySem.P.chr_of_int (by simp; omega) ?_
        walk_at "X"
        refine wpAny_list_append_plain li₁₀ (fun h₁₁ li₁₁ b₁₁ => ?_) (by show _ ≤ 16777216; omega)
        have F₁₁ := F₁₀.but nE na b₁₁
        have kp₁₁ : Keep [it] h h₁₁ := kp₁₀.trans (Keep.but b₁₁ (by simpa using ita))
        walk_at "X"
        walk_at "st"
        intro h₁₂ k₁₂ F₁₂ b₁₂
        walk_at "X"
        have hs : sign r = some (v, r') := by unfold sign; rw [hnum]; dsimp only; rw [if_neg hb]
        have := sign_lt hs
        refine ⟨h₁₂, _, rfl, ⟨sg ++ [v], r', _, _, t2, rep_snoc e1 hs, by omega, F₁₂, IsList.but li₁₁ aL b₁₂, by simp [e3], ?_, ?_, ?_, ?_⟩, kp₁₁.trans (Keep.but b₁₂ (by simpa using itL.symm))⟩
        · rw [List.map_append, Array.toList_push]
          rw [Int.toNat_natCast]
          exact StrsAre.snoc e4 _ _
        · walk_at "hv"
        · walk_at "hv"
        · walk_at "hv"
    · rw [hsp] at hno
      exact c1 (rep_prefix_none e1 (by omega) (by unfold sign; rw [hno])) _ _ _ _ _ F₆.fr.keep F₆.fr.ns X
  · rintro h tk ⟨sg, r, items, lo, tsp, e1, e2, F, li, e3, e4, e5, e6, e7⟩
    have hmany : min many (d.length - p + 1) = many := by
      have := (rep_le (fun _ _ _ => sign_lt) _ _ _ _ e1).1
      rw [List.length_drop] at this
      omega
    rw [hmany] at e1
    walk_at "X"
    refine wpAny_Tuple ?_
    refine argsC (by exact rfl) (methC (by exact rfl) ?_)
    walk_at "X"
    refine getMethod_builtin (typeIs_str _ _ _) PySem.F.plainAttrs_str PySem.F.slot_str_join PySem.F.type_str_join (fun _ e => nomatch e) ?_
    refine callWith_builtin rfl (evalArgs_ok rfl ?_)
    walk_at "X"
    refine join_list (PlainList.isList li) e4 ?_ fun t' k => ?_
    · have h1 : ∀ l : List Nat, ((l.map fun c => (⟨#[c]⟩ : Str)).map (·.length)).sum = l.length := fun l => by
        induction l with
        | nil => rfl
        | cons c l ih => simp only [List.map_cons, List.sum_cons, List.length_cons, ih]; show 1 + _ = _; omega
      have h2 := (rep_le (fun _ _ _ => sign_lt) _ _ _ _ e1)
      rw [List.length_drop] at h2
      rw [h1]
      show _ + _ * 0 ≤ _
      omega
    walk_at "X"
    refine ⟨by show 2 ≤ 16777216; omega, ?_⟩
    rw [show (Str.ofString "") = (⟨#[]⟩ : Str) from rfl, join_signs]
    exact hQ sg r e1 _ _ _ _ _ (F.stays fun b o e => Heap.get?_push_of_some _ e).fr.keep ⟨_, Heap.get?_push_size _ rfl, rfl, _, rfl⟩
/-! a value of the heap is this datum -/
mutual
def IsV (h : Heap) : Dat → Value → Prop
  | .int i, v => ∃ t, v = .int i t
  | .str s, v => ∃ t, v = .str ⟨s.toArray⟩ t
  | .byt b, v => ∃ t, v = .bytes b.toArray t
  | .bad, v => (∃ b, v = .bool b) ∨ v = .none
  | .tup l, v => ∃ a items, v = .ref a ∧ IsTup h a items ∧ IsVL h l items.toList
def IsVL (h : Heap) : List Dat → List Value → Prop
  | [], vs => vs = []
  | d :: l, vs => ∃ v vs', vs = v :: vs' ∧ IsV h d v ∧ IsVL h l vs'
end
theorem IsTup.up {h h' : Heap} {a : Addr} {items : Array Value} (x : IsTup h a items) (k : h.UpToSlots h') : IsTup h' a items := by
  obtain ⟨o, ho, hc, n, hd⟩ := x
  obtain ⟨sl, e⟩ := k a o ho fun vs z => by rw [hd] at z; cases z
  exact ⟨_, e, hc, n, hd⟩
mutual
theorem IsV.up {h h' : Heap} (k : h.UpToSlots h') : ∀ {d : Dat} {v : Value}, IsV h d v → IsV h' d v
  | .int _, _, x => x
  | .str _, _, x => x
  | .byt _, _, x => x
  | .bad, _, x => x
  | .tup l, v, x => by
    rw [IsV] at x ⊢
    obtain ⟨a, items, e, ht, hl⟩ := x
    exact ⟨a, items, e, Mine.IsTup.up ht k, IsVL.up k hl⟩
theorem IsVL.up {h h' : Heap} (k : h.UpToSlots h') : ∀ {l : List Dat} {vs : List Value}, IsVL h l vs → IsVL h' l vs
  | [], _, x => x
  | d :: l, vs, x => by
    rw [IsVL] at x ⊢
    obtain ⟨v, vs', e, hv, hl⟩ := x
    exact ⟨v, vs', e, IsV.up k hv, IsVL.up k hl⟩
end
theorem IsV.stays {h h' : Heap} (k : h.StaysIn h') {d : Dat} {v : Value} (x : IsV h d v) : IsV h' d v := x.up (.of_keeps k)
theorem IsVL.stays {h h' : Heap} (k : h.StaysIn h') {l : List Dat} {vs : List Value} (x : IsVL h l vs) : IsVL h' l vs := x.up (.of_keeps k)
theorem IsVL.snoc {h : Heap} : ∀ {l : List Dat} {vs : List Value} {d : Dat} {v : Value}, IsVL h l vs → IsV h d v → IsVL h (l ++ [d]) (vs ++ [v])
  | [], _, d, v, x, y => by rw [IsVL] at x; subst x; rw [List.nil_append, List.nil_append, IsVL]; exact ⟨v, [], rfl, y, by rw [IsVL]⟩
  | d' :: l, vs, d, v, x, y => by
    rw [IsVL] at x
    obtain ⟨v', vs', rfl, hv, hl⟩ := x
    rw [List.cons_append, List.cons_append, IsVL]
    exact ⟨v', _, rfl, hv, IsVL.snoc hl y⟩
theorem IsVL.len {h : Heap} : ∀ {l : List Dat} {vs : List Value}, IsVL h l vs → vs.length = l.length
  | [], _, x => by rw [IsVL] at x; subst x; rfl
  | _ :: l, vs, x => by
    rw [IsVL] at x
    obtain ⟨v', vs', rfl, _, hl⟩ := x
    simp [hl.len]
/-- what stays but for one object that holds no datum -/
theorem IsTup.ebut {h h' : Heap} {a b : Addr} {items : Array Value} (x : IsTup h a items) (n : a ≠ b) (k : Heap.ExtBut b h h') : IsTup h' a items := x.extBut k n
mutual
theorem IsV.ebut {h h' : Heap} {b : Addr} (k : Heap.ExtBut b h h') (nb : ∀ items, ¬ IsTup h b items) : ∀ {d : Dat} {v : Value}, IsV h d v → IsV h' d v
  | .int _, _, x => x
  | .str _, _, x => x
  | .byt _, _, x => x
  | .bad, _, x => x
  | .tup l, v, x => by
    rw [IsV] at x ⊢
    obtain ⟨a, items, e, ht, hl⟩ := x
    exact ⟨a, items, e, ht.extBut k (fun z => nb _ (z ▸ ht)), IsVL.ebut k nb hl⟩
theorem IsVL.ebut {h h' : Heap} {b : Addr} (k : Heap.ExtBut b h h') (nb : ∀ items, ¬ IsTup h b items) : ∀ {l : List Dat} {vs : List Value}, IsVL h l vs → IsVL h' l vs
  | [], _, x => x
  | d :: l, vs, x => by
    rw [IsVL] at x ⊢
    obtain ⟨v, vs', e, hv, hl⟩ := x
    exact ⟨v, vs', e, IsV.ebut k nb hv, IsVL.ebut k nb hl⟩
end
theorem noTup_cls {h : Heap} {b : Addr} {o : Obj} (e : h.get? b = some o) (hc : o.cls ≠ .type "tuple") : ∀ items, ¬ IsTup h b items := fun _ ⟨o', e', hc', _⟩ => by rw [e] at e'; cases e'; exact hc hc'
theorem noTup_none {h : Heap} {b : Addr} (e : h.get? b = none) : ∀ items, ¬ IsTup h b items := fun _ ⟨o', e', _⟩ => by rw [e] at e'; cases e'
theorem noTup_ns {h : Heap} {b : Addr} {m : Str → Option Value} (e : h.Ns b m) : ∀ items, ¬ IsTup h b items := fun _ ⟨o', e', _, n, hd⟩ => by
  obtain ⟨o, es, ep, ho, hd', _⟩ := e
  rw [ho] at e'; cases e'
  rw [hd'] at hd; cases hd
theorem noTup_list {h : Heap} {b : Addr} {items : Array Value} (e : h.PlainList b items) : ∀ items, ¬ IsTup h b items := let ⟨_, e⟩ := e; noTup_cls e (by simp)
def RV (w : World) (prog : Program) (n : Nat) : Prop :=
  ∀ {A : Around} {E : Value → Shared → Prop} {s : Shared} {Q : Value → Shared → Prop} {l : List Env} {d : List UInt8} {p depth : Nat} {t tp td : Tok},
    G0 w s.heap → Room A (2 * n + 9) → Fok A l s.heap → d.length ≤ 1000000 → p ≤ d.length → depth + n = 21 →
    (∀ dv r, meant n (d.drop p) = some (dv, r) → ∀ h' q v t2 tk', s.heap.StaysIn h' → IsTup h' q #[v, .int ((d.length - r.length : Nat) : Int) t2] → IsV h' dv v → Q (.ref q) { s with heap := h', toks := tk' }) →
    (meant n (d.drop p) = none → ∀ e h' tk', Rsd l s.heap e h' → E (.ref e) { s with heap := h', toks := tk' }) →
    wpAny (model prog w) A (call (.ref 115) [.bytes d.toArray t, .int (p : Nat) tp, .int (depth : Nat) td]) Q E s
noncomputable def many? (n many : Nat) (o : List UInt8) : Option (List Dat × List UInt8) := match n with
  | 0 => none
  | n + 1 => rep (meant n) many o

inductive DatI (w : World) (hE hR : Heap) (L a : Addr) (d : List UInt8) (t td : Tok) (p n depth i : Nat) (h : Heap) : Prop where
  | mk (dl : List Dat) (r : List UInt8) (items : Array Value) (lo : List (Str × Value)) (tsp : Tok) (e1 : rep (meant n) i (d.drop p) = some (dl, r)) (e2 : r.length ≤ d.length - p) (F : FS w hE L lo hR h)
      (li : h.PlainList a items) (e3 : items.size = i) (e4 : IsVL h dl items.toList) (e5 : lo.lookup (Str.ofString "data") = some (.bytes d.toArray t)) (e6 : lo.lookup (Str.ofString "found") = some (.ref a))
      (e7 : lo.lookup (Str.ofString "spot") = some (.int ((d.length - r.length : Nat) : Int) tsp)) (e8 : lo.lookup (Str.ofString "depth") = some (.int (depth : Nat) td)) : DatI w hE hR L a d t td p n depth i h
theorem spec_read_some {w : World} {prog : Program} {n : Nat} (hv : ∀ n', n = n' + 1 → RV w prog n') {A : Around} {E : Value → Shared → Prop} {s : Shared} {Q : Value → Shared → Prop} {l : List Env} {d : List UInt8} {p many depth : Nat} {t tp tm td : Tok}
    (G : G0 w s.heap) (R : Room A (2 * n + 8)) (O : Fok A l s.heap) (hz : d.length ≤ 1000000) (hp : p ≤ d.length) (hdp : depth + n = 21)
    (hQ : ∀ dl r, many? n many (d.drop p) = some (dl, r) → ∀ h' q v t2 tk', s.heap.StaysIn h' → IsTup h' q #[v, .int ((d.length - r.length : Nat) : Int) t2] → IsV h' (.tup dl) v → Q (.ref q) { s with heap := h', toks := tk' })
    (hE : many? n many (d.drop p) = none → ∀ e h' tk', Rsd l s.heap e h' → E (.ref e) { s with heap := h', toks := tk' }) :
    wpAny (model prog w) A (call (.ref 108) [.bytes d.toArray t, .int (p : Nat) tp, .int (many : Nat) tm, .int (depth : Nat) td]) Q E s := by
  refine callY (many? n many (d.drop p) = none) [(Str.ofString "data", .bytes d.toArray t), (Str.ofString "at", .int (p : Nat) tp), (Str.ofString "many", .int (many : Nat) tm), (Str.ofString "depth", .int (depth : Nat) td)] G R O (by exact rfl) (by exact rfl) (by kernel_rfl) (by exact rfl) (by exact rfl) (by decide) hE fun L h₁ tk A' l' E' F k R' fo c1 c2 po => ?_
  have hsz : d.toArray.size ≤ 1099511627776 := by simp; omega
  walk_at "W"
  refine n_MOST_DEPTH F.gh ?_
  walk_at "W"
  refine wIteT (fun hb => ?_) (fun hb => ?_)
  · have hn : n = 0 := by have := of_decide_eq_true hb; omega
    walk_at "W"
    refine wRaise F.gh (R'.mono (m := 4) (by omega)) (by rfl) ?_
    walk_at "W"
    exact ⟨F.gh, ⟨_, .inr ⟨_, rfl⟩⟩, fun h' e tk X => c2 (by subst hn; rfl) _ _ e h' tk F.fr.keep F.fr.ns X⟩
  obtain ⟨n, rfl⟩ : ∃ m, n = m + 1 := ⟨n - 1, by have := of_decide_eq_false hb; omega⟩
  have hv : RV w prog n := @hv n rfl
  walk_at "W"
  refine wpAny_List ?_
  walk_at "W"
  refine ⟨by decide, ?_⟩
  have la : (h₁.push { cls := .type "list", data := .seq #[] }).PlainList h₁.objs.size #[] := ⟨0, Heap.get?_push_size _ rfl⟩
  have na : h₁.get? h₁.objs.size = none := Heap.get?_none_of_le (Nat.le_refl _)
  have F₁ := F.stays (h' := h₁.push { cls := .type "list", data := .seq #[] }) fun b o e => Heap.get?_push_of_some _ e
  generalize h₁.objs.size = a at la na
  generalize h₁.push { cls := .type "list", data := .seq #[] } = h₁' at la F₁
  have nE : s.heap.get? a = none := get_none_of_stays k na
  have aL := F₁.aL na
  walk_at "st"
  intro h₂ k₂ F₂ b₂
  have l₂ := IsList.but la aL b₂
  walk_at "W"
  walk_at "st"
  intro h₃ k₃ F₃ b₃
  have l₃ := IsList.but l₂ aL b₃
  clear F F₁ F₂ l₂ la b₂ b₃
  refine wpAny_execs_cons (wForW s R'.hd po (by intro _; rfl) (by intro _ _; rfl) ?_)
  refine callM (f := .type "range") (by rfl) (by rfl) (nb_range F₃.gh ⟨rfl, argsC (by rfl) ?_⟩)
  refine callM (f := .builtin "min") (by rfl) (by rfl) (nb_min F₃.gh ⟨rfl, ?_⟩)
  walk_at "W"
  walk_at "len"
  refine len_bytes hsz ?_
  walk_at "W"
  refine min_two_ints R'.hd fun h₄ k₄ st₄ => ?_
  have F₄ := F₃.stays st₄
  have l₄ := IsList.stays l₃ st₄
  have en : ∀ (x y : Tok), (if (d.toArray.size : Int) - (p : Nat) + 1 < (many : Nat) then Value.int ((d.toArray.size : Int) - (p : Nat) + 1) y else Value.int (many : Nat) x) = .int ((min many (d.length - p + 1) : Nat) : Int) (if (d.toArray.size : Int) - (p : Nat) + 1 < (many : Nat) then y else x) := fun x y => by
    have : d.toArray.size = d.length := by simp
    rw [this]
    split
    · rename_i hlt
      rw [show min many (d.length - p + 1) = d.length - p + 1 by omega]
      congr 1; omega
    · rename_i hlt
      rw [show min many (d.length - p + 1) = many by omega]
  rw [en]
  walk_at "W"
  refine iter_range_nat (by omega) fun h₅ k₅ it nit st₅ hit => ?_
  have F₅ := F₄.stays st₅
  have l₅ := IsList.stays l₄ st₅
  have itE : s.heap.get? it = none := get_none_of_stays F₄.fr.keep nit
  have itL : it ≠ L := fun e => by obtain ⟨o, es, ep, ho, _⟩ := F₄.fr.ns; rw [← e, nit] at ho; cases ho
  have ita : a ≠ it := fun e => by obtain ⟨o, ho⟩ := l₄; rw [e, nit] at ho; cases ho
  have itR : h₁.get? it = none := by
    cases q : h₁.get? it with
    | none => rfl
    | some o => exact absurd (F₄.ext _ _ itL q) (by rw [nit]; simp)
  refine ⟨min many (d.length - p + 1), _, it, _, _, fun i h => DatI w s.heap h₁ L a d t td p n depth i h,
    walker_range prog w _ it, rfl, rfl, hit, ⟨[], d.drop p, #[], _, tp, rfl, by simp, F₅, l₅, rfl, by rw [IsVL], rfl, rfl, ?_, rfl⟩, ?_, ?_, ?_⟩
  · rw [List.length_drop, show d.length - (d.length - p) = p by omega]; rfl
  · rintro i h h' _ hit ⟨dl, r, items, lo, tsp, e1, e2, F, li, e3, e4, e5, e6, e7, e8⟩ kk
    exact ⟨dl, r, items, lo, tsp, e1, e2, F.ebut itE itR kk, IsList.ebut li ita kk, e3, IsVL.ebut (kk.elim (·.extBut) id) (noTup_cls hit (by simp)) e4, e5, e6, e7, e8⟩
  · rintro i v h tk hin ⟨tv, rfl⟩ hit' ⟨dl, r, items, lo, tsp, e1, e2, F, li, e3, e4, e5, e6, e7, e8⟩
    clear F₃ F₄ F₅ l₃ l₄ l₅
    have nL := noTup_ns F.fr.ns
    walk_at "st"
    intro h₆ k₆ F₆ b₆
    have li₆ := IsList.but li aL b₆
    have e4₆ := IsVL.ebut b₆.extBut nL e4
    have kp₆ : Keep [it] h h₆ := Keep.but b₆ (by simpa using itL.symm)
    refine wpAny_execs_cons (Assign_Tuple ?_ (by rfl) (by rfl))
    refine callN (f := 115) (by exact rfl) (by exact rfl) (by rfl) (n_read_value F₆.gh ⟨rfl, ?_⟩)
    walk_at "X"
    refine ⟨F₆.gh, ?_⟩
    have hsp : d.drop (d.length - r.length) = r := by
      have hx : ∃ x, d.drop p = x ++ r := ⟨_, (spellL_rep (fun _ _ _ => spell_meant _ _ _) _ _ _ _ e1).1⟩
      obtain ⟨x, hx⟩ := hx
      exact drop_rest hx hp
    have edp : ((depth : Nat) : Int) + 1 = ((depth + 1 : Nat) : Int) := by push_cast; rfl
    rw [edp]
    refine hv F₆.gh (R'.mono (by omega)) (fo _ _ F₆.fr.keep F₆.fr.ns) hz (by omega) (by omega) (fun dv r' hm h₇ q v t2 k₇ st₇ tup hdv => ?_) fun hno e h' tk' X => ?_
    · rw [hsp] at hm
      have F₇ := F₆.stays st₇
      have li₇ := IsList.stays li₆ st₇
      have e4₇ := IsVL.stays st₇ e4₆
      have kp₇ : Keep [it] h h₇ := kp₆.trans (Keep.stays st₇)
      refine unpackS R'.hd tup (by rfl) (by rfl) fun h₈ st₈ => ?_
      have F₈ := F₇.stays st₈
      have li₈ := IsList.stays li₇ st₈
      have e4₈ := IsVL.stays st₈ e4₇
      have hdv₈ := hdv.stays st₈
      have kp₈ : Keep [it] h h₈ := kp₇.trans (Keep.stays st₈)
      clear F F₆ F₇ li li₆ li₇ e4 e4₆ e4₇
      have nL₈ := noTup_ns F₈.fr.ns
      refine assignInOrder_cons (wpAny_assign_Name ?_)
      walk_at "st"
      intro h₉ k₉ F₉ b₉
      have nL₉ := noTup_ns F₉.fr.ns
      refine assignInOrder_cons (wpAny_assign_Name ?_)
      walk_at "st"
      intro h₁₀ k₁₀ F₁₀ b₁₀
      have li₁₀ := IsList.but (IsList.but li₈ aL b₉) aL b₁₀
      have e4₁₀ := IsVL.ebut b₁₀.extBut nL₉ (IsVL.ebut b₉.extBut nL₈ e4₈)
      have hdv₁₀ := IsV.ebut b₁₀.extBut nL₉ (IsV.ebut b₉.extBut nL₈ hdv₈)
      have kp₁₀ : Keep [it] h h₁₀ := (kp₈.trans (Keep.but b₉ (by simpa using itL.symm))).trans (Keep.but b₁₀ (by simpa using itL.symm))
      clear F₈ F₉ li₈
      refine assignInOrder_nil ?_
      walk_at "X"
      refine wExpr rfl rfl (methC (by exact rfl) ?_)
      walk_at "X"
      refine list_get_append li₁₀ (callWith_builtin rfl (evalArgs_ok rfl ?_))
      walk_at "X"
      refine wpAny_list_append_plain li₁₀ (fun h₁₁ li₁₁ b₁₁ => ?_) (by show _ ≤ 16777216; omega)
      have F₁₁ := F₁₀.but nE na b₁₁
      have kp₁₁ : Keep [it] h h₁₁ := kp₁₀.trans (Keep.but b₁₁ (by simpa using ita))
      walk_at "X"
      have hs := meant_lt hm
      refine ⟨h₁₁, _, rfl, ⟨dl ++ [dv], r', _, _, t2, rep_snoc e1 hm, by omega, F₁₁, li₁₁, by simp [e3], ?_, ?_, ?_, ?_, ?_⟩, kp₁₁⟩
      · rw [Array.toList_push]
        exact (IsVL.ebut b₁₁.extBut (noTup_list li₁₀) e4₁₀).snoc (IsV.ebut b₁₁.extBut (noTup_list li₁₀) hdv₁₀)
      · walk_at "hv"
      · walk_at "hv"
      · walk_at "hv"
      · walk_at "hv"
    · rw [hsp] at hno
      exact c1 (rep_prefix_none e1 (by omega) hno) _ _ _ _ _ F₆.fr.keep F₆.fr.ns X
  · rintro h tk ⟨dl, r, items, lo, tsp, e1, e2, F, li, e3, e4, e5, e6, e7, e8⟩
    have hmany : min many (d.length - p + 1) = many := by
      have := (rep_le (fun _ _ _ => meant_lt) _ _ _ _ e1).1
      rw [List.length_drop] at this
      omega
    rw [hmany] at e1
    walk_at "X"
    refine wpAny_Tuple ?_
    refine argsC (by exact rfl) (callM (f := .type "tuple") (by rfl) (by rfl) (nb_tuple F.gh ⟨rfl, ?_⟩))
    walk_at "X"
    refine call_tuple_list li.isList (fun h₆ st₆ => ?_) (by show _ ≤ 16777216; omega)
    have F₆ := (F.stays st₆).stays (h' := h₆.push { cls := .type "tuple", data := .seq items }) fun b o e => Heap.get?_push_of_some _ e
    have st₇ : h₆.StaysIn (h₆.push { cls := .type "tuple", data := .seq items }) := fun b o e => Heap.get?_push_of_some _ e
    have tup : IsTup (h₆.push { cls := .type "tuple", data := .seq items }) h₆.objs.size items := ⟨_, Heap.get?_push_size _ rfl, rfl, _, rfl⟩
    have e4₆ := IsVL.stays st₇ (IsVL.stays st₆ e4)
    walk_at "X"
    refine ⟨by show 2 ≤ 16777216; omega, ?_⟩
    refine hQ dl r e1 _ _ _ _ _ (F₆.stays fun b o e => Heap.get?_push_of_some _ e).fr.keep ⟨_, Heap.get?_push_size _ rfl, rfl, _, rfl⟩ ?_
    rw [IsV]
    exact ⟨_, items, rfl, IsTup.keeps tup fun b o e => Heap.get?_push_of_some _ e, IsVL.stays (fun b o e => Heap.get?_push_of_some _ e) e4₆⟩
section
variable {prog : Program} {w : World} {A : Around} {E : Value → Shared → Prop} {s : Shared}
theorem take_min {d : List UInt8} {a : Nat} : d.take (min a d.length) = d.take a := by
  rcases Nat.le_total a d.length with h | h
  · rw [Nat.min_eq_left h]
  · rw [Nat.min_eq_right h, List.take_of_length_le (Nat.le_refl _), List.take_of_length_le h]
theorem drop_min {d : List UInt8} {a : Nat} : d.drop (min a d.length) = d.drop a := by
  rcases Nat.le_total a d.length with h | h
  · rw [Nat.min_eq_left h]
  · rw [Nat.min_eq_right h, List.drop_of_length_le (Nat.le_refl _), List.drop_of_length_le h]
theorem pick_to (d : List UInt8) (b : Nat) : KBy.picked d.toArray none (some (b : Nat)) = (d.take b).toArray := by
  rw [KBc.picked_eq]
  show ((d.drop 0).take (clipAt d.toArray.size (b : Nat) - 0)).toArray = _
  rw [clipAt_nat, List.drop_zero, Nat.sub_zero, show d.toArray.size = d.length by simp, take_min]
theorem pick_from (d : List UInt8) (a : Nat) : KBy.picked d.toArray (some (a : Nat)) none = (d.drop a).toArray := by
  rw [KBc.picked_eq]
  show ((d.drop (clipAt d.toArray.size (a : Nat))).take (d.toArray.size - clipAt d.toArray.size (a : Nat))).toArray = _
  rw [clipAt_nat, show d.toArray.size = d.length by simp, drop_min, List.take_of_length_le (by rw [List.length_drop]; omega)]
theorem pick_both (d : List UInt8) (a b : Nat) (ha : a ≤ d.length) (hb : b ≤ d.length) : KBy.picked d.toArray (some (a : Nat)) (some (b : Nat)) = ((d.drop a).take (b - a)).toArray := by
  rw [KBc.picked_eq]
  show ((d.drop (clipAt d.toArray.size (a : Nat))).take (clipAt d.toArray.size (b : Nat) - clipAt d.toArray.size (a : Nat))).toArray = _
  rw [clipAt_nat, clipAt_nat, show d.toArray.size = d.length by simp, Nat.min_eq_left ha, Nat.min_eq_left hb]
theorem slice_bytes {d : List UInt8} {t : Tok} {l u : Value} {lo hi : Option Int} {value slice : Expr} {Q : Value → Shared → Prop} (hl : IsPart l lo) (hu : IsPart u hi) (hz : d.length ≤ 1000000)
    (h : ∀ h' t' k, s.heap.StaysIn h' → Q (.bytes (KBy.picked d.toArray lo hi) t') { s with heap := h', toks := k })
    (hs : subscripted slice false (.bytes d.toArray t) (.ref s.heap.objs.size) = operate [.ref s.heap.objs.size, .bytes d.toArray t] (getItem (.bytes d.toArray t) (.ref s.heap.objs.size)))
    (ht : ∀ r, letTemporaryGo value (.bytes d.toArray t) r = pure ()) :
    wpAny (model prog w) A (subscriptTail value slice (.bytes d.toArray t) (.ref s.heap.objs.size)) Q E { s with heap := s.heap.push { cls := .type "slice", data := .fields #[l, u, .none] } } :=
  tail_of_ItemOn ⟨"bytes", _, FB.slot_bytes_getitem.lookup, PySem.W.typeIs_bytes _ _ _, getItem_meets (PySem.W.typeIs_bytes _ _ _) (by decide) FB.slot_bytes_getitem FB.entry_bytes_getitem (FB.args_bytes_getitem_2 _ _) (KBc.meets_slice2 d.toArray t _ hl hu)
    ⟨Heap.IsSliceOf.new _ _ _ _, Nat.le_trans (KBc.size_picked_le d.toArray lo hi) (by show d.toArray.size ≤ 16777216; simp; omega), fun t' k => h _ _ _ fun b o e => Heap.get?_push_of_some _ e⟩⟩ hs ht

theorem by_bytes : typeLookup (.type "bytes") "__bytes__" = pure (some (.builtin "bytes.__bytes__")) := by rw [typeLookup_type, builtinLookup_eq_fast]; kernel_rfl
theorem by_code {b : Array UInt8} {t : Tok} {Q : Value → Shared → Prop} (hQ : Q (.bytes b t) s) :
    codeAny (model prog w) A (.call (.builtin "bytes.__new__") ⟨[.type "bytes", .bytes b t], []⟩) (wants Q E) s := by
  have hT : s.TypeIs (.bytes b t) "bytes" := PySem.W.typeIs_bytes _ _ _
  refine codeAny_of_tree ?_
  show wpAny _ A.in1 (do checkBuiltinCall "bytes.__new__" ⟨[.type "bytes", .bytes b t], []⟩; again (.builtin "bytes.__new__" ⟨[.type "bytes", .bytes b t], []⟩)) _ _ s
  refine wpAny_bind (wpAny_of_eq (F.bm_newCall _) (wpAny_pure ⟨plainId_quiet F.bm_plain _, codeAny_builtin F.bm_entry ?_⟩))
  rw [Around.under_plainId F.bm_plain _]
  unfold Builtin.«bytes.__new__»
  refine wpAny_bind (wpAny_of_eq (a := true) rfl ?_)
  refine bm_if_false rfl ?_
  refine wpAny_bind (wpAny_of_eq F.bm_sub ?_)
  refine bm_if_false rfl ?_
  refine wpAny_bind (wpAny_of_eq (F.bm_bind _) ?_)
  refine wpAny_bind (wpAny_of_eq (a := ()) rfl ?_)
  refine wpAny_bind (wpAny_of_eq (a := ()) rfl ?_)
  refine bm_if_false rfl ?_
  refine wpAny_bind (wpAny_specialOf hT by_bytes ?_)
  show wpAny _ _ (rule "bytes.__new__.of-bytes" >>= _) _ _ _
  refine wpAny_bind (wpAny_rule ?_)
  refine wpAny_bind (wpAny_of_eq (a := .type "bytes") rfl ?_)
  refine bm_if_true (by decide) ?_
  show wpAny _ _ (if (Value.type "bytes" == Value.type "bytes") = true then _ else _) _ _ _
  refine bm_if_true (by decide) ?_
  first
    | exact wpAny_pure hQ
    | exact wpAny_bind (wpAny_pure (wpAny_pure hQ))
theorem bytes_of_bytes {b : Array UInt8} {t : Tok} {Q : Value → Shared → Prop} (hQ : Q (.bytes b t) s) : wpAny (model prog w) A (call (.type "bytes") [.bytes b t]) Q E s := by
  refine callType_codes (Q₁ := fun obj s₁ => s₁.TypeIs obj "bytes" ∧ Q obj s₁) F.bm_called (F.bm_typeCall _) F.entry_object_init
    (by_code ⟨PySem.W.typeIs_bytes _ _ _, hQ⟩) fun obj s₁ h₁ => ?_
  exact ⟨h₁.1, F.args_object_init_2 obj _, object_init_meets F.bm_called.init.lookup F.bm_called.made (by decide) prog w A.in1 _ s₁ ⟨h₁.1, rfl, h₁.2⟩⟩
end
theorem meant_str {n many : Nat} {o1 rest : List UInt8} (h : num o1 = some (many, rest)) : meant n (116 :: o1) = match rep sign many rest with | none => none | some (s, r) => some (.str s, r) := by
  unfold meant
  rw [h]
  dsimp only
  rw [if_neg (by decide), if_neg (by decide), if_neg (by decide), if_pos rfl]
  try rfl
theorem meant_row {n many : Nat} {o1 rest : List UInt8} (h : num o1 = some (many, rest)) : meant n (114 :: o1) = match many? n many rest with | none => none | some (s, r) => some (.tup s, r) := by
  unfold meant
  rw [h]
  dsimp only
  rw [if_neg (by decide), if_neg (by decide), if_neg (by decide), if_neg (by decide)]
  cases n with
  | zero => rfl
  | succ n => rfl

theorem spec_read_value {w : World} {prog : Program} {n : Nat} (hv : ∀ n', n = n' + 1 → RV w prog n') : RV w prog n := by
  intro A E s Q l d p depth t tp td G R O hz hp hdp hQ hE
  refine callY (meant n (d.drop p) = none) [(Str.ofString "data", .bytes d.toArray t), (Str.ofString "at", .int (p : Nat) tp), (Str.ofString "depth", .int (depth : Nat) td)] G R O (by exact rfl) (by exact rfl) (by kernel_rfl) (by exact rfl) (by exact rfl) (by decide) hE fun L h₁ tk A' l' E' F k R' fo c1 c2 po => ?_
  have hsz : d.toArray.size ≤ 1099511627776 := by simp; omega
  walk_at "W"
  walk_at "len"
  refine len_bytes hsz ?_
  walk_at "W"
  refine wIteT (fun hb => ?_) (fun hb => ?_)
  · have hn : p = d.length := by have := of_decide_eq_true hb; simp at this; omega
    have hno : meant n (d.drop p) = none := by rw [hn, List.drop_length]; unfold meant; cases n <;> rfl
    walk_at "W"
    refine wRaise F.gh (R'.mono (m := 4) (by omega)) (by rfl) ?_
    walk_at "W"
    exact ⟨F.gh, ⟨_, .inr ⟨_, rfl⟩⟩, fun h' e tk X => c2 hno _ _ e h' tk F.fr.keep F.fr.ns X⟩
  have hlt : p < d.length := by have := of_decide_eq_false hb; simp at this; omega
  have hcons : d.drop p = d.getD p 0 :: d.drop (p + 1) := by rw [List.drop_eq_getElem_cons hlt]; simp [hlt]
  generalize hc : d.getD p 0 = c at hcons
  walk_at "W"
  walk_at "sub"
  refine KBy.item_N (by omega) (by omega) (by omega) ?_
  rw [Int.toNat_natCast, hc]
  walk_at "st"
  intro h₂ k₂ F₂ b₂
  clear F b₂
  walk_at "W"
  refine wpAny_Tuple ?_
  refine argsC (by exact rfl) (n_NUMBER F₂.gh (argsC (by exact rfl) (n_TEXT F₂.gh (argsC (by exact rfl) (n_OCTETS F₂.gh (argsC (by exact rfl) (n_ROW F₂.gh (argsN ⟨by show 4 ≤ 16777216; omega, ?_⟩))))))))
  refine SeqAt.notIn_tupleAt (items := #[.int 105 251, .int 116 253, .int 111 255, .int 114 257]) (fun y => match y with | .int b _ => b == (c.toNat : Int) | _ => false) ⟨_, Heap.get?_push_size _ rfl, rfl, _, rfl⟩ (fun y hy => ?_) ?_
  · rcases (by simpa using hy : y = _ ∨ y = _ ∨ y = _ ∨ y = _) with rfl | rfl | rfl | rfl <;> exact SeqAt.EqAt.int_int _ _ _ _
  have F₃ := F₂.stays (h' := h₂.push { cls := .type "tuple", data := .seq [Value.int 105 251, .int 116 253, .int 111 255, .int 114 257].toArray }) fun b o e => Heap.get?_push_of_some _ e
  generalize h₂.push { cls := .type "tuple", data := .seq [Value.int 105 251, .int 116 253, .int 111 255, .int 114 257].toArray } = h₃ at F₃
  clear F₂
  walk_at "W"
  have hin : ((!(#[Value.int 105 251, .int 116 253, .int 111 255, .int 114 257] : Array Value).any fun y => match y with | .int b _ => b == (c.toNat : Int) | _ => false) = true) ↔ (c ≠ 105 ∧ c ≠ 116 ∧ c ≠ 111 ∧ c ≠ 114) := by
    have hx : ∀ m : Nat, m < 256 → ((((m : Nat) : Int) == (c.toNat : Int)) = true ↔ c = m.toUInt8) := fun m hm => by
      rw [beq_iff_eq]
      constructor
      · intro e
        have : c.toNat = m := by omega
        rw [← this]; simp
      · intro e
        rw [e]; simp [UInt8.toNat_ofNat']; omega
    have h1 := hx 105 (by omega)
    have h2 := hx 116 (by omega)
    have h3 := hx 111 (by omega)
    have h4 := hx 114 (by omega)
    simp only [Bool.not_eq_true']
    simp at h1 h2 h3 h4
    simp
    rw [h1, h2, h3, h4]
  refine wIteT (fun hb => ?_) (fun hb => ?_)
  · have hno : meant n (d.drop p) = none := by
      rw [hcons]
      have := hin.mp hb
      unfold meant
      cases n <;> simp [this]
    walk_at "W"
    refine wRaise F₃.gh (R'.mono (m := 4) (by omega)) (by rfl) ?_
    walk_at "W"
    exact ⟨F₃.gh, ⟨_, .inr ⟨_, rfl⟩⟩, fun h' e tk X => c2 hno _ _ e h' tk F₃.fr.keep F₃.fr.ns X⟩
  have hin : ¬ (c ≠ 105 ∧ c ≠ 116 ∧ c ≠ 111 ∧ c ≠ 114) := fun z => by rw [hin.mpr z] at hb; cases hb
  walk_at "W"
  refine Assign_Tuple ?_ (by rfl) (by rfl)
  refine callN (f := 68) (by exact rfl) (by exact rfl) (by rfl) (n_read_count F₃.gh ⟨rfl, ?_⟩)
  walk_at "W"
  refine ⟨F₃.gh, ?_⟩
  have ep : ((p : Nat) : Int) + 1 = ((p + 1 : Nat) : Int) := by push_cast; rfl
  rw [ep]
  refine spec_read_count F₃.gh (R'.mono (by omega)) (fo _ _ F₃.fr.keep F₃.fr.ns) hz (by omega) (fun v r hnum h₄ q t1 t2 k₄ st₄ tup => ?_) fun hno e h' tk' X => ?_
  case refine_2 =>
    refine c1 ?_ _ _ _ _ _ F₃.fr.keep F₃.fr.ns X
    rw [hcons]
    unfold meant
    cases n <;> simp [hno]
  have F₄ := F₃.stays st₄
  refine unpackS R'.hd tup (by rfl) (by rfl) fun h₅ st₅ => ?_
  have F₅ := F₄.stays st₅
  clear F₃ F₄
  refine assignInOrder_cons (wpAny_assign_Name ?_)
  walk_at "st"
  intro h₆ k₆ F₆ b₆
  refine assignInOrder_cons (wpAny_assign_Name ?_)
  walk_at "st"
  intro h₇ k₇ F₇ b₇
  clear F₅ F₆ b₆ b₇ tup st₄ st₅ h₄ h₅ h₆
  refine assignInOrder_nil ?_
  have hrl := num_lt hnum
  rw [List.length_drop] at hrl
  have hsp : d.drop (d.length - r.length) = r := drop_rest (figs_num hnum) (by omega)
  have eqc : ∀ m : Nat, m < 256 → ((((c.toNat : Nat) : Int) == (m : Int)) = true ↔ c = m.toUInt8) := fun m hm => by
    rw [beq_iff_eq]
    constructor
    · intro e
      have : c.toNat = m := by omega
      rw [← this]; simp
    · intro e
      rw [e]; simp [UInt8.toNat_ofNat']; omega
  walk_at "W"
  refine n_NUMBER F₇.gh ?_
  walk_at "W"
  refine wIteT (fun hb => ?_) (fun hb => ?_)
  · have hc' : c = 105 := (eqc 105 (by omega)).mp (by simpa using hb)
    have hm : meant n (d.drop p) = some (.int (plain v), r) := by
      rw [hcons]; unfold meant; cases n <;> simp [hnum, hc']
    walk_at "W"
    refine wpAny_Tuple ?_
    refine argsC (by exact rfl) (callN (f := 82) (by exact rfl) (by exact rfl) (by rfl) (n_plain_number F₇.gh ⟨rfl, ?_⟩))
    walk_at "W"
    refine ⟨F₇.gh, spec_plain_number F₇.gh (R'.mono (by omega)) fun h₈ t₈ k₈ st₈ => ?_⟩
    have F₈ := F₇.stays st₈
    clear F₇
    walk_at "W"
    refine ⟨by show 2 ≤ 16777216; omega, ?_⟩
    refine hQ _ _ hm _ _ _ _ _ (F₈.stays fun b o e => Heap.get?_push_of_some _ e).fr.keep ⟨_, Heap.get?_push_size _ rfl, rfl, _, rfl⟩ ?_
    rw [IsV]
    exact ⟨_, rfl⟩
  have n1 : c ≠ 105 := fun z => by rw [(show (((c.toNat : Nat) : Int) == (105 : Int)) = true from (eqc 105 (by omega)).mpr z)] at hb; cases hb
  walk_at "W"
  refine n_TEXT F₇.gh ?_
  walk_at "W"
  refine wIteT (fun hb => ?_) (fun hb => ?_)
  · have hc' : c = 116 := (eqc 116 (by omega)).mp (by simpa using hb)
    have hm : meant n (d.drop p) = match rep sign v r with | none => none | some (s, r) => some (.str s, r) := by
      rw [hcons, hc', meant_str hnum]
    walk_at "W"
    refine callN (f := 101) (by exact rfl) (by exact rfl) (by rfl) (n_read_text F₇.gh ⟨rfl, ?_⟩)
    walk_at "W"
    refine ⟨F₇.gh, spec_read_text F₇.gh (R'.mono (by omega)) (fo _ _ F₇.fr.keep F₇.fr.ns) hz (by omega) (fun sg r' hr h₈ q t1 t2 k₈ st₈ tup => ?_) fun hno e h' tk' X => ?_⟩
    · rw [hsp] at hr
      rw [hr] at hm
      exact hQ _ _ hm _ _ _ _ _ (F₇.stays st₈).fr.keep tup (by rw [IsV]; exact ⟨_, rfl⟩)
    · rw [hsp] at hno
      exact c1 (by rw [hm, hno]) _ _ _ _ _ F₇.fr.keep F₇.fr.ns X
  have n2 : c ≠ 116 := fun z => by rw [(show (((c.toNat : Nat) : Int) == (116 : Int)) = true from (eqc 116 (by omega)).mpr z)] at hb; cases hb
  walk_at "W"
  refine n_ROW F₇.gh ?_
  walk_at "W"
  refine wIteT (fun hb => ?_) (fun hb => ?_)
  · have hc' : c = 114 := (eqc 114 (by omega)).mp (by simpa using hb)
    have hm : meant n (d.drop p) = match many? n v r with | none => none | some (s, r) => some (.tup s, r) := by
      rw [hcons, hc', meant_row hnum]
    walk_at "W"
    refine callN (f := 108) (by exact rfl) (by exact rfl) (by rfl) (n_read_some F₇.gh ⟨rfl, ?_⟩)
    walk_at "W"
    refine ⟨F₇.gh, spec_read_some hv F₇.gh (R'.mono (by omega)) (fo _ _ F₇.fr.keep F₇.fr.ns) hz (by omega) hdp (fun sg r' hr h₈ q v' t2 k₈ st₈ tup hv' => ?_) fun hno e h' tk' X => ?_⟩
    · rw [hsp] at hr
      rw [hr] at hm
      exact hQ _ _ hm _ _ _ _ _ (F₇.stays st₈).fr.keep tup hv'
    · rw [hsp] at hno
      exact c1 (by rw [hm, hno]) _ _ _ _ _ F₇.fr.keep F₇.fr.ns X
  have n3 : c ≠ 114 := fun z => by rw [(show (((c.toNat : Nat) : Int) == (114 : Int)) = true from (eqc 114 (by omega)).mpr z)] at hb; cases hb
  have hc' : c = 111 := Decidable.byContradiction fun z => hin ⟨n1, n2, z, n3⟩
  have hm : meant n (d.drop p) = if v ≤ r.length then some (.byt (r.take v), r.drop v) else none := by
    rw [hcons]; unfold meant; cases n <;> simp [hnum, hc']
  walk_at "W"
  walk_at "len"
  refine len_bytes hsz ?_
  walk_at "W"
  refine wIteT (fun hb => ?_) (fun hb => ?_)
  · have hlv : ¬ v ≤ r.length := by have := of_decide_eq_true hb; simp at this; omega
    walk_at "W"
    refine wRaise F₇.gh (R'.mono (m := 4) (by omega)) (by rfl) ?_
    walk_at "W"
    walk_at "len"
    refine len_bytes hsz ?_
    walk_at "W"
    exact ⟨F₇.gh, ⟨_, .inr ⟨_, rfl⟩⟩, fun h' e tk X => c2 (by rw [hm, if_neg hlv]) _ _ e h' tk F₇.fr.keep F₇.fr.ns X⟩
  have hlv : v ≤ r.length := by have := of_decide_eq_false hb; simp at this; omega
  rw [if_pos hlv] at hm
  walk_at "W"
  refine wpAny_Tuple ?_
  refine argsC (by exact rfl) (callM (f := .type "bytes") (by rfl) (by rfl) (nb_bytes F₇.gh ⟨rfl, argsC (by exact rfl) ?_⟩))
  walk_at "sub"
  refine wpAny_Slice ?_
  simp only [evalPart_some, evalPart_none]
  walk_at "W"
  refine wpAny_pure ?_
  have e1 : ((d.length - r.length : Nat) : Int) + (v : Nat) = ((d.length - r.length + v : Nat) : Int) := by push_cast; rfl
  rw [e1]
  refine slice_bytes (.int _ _) (.int _ _) hz (fun h₈ t₈ k₈ st₈ => ?_) (by rfl) (by intro _; rfl)
  rw [pick_both d _ _ (by omega) (by omega), hsp, show d.length - r.length + v - (d.length - r.length) = v by omega]
  walk_at "W"
  refine bytes_of_bytes ?_
  have F₈ := F₇.stays st₈
  clear F₇
  walk_at "W"
  refine ⟨by show 2 ≤ 16777216; omega, ?_⟩
  have := hQ _ _ hm
  rw [List.length_drop, show d.length - (r.length - v) = d.length - r.length + v by omega] at this
  refine this _ _ _ _ _ (F₈.stays fun b o e => Heap.get?_push_of_some _ e).fr.keep ⟨_, Heap.get?_push_size _ rfl, rfl, _, by rw [e1]⟩ ?_
  rw [IsV]
  exact ⟨_, rfl⟩
theorem spec_value (w : World) (prog : Program) : ∀ n, RV w prog n
  | 0 => spec_read_value fun n' e => absurd e (by omega)
  | n + 1 => spec_read_value fun n' e => by
    obtain rfl : n = n' := by omega
    exact spec_value w prog n
noncomputable def kInt : Dat → Bool | .int _ => true | _ => false
noncomputable def kStr : Dat → Bool | .str _ => true | _ => false
noncomputable def kByt : Dat → Bool | .byt _ => true | _ => false
noncomputable def kTup : Dat → Bool | .tup _ => true | _ => false

section
variable {prog : Program} {w : World} {A : Around} {E : Value → Shared → Prop} {s : Shared} {Q : Value → Shared → Prop}
theorem isb_false {b : Array UInt8} {t : Tok} {T : String} (hne : (Value.type "bytes" == Value.type T) = false) (hty : typeOf (.type T) = pure (.type "type")) (hsub : isSubtype (.type "bytes") (.type T) = pure false) :
    Meets (Builtin.«isinstance» ⟨[.bytes b t, .type T], []⟩) (fun _ R s => R (.ok (.ret (.bool false))) { s with toks := s.toks + 1 }) :=
  fun _ _ _ _ s hs => by
    obtain ⟨h, g, d, t, os⟩ := s
    exact isinstance_outer (isinstance_nested_false_bytes hne hty hsub hs)
theorem bytes_bool {b : Array UInt8} {t : Tok} (h : Q (.bool false) { s with toks := s.toks + 1 }) : wpAny (model prog w) A (call (.builtin "isinstance") [.bytes b t, .type "bool"]) Q E s :=
  call_isinstance (isb_false (by decide +kernel) F.isi_meta_bool F.sub_bytes_bool) h
theorem bytes_int {b : Array UInt8} {t : Tok} (h : Q (.bool false) { s with toks := s.toks + 1 }) : wpAny (model prog w) A (call (.builtin "isinstance") [.bytes b t, .type "int"]) Q E s :=
  call_isinstance (isb_false (by decide +kernel) F.isi_meta_int F.sub_bytes_int) h
theorem bytes_str {b : Array UInt8} {t : Tok} (h : Q (.bool false) { s with toks := s.toks + 1 }) : wpAny (model prog w) A (call (.builtin "isinstance") [.bytes b t, .type "str"]) Q E s :=
  call_isinstance (isb_false (by decide +kernel) F.isi_meta_str F.sub_bytes_str) h
theorem bytes_tuple {b : Array UInt8} {t : Tok} (h : Q (.bool false) { s with toks := s.toks + 1 }) : wpAny (model prog w) A (call (.builtin "isinstance") [.bytes b t, .type "tuple"]) Q E s :=
  call_isinstance (isb_false (by decide +kernel) F.isi_meta_tuple F.sub_bytes_tuple) h
theorem bytes_bytes {b : Array UInt8} {t : Tok} (h : Q (.bool true) s) : wpAny (model prog w) A (call (.builtin "isinstance") [.bytes b t, .type "bytes"]) Q E s :=
  call_isinstance (isinstance_true (Tx := "bytes") F.isi_meta_bytes F.bm_sub) ⟨PySem.W.typeIs_bytes _ _ _, h⟩

theorem isi_bool {d : Dat} {v : Value} (x : IsV s.heap d v) (hd : d ≠ .bad) (h : ∀ k, Q (.bool false) { s with toks := k }) : wpAny (model prog w) A (call (.builtin "isinstance") [v, .type "bool"]) Q E s := by
  cases d with
  | int i => rw [IsV] at x; obtain ⟨t, rfl⟩ := x; exact IsiPair.int_bool (h _)
  | str i => rw [IsV] at x; obtain ⟨t, rfl⟩ := x; exact IsiPair.str_bool (h _)
  | byt i => rw [IsV] at x; obtain ⟨t, rfl⟩ := x; exact bytes_bool (h _)
  | bad => exact absurd rfl hd
  | tup l => rw [IsV] at x; obtain ⟨a, items, rfl, ⟨o, ho, hc, _⟩, _⟩ := x; exact IsiPair.tuple_bool ho hc (h _)

theorem isi_int {d : Dat} {v : Value} (x : IsV s.heap d v) (hd : d ≠ .bad) (h : ∀ k, Q (.bool (kInt d)) { s with toks := k }) : wpAny (model prog w) A (call (.builtin "isinstance") [v, .type "int"]) Q E s := by
  cases d with
  | int i => rw [IsV] at x; obtain ⟨t, rfl⟩ := x; exact IsiPair.int_int (h _)
  | str i => rw [IsV] at x; obtain ⟨t, rfl⟩ := x; exact IsiPair.str_int (h _)
  | byt i => rw [IsV] at x; obtain ⟨t, rfl⟩ := x; exact bytes_int (h _)
  | bad => exact absurd rfl hd
  | tup l => rw [IsV] at x; obtain ⟨a, items, rfl, ⟨o, ho, hc, _⟩, _⟩ := x; exact IsiPair.tuple_int ho hc (h _)

theorem isi_str {d : Dat} {v : Value} (x : IsV s.heap d v) (hd : d ≠ .bad) (h : ∀ k, Q (.bool (kStr d)) { s with toks := k }) : wpAny (model prog w) A (call (.builtin "isinstance") [v, .type "str"]) Q E s := by
  cases d with
  | int i => rw [IsV] at x; obtain ⟨t, rfl⟩ := x; exact IsiPair.int_str (h _)
  | str i => rw [IsV] at x; obtain ⟨t, rfl⟩ := x; exact IsiPair.str_str (h _)
  | byt i => rw [IsV] at x; obtain ⟨t, rfl⟩ := x; exact bytes_str (h _)
  | bad => exact absurd rfl hd
  | tup l => rw [IsV] at x; obtain ⟨a, items, rfl, ⟨o, ho, hc, _⟩, _⟩ := x; exact IsiPair.tuple_str ho hc (h _)

theorem isi_bytes {d : Dat} {v : Value} (x : IsV s.heap d v) (hd : d ≠ .bad) (h : ∀ k, Q (.bool (kByt d)) { s with toks := k }) : wpAny (model prog w) A (call (.builtin "isinstance") [v, .type "bytes"]) Q E s := by
  cases d with
  | int i => rw [IsV] at x; obtain ⟨t, rfl⟩ := x; exact IsiPair.int_bytes (h _)
  | str i => rw [IsV] at x; obtain ⟨t, rfl⟩ := x; exact IsiPair.str_bytes (h _)
  | byt i => rw [IsV] at x; obtain ⟨t, rfl⟩ := x; exact bytes_bytes (h _)
  | bad => exact absurd rfl hd
  | tup l => rw [IsV] at x; obtain ⟨a, items, rfl, ⟨o, ho, hc, _⟩, _⟩ := x; exact IsiPair.tuple_bytes ho hc (h _)

theorem isi_tuple {d : Dat} {v : Value} (x : IsV s.heap d v) (hd : d ≠ .bad) (h : ∀ k, Q (.bool (kTup d)) { s with toks := k }) : wpAny (model prog w) A (call (.builtin "isinstance") [v, .type "tuple"]) Q E s := by
  cases d with
  | int i => rw [IsV] at x; obtain ⟨t, rfl⟩ := x; exact IsiPair.int_tuple (h _)
  | str i => rw [IsV] at x; obtain ⟨t, rfl⟩ := x; exact IsiPair.str_tuple (h _)
  | byt i => rw [IsV] at x; obtain ⟨t, rfl⟩ := x; exact bytes_tuple (h _)
  | bad => exact absurd rfl hd
  | tup l => rw [IsV] at x; obtain ⟨a, items, rfl, ⟨o, ho, hc, _⟩, _⟩ := x; exact IsiPair.tuple_tuple ho hc (h _)

end
noncomputable def isRow : Dat → Bool
  | .tup (.str _ :: _) => true
  | _ => false
theorem seq_nat {i n : Nat} (h : i < n) : seqIndex? (i : Int) n = some i := by
  have e : (if (i : Int) < 0 then (i : Int) + n else i) = i := if_neg (by omega)
  unfold seqIndex?
  dsimp only
  rw [e]
  simp [h]
theorem isi_strB {prog : Program} {w : World} {A : Around} {E : Value → Shared → Prop} {s : Shared} {Q : Value → Shared → Prop} {d : Dat} {v : Value} (x : IsV s.heap d v) (h : ∀ k, Q (.bool (kStr d)) { s with toks := k }) : wpAny (model prog w) A (call (.builtin "isinstance") [v, .type "str"]) Q E s := by
  by_cases hd : d = .bad
  · subst hd
    rw [IsV] at x
    rcases x with ⟨b, rfl⟩ | rfl
    · exact IsiPair.bool_str (h _)
    · exact IsiPair.NoneType_str (h _)
  · exact isi_str x hd h
theorem spec_is_row {w : World} {prog : Program} {A : Around} {E : Value → Shared → Prop} {s : Shared} {Q : Value → Shared → Prop} {d : Dat} {v : Value}
    (G : G0 w s.heap) (R : Room A 1) (x : IsV s.heap d v) (hd : d ≠ .bad) (hz : ∀ l, d = .tup l → l.length ≤ 1000000) (hQ : ∀ h' tk', s.heap.StaysIn h' → Q (.bool (isRow d)) { s with heap := h', toks := tk' }) :
    wpAny (model prog w) A (call (.ref 122) [v]) Q E s := by
  refine callR [(Str.ofString "value", v)] G R (by exact rfl) (by exact rfl) (by kernel_rfl) (by exact rfl) (by exact rfl) (by decide) fun L h₁ tk A' F k R' => ?_
  have x₁ := x.stays k
  walk_at "W"
  refine BoolOp_and ?_
  refine callM (f := .builtin "isinstance") (by rfl) (by rfl) (nb_isinstance F.gh ⟨rfl, ?_⟩)
  walk_at "W"
  refine nb_tuple F.gh ?_
  walk_at "W"
  refine isi_tuple x₁ hd fun k₂ => ?_
  walk_at "W"
  by_cases ht : ∃ l, d = .tup l
  case neg =>
    have e1 : kTup d = false := by cases d <;> first | rfl | exact absurd ⟨_, rfl⟩ ht
    have e2 : isRow d = false := by cases d <;> first | rfl | exact absurd ⟨_, rfl⟩ ht
    rw [e1]
    refine wIteT (fun z => nomatch z) (fun _ => ?_)
    rw [← e2]
    exact hQ _ _ k
  obtain ⟨l, rfl⟩ := ht
  rw [IsV] at x₁
  obtain ⟨a, items, rfl, tup, vl⟩ := x₁
  have hl := vl.len
  have hzl := hz l rfl
  have hsz : items.size = l.length := by simpa using hl
  refine wIteT (fun _ => ?_) (fun z => nomatch z)
  refine BoolOp_and ?_
  walk_at "W"
  walk_at "len"
  refine len_tuple tup (by omega) ?_
  walk_at "W"
  refine wIteT (fun h0 => ?_) (fun h0 => ?_)
  · have h0 : 0 < l.length := by have := of_decide_eq_true h0; omega
    refine BoolOp_one ?_
    refine callM (f := .builtin "isinstance") (by rfl) (by rfl) (nb_isinstance F.gh ⟨rfl, argsC (by exact rfl) ?_⟩)
    walk_at "sub"
    cases l with
    | nil => cases h0
    | cons d0 l =>
      rw [IsVL] at vl
      obtain ⟨v0, vs, ev, hv0, _⟩ := vl
      refine item_tuple (j := 0) tup (by omega) (by omega) (seq_nat (i := 0) (by omega)) (x := v0) ?_ ?_
      · rw [← Array.getElem?_toList, ev]; rfl
      walk_at "W"
      refine nb_str F.gh ?_
      walk_at "W"
      refine isi_strB hv0 fun k₃ => ?_
      have e : kStr d0 = isRow (.tup (d0 :: l)) := by cases d0 <;> rfl
      rw [e]
      exact hQ _ _ k
  · have h0 : l = [] := by
      have := of_decide_eq_false h0
      exact List.length_eq_zero_iff.mp (by omega)
    subst h0
    have e : decide ((0 : Int) < (items.size : Int)) = isRow (.tup []) := by rw [hsz]; rfl
    rw [e]
    exact hQ _ _ k
/-- what read_row answers -/
noncomputable def heard (d : List UInt8) : Option Dat := match meant 20 d with
  | none => none
  | some (dv, r) => if r = [] ∧ isRow dv = true then some dv else none
mutual
theorem spell_pos : ∀ {n : Nat} {d : Dat}, fits n d → 0 < (spell d).length
  | _, .int _, _ => by rw [spell]; simp
  | _, .str _, _ => by rw [spell]; simp
  | _, .byt _, _ => by rw [spell]; simp
  | 0, .bad, h => h.elim
  | _ + 1, .bad, h => h.elim
  | _, .tup _, _ => by rw [spell]; simp
end
theorem spellL_len : ∀ {l : List Dat} {n : Nat}, fitsL n l → l.length ≤ (spellL l).length
  | [], _, _ => Nat.zero_le _
  | d :: l, n, h => by
    rw [fitsL] at h
    have := spell_pos h.1
    have := spellL_len h.2
    rw [spellL, List.length_append, List.length_cons]
    omega
theorem fits_len {n : Nat} {d : Dat} {l : List Dat} (h : fits n d) (e : d = .tup l) : l.length ≤ (spell d).length := by
  subst e
  cases n with
  | zero => exact h.elim
  | succ n =>
    rw [fits] at h
    have := spellL_len h
    rw [spell, List.length_cons, List.length_append]
    omega

theorem spec_read_row {w : World} {prog : Program} {A : Around} {E : Value → Shared → Prop} {s : Shared} {Q : Value → Shared → Prop} {l : List Env} {d : List UInt8} {t : Tok}
    (G : G0 w s.heap) (R : Room A 60) (O : Fok A l s.heap) (hz : d.length ≤ 1000000)
    (hQ : ∀ dv, heard d = some dv → ∀ h' v tk', s.heap.StaysIn h' → IsV h' dv v → Q v { s with heap := h', toks := tk' })
    (hE : heard d = none → ∀ e h' tk', Rsd l s.heap e h' → E (.ref e) { s with heap := h', toks := tk' }) :
    wpAny (model prog w) A (call (.ref 136) [.bytes d.toArray t]) Q E s := by
  refine callY (heard d = none) [(Str.ofString "octets", .bytes d.toArray t)] G R O (by exact rfl) (by exact rfl) (by kernel_rfl) (by exact rfl) (by exact rfl) (by decide) hE fun L h₁ tk A' l' E' F k R' fo c1 c2 po => ?_
  have hsz : d.toArray.size ≤ 1099511627776 := by simp; omega
  refine wpAny_execs_cons (Assign_Tuple ?_ (by rfl) (by rfl))
  refine callN (f := 115) (by exact rfl) (by exact rfl) (by rfl) (n_read_value F.gh ⟨rfl, ?_⟩)
  walk_at "W"
  refine ⟨F.gh, ?_⟩
  refine spec_value w prog 20 (p := 0) (depth := 1) F.gh (R'.mono (by omega)) (fo _ _ F.fr.keep F.fr.ns) hz (by omega) (by omega) (fun dv r hm h₄ q v t2 k₄ st₄ tup hv => ?_) fun hno e h' tk' X => ?_
  case refine_2 =>
    refine c1 ?_ _ _ _ _ _ F.fr.keep F.fr.ns X
    unfold heard
    rw [List.drop_zero] at hno
    rw [hno]
  rw [List.drop_zero] at hm
  have F₄ := F.stays st₄
  refine unpackS R'.hd tup (by rfl) (by rfl) fun h₅ st₅ => ?_
  have F₅ := F₄.stays st₅
  have hv₅ := hv.stays st₅
  clear F F₄
  have n₅ := noTup_ns F₅.fr.ns
  refine assignInOrder_cons (wpAny_assign_Name ?_)
  walk_at "st"
  intro h₆ k₆ F₆ b₆
  have hv₆ := IsV.ebut b₆.extBut n₅ hv₅
  have n₆ := noTup_ns F₆.fr.ns
  refine assignInOrder_cons (wpAny_assign_Name ?_)
  walk_at "st"
  intro h₇ k₇ F₇ b₇
  have hv₇ := IsV.ebut b₇.extBut n₆ hv₆
  clear F₅ F₆ b₆ b₇ tup st₄ st₅ hv hv₅ hv₆ n₅ n₆
  refine assignInOrder_nil ?_
  have hrl := meant_lt hm
  obtain ⟨hsp, hfit, _⟩ := spell_meant _ _ _ hm
  walk_at "W"
  walk_at "len"
  refine len_bytes hsz ?_
  walk_at "W"
  refine wIteT (fun hb => ?_) (fun hb => ?_)
  · have hr : r ≠ [] := fun z => by subst z; have := of_decide_eq_true hb; simp at this
    walk_at "W"
    refine wRaise F₇.gh (R'.mono (m := 4) (by omega)) (by rfl) ?_
    walk_at "W"
    exact ⟨F₇.gh, ⟨_, .inr ⟨_, rfl⟩⟩, fun h' e tk X => c2 (by unfold heard; rw [hm]; simp [hr]) _ _ e h' tk F₇.fr.keep F₇.fr.ns X⟩
  have hr : r = [] := by
    have := of_decide_eq_false hb
    simp at this
    exact List.length_eq_zero_iff.mp (by omega)
  subst hr
  walk_at "W"
  walk_at "bool"
  refine wpAny_isTrue_value ?_ (by rfl)
  refine callN (f := 122) (by exact rfl) (by exact rfl) (by rfl) (n_is_row F₇.gh ⟨rfl, ?_⟩)
  walk_at "W"
  refine ⟨F₇.gh, spec_is_row F₇.gh (R'.mono (by omega)) hv₇ (fun z => by subst z; exact hfit.elim) (fun l e => ?_) fun h₈ k₈ st₈ => ?_⟩
  · have := fits_len hfit e
    rw [List.append_nil] at hsp
    rw [← hsp] at this
    omega
  have F₈ := F₇.stays st₈
  have hv₈ := hv₇.stays st₈
  clear F₇ hv₇
  walk_at "W"
  refine wIteT (fun hb => ?_) (fun hb => ?_)
  · have hr : isRow dv = false := by simpa using hb
    walk_at "W"
    refine wRaise F₈.gh (R'.mono (m := 4) (by omega)) (by rfl) ?_
    walk_at "W"
    exact ⟨F₈.gh, ⟨_, .inr ⟨_, rfl⟩⟩, fun h' e tk X => c2 (by unfold heard; rw [hm]; simp [hr]) _ _ e h' tk F₈.fr.keep F₈.fr.ns X⟩
  · have hr : isRow dv = true := by simpa using hb
    walk_at "W"
    exact hQ dv (by unfold heard; rw [hm]; simp [hr]) _ _ _ F₈.fr.keep hv₈
theorem caught {w : World} {prog : Program} {A : Around} {E : Value → Shared → Prop} {Q : Flow → Shared → Prop} {env : Env} {l : List Env} {L e : Addr} {hB hc : Heap} {s' : Shared} {b₀ : Stmt} {suite : List Stmt} {np pos : Pos}
    (hfr : A.frames = some (env :: l)) (hf : env.frame = some L) (X : Rsd (env :: l) hc e s'.heap) (GB : G0 w hB) (sB : hB.StaysIn hc) (nB : ∀ a ∈ frs (env :: l), hB.get? a = none)
    (k : ∀ h'', s'.heap.UpToSlots h'' → hB.StaysIn h'' → wpAny (model prog w) (A.mark (some (.ref e))) (execs (b₀ :: suite) env) Q (fun _ _ => False) { s' with heap := h'' })
    (hk : env.scope.kind = .function) (hx : env.kindOf (Str.ofString "LogFault") = some .globalImplicit) (hg : env.globals = mainGlobals) :
    wpAny (model prog w) A (noteFrame (.ref e) env) (fun _ s₂ => wpAny (model prog w) A (setFlight (.ref e) none) (fun _ s₃ =>
      wpAny (model prog w) A (handleBy (.ref e) env [.ExceptHandler (some (.Name (Str.ofString "LogFault") np)) none (b₀ :: suite) pos]) Q E s₃) E s₂) E s' := by
  obtain ⟨⟨a0, hfl⟩, hup⟩ := X
  have kB : hB.StaysIn (hideAll hc (frs (env :: l))) := fun b o q => hideAll_get _ (sB _ _ q) fun hm => by rw [nB b hm] at q; cases q
  refine wpAny_looks_onW hfr hf hfl fun h₄ hheld₄ hsm₄ => ?_
  refine wpAny_landsW hheld₄ fun h₅ hheld₅ hsm₅ => ?_
  refine wpAny_handleBy_cons (codeAny_handlers_test ?_) (by intro q; cases q)
  have G₅ := GB.keeps (fun b o q => hheld₅.1 b o (kB b o q))
  refine n_LogFault G₅ ?_ hk hx hg
  obtain ⟨oe, he, hcls⟩ := hheld₅.there
  refine wpAny_excMatches_sub_self (fault_at G₅) he hcls (by decide +kernel) (codeAny_handlers_suite ?_)
  refine lands_againW hheld₅ fun h₆ hfl₆ hsm₆ => ?_
  exact wpAny_mono (k h₆ ((hsm₄.trans hsm₅).trans hsm₆) fun b o q => hfl₆.1 b o (kB b o q)) (fun _ _ x => x) fun _ _ x => x.elim

/-- the ground that a try keeps: an old heap without any frame of the stack -/
structure Base (w : World) (l : List Env) (hB h : Heap) : Prop where
  g : G0 w hB
  st : hB.StaysIn h
  no : ∀ a ∈ frs l, hB.get? a = none

theorem spec_heard {w : World} {prog : Program} {A : Around} {E : Value → Shared → Prop} {s : Shared} {Q : Value → Shared → Prop} {l : List Env} {d : List UInt8} {t : Tok} {hB : Heap}
    (B : Base w l hB s.heap) (R : Room A 62) (O : Fok A l s.heap) (hz : d.length ≤ 1000000)
    (hQ : ∀ h' v tk', s.heap.UpToSlots h' → hB.StaysIn h' → (match heard d with | some dv => IsV h' dv v | none => v = .none) → Q v { s with heap := h', toks := tk' }) :
    wpAny (model prog w) A (call (.ref 199) [.bytes d.toArray t]) Q E s := by
  have G := B.g.keeps B.st
  refine callF [(Str.ofString "octets", .bytes d.toArray t)] G (R.mono (m := 62) (by omega)) (by exact rfl) (by exact rfl) (by kernel_rfl) (by exact rfl) (by exact rfl) (by decide) fun L h₁ tk F k R' => ?_
  refine wpAny_execs_cons (wpAny_Try_except ?_)
  refine wpAny_execs_cons (wRet ?_)
  refine callN (f := 136) (by exact rfl) (by exact rfl) (by rfl) (n_read_row F.gh ⟨rfl, ?_⟩)
  walk_at "W"
  refine ⟨F.gh, ?_⟩
  refine spec_read_row F.gh (R'.mono (by omega)) (frames_in rfl rfl O k F.fr.ns F.new) hz (fun dv hd h₂ v k₂ st₂ hv => ?_) fun hno e h' tk' X => ?_
  · refine hQ _ _ _ (.of_keeps fun b o q => st₂ b o (k b o q)) (fun b o q => st₂ b o (k b o (B.st b o q))) ?_
    rw [hd]
    exact hv
  · refine caught (Around.frames_deeper O.fr) rfl X B.g (fun b o q => k b o (B.st b o q)) (fun a ha => ?_) (fun h'' u1 u2 => ?_) rfl rfl rfl
    · obtain ⟨env', he, hfe⟩ := List.mem_filterMap.mp ha
      rcases List.mem_cons.mp he with rfl | he
      · cases hfe
        exact get_none_of_stays B.st F.new
      · exact B.no a (List.mem_filterMap.mpr ⟨env', he, hfe⟩)
    · walk_at "W"
      refine hQ _ _ _ (((Heap.UpToSlots.of_keeps k).trans X.2).trans u1) u2 ?_
      rw [hno]
theorem keep_of {bs : List Addr} {h h' : Heap} {b : Addr} (k : Keep bs h h') (hb : b ∈ bs) : ∀ o, h.get? b = some o → h'.get? b = some o := k b hb
theorem walker_str (prog : Program) (w : World) (x : Str) (t : Tok) (it : Addr) :
    Walker prog w x.cps.size (fun i v => ∃ c u, x.cps[i]? = some c ∧ v = .str ⟨#[c]⟩ u) it [it] (fun i h => h.IsStrIter it (strIterType x) x t i) where
  item := by
    intro A E i s Q hh hi hit hQ
    have hx : x.cps[i]? = some x.cps[i] := Array.getElem?_eq_getElem hi
    cases ha : x.cps.all (· < 128) with
    | true =>
      have e : strIterType x = "str_ascii_iterator" := by unfold strIterType; rw [ha]; rfl
      rw [e] at hit
      exact wpAny_pyNext_ascii_item hit hx fun h' hit' hs => hQ h' _ _ ⟨_, _, hx, rfl⟩ (by rw [e]; exact hit') hs
    | false =>
      have e : strIterType x = "str_iterator" := by unfold strIterType; rw [ha]; rfl
      rw [e] at hit
      exact wpAny_pyNext_wide_item hit hx fun h' hit' hs => hQ h' _ _ ⟨_, _, hx, rfl⟩ (by rw [e]; exact hit') hs
  fin := by
    intro A E s Q hh hit hQ
    have hx : x.cps[x.cps.size]? = none := Array.getElem?_eq_none (Nat.le_refl _)
    cases ha : x.cps.all (· < 128) with
    | true =>
      have e : strIterType x = "str_ascii_iterator" := by unfold strIterType; rw [ha]; rfl
      rw [e] at hit
      exact wpAny_pyNext_ascii_end hh hit hx fun h' he => hQ h' _ he
    | false =>
      have e : strIterType x = "str_iterator" := by unfold strIterType; rw [ha]; rfl
      rw [e] at hit
      exact wpAny_pyNext_wide_end hh hit hx fun h' he => hQ h' _ he
  keep := fun h k => let ⟨o, ho, r⟩ := h; ⟨o, k _ (.head _) _ ho, r⟩
  has := .head _
theorem walker_tup (prog : Program) (w : World) (items : Array Value) (it a : Addr) (ne : a ≠ it) :
    Walker prog w items.size (fun i v => items[i]? = some v) it [it, a] (fun i h => IsTupIter h it a i ∧ IsTup h a items) where
  item := by
    intro A E i s Q hh hi hit hQ
    have hx : items[i]? = some items[i] := Array.getElem?_eq_getElem hi
    exact next_tuple_item hit.1 hit.2 hx fun h' hit' hs => hQ h' _ _ hx ⟨hit', hit.2.extBut hs.extBut ne⟩ hs
  fin := by
    intro A E s Q hh hit hQ
    exact next_tuple_end hh hit.1 hit.2 (Array.getElem?_eq_none (Nat.le_refl _)) fun h' he => hQ h' _ he
  keep := fun h k => ⟨let ⟨o, ho, r⟩ := h.1; ⟨o, k _ (.head _) _ ho, r⟩, let ⟨o, ho, r⟩ := h.2; ⟨o, k _ (.tail _ (.head _)) _ ho, r⟩⟩
  has := .head _
theorem walker_list (prog : Program) (w : World) (items : Array Value) (it a : Addr) (ne : a ≠ it) :
    Walker prog w items.size (fun i v => items[i]? = some v) it [it, a] (fun i h => h.IsListIter it a i ∧ h.IsList a items) where
  item := by
    intro A E i s Q hh hi hit hQ
    have hx : items[i]? = some items[i] := Array.getElem?_eq_getElem hi
    exact wpAny_pyNext_list_item hit.1 hit.2 hx fun h' hit' hs => hQ h' _ _ hx ⟨hit', hit.2.extBut hs.extBut ne⟩ hs
  fin := by
    intro A E s Q hh hit hQ
    exact wpAny_pyNext_list_end hh hit.1 hit.2 (Array.getElem?_eq_none (Nat.le_refl _)) fun h' he => hQ h' _ he
  keep := fun h k => ⟨let ⟨o, ho, r⟩ := h.1; ⟨o, k _ (.head _) _ ho, r⟩, let ⟨o, ho, r⟩ := h.2; ⟨o, k _ (.tail _ (.head _)) _ ho, r⟩⟩
  has := .head _

theorem sPasses {α : Type} {M : Model} {A : Around} {env : Env} {E : Value → Shared → Prop} {s : Shared} {t : Sem α} {Q : α → Shared → Prop}
    (hE : PassesOwn M A env E) (h : wpS M A t Q E s) : wpS M A t Q (notedBy M A env (cameBackBy M A env E)) s := sMono h (fun _ _ x => x) hE

/-- as ForT, on the clean stacks -/
inductive ForS (prog : Program) (w : World) (A : Around) (E : Value → Shared → Prop) (s0 : Shared) (env : Env) (x : Str) (body : List Stmt) (Q : Flow → Shared → Prop) (itv : Value) (s₂ : Shared) : Prop
  | mk (n : Nat) (item : Nat → Value → Prop) (it : Addr) (bs : List Addr) (IA : Nat → Heap → Prop) (J : Nat → Heap → Prop) (W : Walker prog w n item it bs IA) (e : itv = .ref it)
    (es : s₂ = { s0 with heap := s₂.heap, toks := s₂.toks }) (hi : IA 0 s₂.heap) (hj : J 0 s₂.heap)
    (stab : ∀ i h h', i ≤ n → IA i h → J i h → (Heap.SameBut it h h' ∨ Heap.ExtBut it h h') → J i h')
    (turn : ∀ i v h tk, i < n → item i v → IA (i + 1) h → J i h → wpAny (model prog w) A (storeName env x v) (fun _ s₃ => wpS (model prog w) A (execs body env) (fun f s₄ => match f with
        | .next | .cont => ∃ h' tk', s₄ = { s0 with heap := h', toks := tk' } ∧ J (i + 1) h' ∧ Keep bs h h'
        | .brk => False
        | .ret v => Q (.ret v) s₄) E s₃) E { s0 with heap := h, toks := tk })
    (fin : ∀ h tk, J n h → Q .next { s0 with heap := h, toks := tk }) : ForS prog w A E s0 env x body Q itv s₂
/-- a for over an iterator, on the clean stacks -/
theorem sForW {prog : Program} {w : World} {A : Around} {E : Value → Shared → Prop} {s : Shared} {env : Env} {pos px : Pos} {x : Str} {iter : Expr} {body : List Stmt} {Q : Flow → Shared → Prop} (s0 : Shared)
    (hh : A.handled = none) (po : PassesOwn (model prog w) A env E) (hs : ∀ x, foldedSetIterable iter env x = pure x)
    (ht : ∀ it v, letOwnedTupleGo (.Name x px) it v = pure ())
    (h : wpS (model prog w) A (eval iter env) (fun v s₁ => wpAny (model prog w) A (pyIter v) (fun itv s₂ => ForS prog w A E s0 env x body Q itv s₂) E s₁) E s) :
    wpS (model prog w) A (exec (.For (.Name x px) iter body [] pos) env) Q E s := by
  refine sFor (sMono h (fun v s₁ h₁ => wpAny_mono h₁ (fun itv s₂ h₂ => ?_) fun _ _ x => x) fun _ _ x => x) hs
  obtain ⟨n, item, it, bs, IA, J, W, rfl, es, hi, hj, stab, turn, fin⟩ := h₂
  refine codeS_for (fun m s' => ∃ i h tk, m = n - i ∧ i ≤ n ∧ s' = { s0 with heap := h, toks := tk } ∧ IA i h ∧ J i h) (fun m s' hI => ?_) n ⟨0, s₂.heap, s₂.toks, rfl, Nat.zero_le _, es, hi, hj⟩ (ht _)
  obtain ⟨i, h, tk, rfl, hin, rfl, hi, hj⟩ := hI
  by_cases hlt : i < n
  · refine W.item hh hlt hi fun h' v k hv hi' hs => ?_
    refine wpAny_passesOwn po ?_
    refine wpAny_assign_Name ?_
    refine wpAny_mono (turn i v h' k hlt hv hi' (stab i h h' hin hi hj (.inl hs))) (fun _ s₃ h₃ => sPasses po (sMono h₃ (fun f s₄ h₄ => ?_) fun _ _ x => x)) fun _ _ x => x
    cases f with
    | next => obtain ⟨h'', tk', e, hj', hk⟩ := h₄; exact ⟨n - (i + 1), by omega, i + 1, h'', tk', rfl, hlt, e, W.keep hi' hk, hj'⟩
    | cont => obtain ⟨h'', tk', e, hj', hk⟩ := h₄; exact ⟨n - (i + 1), by omega, i + 1, h'', tk', rfl, hlt, e, W.keep hi' hk, hj'⟩
    | brk => exact h₄.elim
    | ret v => exact h₄
  · obtain rfl : i = n := by omega
    refine W.fin hh hi fun h' k he => ?_
    exact sNil (fin h' k (stab i h h' hin hi hj (.inr he)))
theorem figN_sign {c : Nat} (h : c ≤ 1114111) : figN c ≤ 3 := figN_le 2 c (by omega)
theorem flat_len : ∀ {sg : List Nat}, (∀ c ∈ sg, c ≤ 1114111) → (sg.flatMap figs).length ≤ 3 * sg.length
  | [], _ => by simp
  | c :: sg, h => by
    have h1 := figN_sign (h c (.head _))
    have h2 := flat_len (sg := sg) fun x hx => h x (.tail _ hx)
    rw [List.flatMap_cons, List.length_append, figs_len, List.length_cons]
    omega
theorem BArr.stays {h h' : Heap} {a : Addr} {b : Array UInt8} (hb : BArr h a b) (k : h.StaysIn h') : BArr h' a b := k _ _ hb
theorem BArr.ebut {h h' : Heap} {a L : Addr} {b : Array UInt8} (hb : BArr h a b) (n : a ≠ L) (k : Heap.SameBut L h h' ∨ Heap.ExtBut L h h') : BArr h' a b := (k.elim (·.extBut) id : Heap.ExtBut L h h') a _ n hb

inductive CodI (w : World) (hE hR : Heap) (L a : Addr) (sg : List Nat) (i : Nat) (h : Heap) : Prop where
  | mk (lo : List (Str × Value)) (F : FS w hE L lo hR h) (hb : BArr h a ((sg.take i).flatMap figs).toArray) (e : lo.lookup (Str.ofString "found") = some (.ref a)) : CodI w hE hR L a sg i h
theorem spec_text_codes {w : World} {prog : Program} {A : Around} {E : Value → Shared → Prop} {s : Shared} {Q : Value → Shared → Prop} {sg : List Nat} {t : Tok}
    (G : G0 w s.heap) (R : Room A 6) (hc : ∀ c ∈ sg, c ≤ 1114111) (hz : sg.length ≤ 300000) (hQ : ∀ h' t' tk', s.heap.StaysIn h' → Q (.bytes (sg.flatMap figs).toArray t') { s with heap := h', toks := tk' }) :
    wpS (model prog w) A (call (.ref 89) [.str ⟨sg.toArray⟩ t]) Q E s := by
  refine callRS [(Str.ofString "text", .str ⟨sg.toArray⟩ t)] G R (by exact rfl) (by exact rfl) (by kernel_rfl) (by exact rfl) (by exact rfl) (by decide) fun L h₁ tk A' F k R' => ?_
  refine sCons (sAsg (by rfl) ?_)
  refine sCallM (f := .type "bytearray") (by rfl) (by rfl) (nb_bytearray F.gh ⟨rfl, sArgsN ?_⟩)
  refine ba_new fun h₂ a hb₂ na k₂ => ?_
  have F₂ := F.stays k₂
  have nE : s.heap.get? a = none := get_none_of_stays k na
  have aL := F.aL na
  walk_at "st"
  intro h₃ k₃ F₃ b₃
  have hb₃ := hb₂.but aL b₃
  clear F F₂ hb₂ b₃
  refine sCons (sForW s R'.hd PassesOwn.never (by intro _; rfl) (by intro _ _; rfl) (ofAny ?_))
  walk_at "W"
  refine wpAny_pyIter_strU ?_
  have st : h₃.StaysIn (h₃.push { cls := .type (strIterType ⟨sg.toArray⟩), data := .fields #[.str ⟨sg.toArray⟩ t, .int 0 0] }) := fun b o e => Heap.get?_push_of_some _ e
  have F₄ := F₃.stays st
  have hb₄ := hb₃.stays st
  have nit : h₃.get? h₃.objs.size = none := Heap.get?_none_of_le (Nat.le_refl _)
  have hit : (h₃.push { cls := .type (strIterType ⟨sg.toArray⟩), data := .fields #[.str ⟨sg.toArray⟩ t, .int 0 0] }).IsStrIter h₃.objs.size (strIterType ⟨sg.toArray⟩) ⟨sg.toArray⟩ t 0 := ⟨_, Heap.get?_push_size _ rfl, rfl, rfl⟩
  have itE : s.heap.get? h₃.objs.size = none := get_none_of_stays F₃.fr.keep nit
  have itL : h₃.objs.size ≠ L := fun e => by obtain ⟨o, es, ep, ho, _⟩ := F₃.fr.ns; rw [← e, nit] at ho; cases ho
  have ita : a ≠ h₃.objs.size := fun e => by rw [BArr, e, nit] at hb₃; cases hb₃
  have itR : h₁.get? h₃.objs.size = none := by
    cases q : h₁.get? h₃.objs.size with
    | none => rfl
    | some o => exact absurd (F₃.ext _ _ itL q) (by rw [nit]; simp)
  refine ⟨_, _, _, _, _, fun i h => CodI w s.heap h₁ L a sg i h,
    walker_str prog w ⟨sg.toArray⟩ t _, rfl, rfl, hit, ⟨_, F₄, hb₄, rfl⟩, ?_, ?_, ?_⟩
  · rintro i h h' _ _ ⟨lo, F, hb, e⟩ kk
    exact ⟨lo, F.ebut itE itR kk, hb.ebut ita kk, e⟩
  · rintro i v h tk hi ⟨c, u, hx, rfl⟩ _ ⟨lo, F, hb, e⟩
    have hi' : i < sg.length := by simpa using hi
    have hx : sg[i]? = some c := by simpa using hx
    have hmem : c ∈ sg := List.mem_of_getElem? hx
    clear F₃ F₄ hb₃ hb₄
    walk_at "st"
    intro h₅ k₅ F₅ b₅
    have hb₅ := hb.but aL b₅
    have kp : Keep [h₃.objs.size] h h₅ := Keep.but b₅ (by simpa using itL.symm)
    refine sCons (sExpr rfl rfl (sMeth (by exact rfl) (ofAny ?_)))
    walk_at "lx"
    refine ba_get_extend hb₅ (sCallWithB rfl (sArgsC (by exact rfl) ?_))
    refine sCallN (f := 61) (by exact rfl) (by exact rfl) (by rfl) (n_count_octets F₅.gh ⟨rfl, sArgsC (by exact rfl) (ofAny ?_)⟩)
    refine callM (f := .builtin "ord") (by rfl) (by rfl) (nb_ord F₅.gh ⟨rfl, ?_⟩)
    walk_at "X"
    refine PySem.P.ord_of_char ?_
    refine sArgsN ⟨F₅.gh, ?_⟩
    have h3 := figN_sign (hc c hmem)
    refine spec_count_octets F₅.gh (R'.mono (by omega)) (by omega) fun h₆ t₆ k₆ st₆ => ?_
    have F₆ := F₅.stays st₆
    have hb₆ := hb₅.stays st₆
    refine sArgsN ?_
    have hl : ((sg.take i).flatMap figs).length ≤ 3 * i := Nat.le_trans (flat_len fun x hx => hc x (List.mem_of_mem_take hx)) (by rw [List.length_take]; omega)
    refine ba_extend hb₆ (by rw [List.size_toArray, List.size_toArray, figs_len]; show _ ≤ 16777216; omega) fun h₇ hb₇ b₇ => ?_
    have F₇ := F₆.but nE na b₇
    refine sNil ⟨h₇, _, rfl, ⟨_, F₇, ?_, ?_⟩, (kp.trans (Keep.stays st₆)).trans (Keep.but b₇ (by simpa using ita))⟩
    · rw [List.take_add_one, hx]
      simpa using hb₇
    · walk_at "hv"
  · rintro h tk ⟨lo, F, hb, e⟩
    have e2 : ((sg.take (Array.size (⟨sg.toArray⟩ : Str).cps))) = sg := by simp
    rw [e2] at hb
    refine sCons (sRet (ofAny ?_))
    refine callM (f := .type "bytes") (by rfl) (by rfl) (nb_bytes F.gh ⟨rfl, ?_⟩)
    walk_at "X"
    have := flat_len hc
    refine ba_to_bytes hb (by rw [List.size_toArray]; show _ ≤ 16777216; omega) fun t₆ k₆ => ?_
    exact hQ h _ _ F.fr.keep
section
variable {M : Model} {A : Around} {E : Value → Shared → Prop} {s : Shared} {env : Env}
theorem sStandIf {α : Type} {c : Prop} [Decidable c] {pos : Pos} {k : PUnit → Sem α} {Q : α → Shared → Prop} (h : wpS M A (k ()) Q E s) : wpS M A (if c then (standAt pos >>= k) else k ()) Q E s := by
  split
  · exact sAt h
  · exact h
theorem sAttempt {α : Type} {m : Sem α} {Q : Except Value α → Shared → Prop} (h : wpS M A m (fun a => Q (.ok a)) (fun e => Q (.error e)) s) : wpS M A m.attempt Q E s := fun Γ p ok hΓ => by rw [Sem.wp_attempt]; exact h Γ p ok hΓ

theorem sComprehension {e : Expr} {scope : Scope} {pos : Pos} {newAcc first : Sem Value} {g : Comprehension} {gs : List Comprehension} {cl : List (Str × Addr)} {Q : Value → Shared → Prop}
    (hcl : clausesOf e = g :: gs) (hs : ∀ x, foldedSetIterable g.iter env x = pure x) (hclos : closureFor scope env = pure cl)
    (hkind : scope.kind = .function) (hnames : ∀ x ∈ scope.names, x.2 = .local → scope.names.lookup x.1 = some .local)
    (h : wpS M A first (fun x s₁ => wpAny M A (pyIter x) (fun it s₂ => wpAny M A newAcc (fun acc s₃ =>
      wpAny M A (newFunctionEnv scope env.globals cl [] env.qual none .none (some env)) (fun cenv s₄ =>
        codeS M A (.compStart e 0 it acc { cenv with scope := relabel scope env }) (fun r s' => ∃ m, s'.heap.Ns cenv.locals m ∧ ∀ h', Heap.SameBut cenv.locals s'.heap h' →
          match r with | .ok _ => Q acc { s' with heap := h' } | .error x => wpAny M A (passOn "comprehension.variables-let-go" x { cenv with scope := relabel scope env } : Sem Value) Q E { s' with heap := h' }) s₄) E s₃) E s₂) E s₁) E s) :
    wpS M A (comprehension e scope env pos newAcc false first) Q E s := by
  unfold comprehension
  rw [hclos, hcl]
  refine sBind (sMono h (fun x s₁ h₁ => sAt ?_) fun _ _ h' => h')
  refine sBindA (m := foldedSetIterable g.iter env x) ?_
  rw [hs x]
  refine wpAny_pure ((sBindA (wpAny_holding (wpAny_mono h₁ (fun it s₂ h₂ => sStandIf (sBindA (wpAny_mono h₂ (fun acc s₃ h₃ => sBindA (wpAny_pure (sBindA (wpAny_mono h₃ (fun cenv s₄ h₄ => ?_) fun _ _ h' => h')))) fun _ _ h' => h'))) fun _ _ h' => h'))))
  dsimp only
  have hv : ∀ x ∈ (scope.names.filter fun x => (x.2 == .local || x.2 == .cell) && x.1 != (".0" : Str)).reverse, x.2 = .local →
      Env.kindOf { cenv with scope := relabel scope env } x.1 = some .local := fun x hx hl => lookup_relabel_local (hnames x (List.mem_filter.mp (List.mem_reverse.mp hx)).1 hl)
  refine sHold (sBind (sAttempt (sHold (sRun (codeS_mono h₄ fun r s' hr => ?_)))))
  obtain ⟨m, hn, hr⟩ := hr
  cases r with
  | ok f => exact sBindA (wpAny_holding (wpAny_comp_letGo (cenv := { cenv with scope := relabel scope env }) hkind _ s' m hv hn fun h' m' _ hs' => sPure (hr h' hs')))
  | error x => exact sBindA (wpAny_holding (wpAny_comp_letGo (cenv := { cenv with scope := relabel scope env }) hkind _ s' m hv hn fun h' m' _ hs' => ofAny (hr h' hs')))
end

section
variable {prog : Program} {w : World} {A : Around} {E : Value → Shared → Prop} {s : Shared} {env : Env} {R : Result → Shared → Prop}
theorem codeS_compLoop {elt target iter : Expr} {scope : Scope} {pos : Pos} {it acc : Value} (I : Nat → Shared → Prop)
    (turn : ∀ n s, I n s → wpAny (model prog w) A (pyNext it) (fun r s₁ => match r with
      | none => R (.ok .next) s₁
      | some v => wpAny (model prog w) A (assign target env v) (fun _ s₂ => wpS (model prog w) A (eval elt env) (fun x s₃ =>
          wpAny (model prog w) A (call (.builtin "list.append") [acc, x]) (fun _ s₄ => ∃ m, m < n ∧ I m s₄) (notedBy (model prog w) A env fun e s' => R (.error e) s') s₃)
          (notedBy (model prog w) A env fun e s' => R (.error e) s') s₂) (notedBy (model prog w) A env fun e s' => R (.error e) s') s₁) (notedBy (model prog w) A env fun e s' => R (.error e) s') s)
    (n : Nat) (h : I n s) (ht : ∀ v, letOwnedTupleGo target it v = pure ()) :
    codeS (model prog w) A (.compLoop (.ListComp elt [⟨target, iter, [], 0⟩] scope pos) 0 it acc env) R s := by
  refine codeS_loop rfl rfl I (fun n s hI => ?_) n h
  show wpS _ _ ((compTurn (.ListComp elt [⟨target, iter, [], 0⟩] scope pos) 0 it acc env).onRaise (fun x => do noteFrame x env; theTreesLotGoes x)) _ _ s
  refine sNoted ?_
  rw [compTurn_list1]
  refine sAt (sBindA (wpAny_mono (turn n s hI) (fun r s₁ h₁ => ?_) fun _ _ h' => h'))
  cases r with
  | none => exact sPure h₁
  | some v =>
    refine sBindA (m := letOwnedTupleGo target it v) ?_
    rw [ht v]
    refine wpAny_pure ?_
    exact sBindA (wpAny_mono h₁ (fun _ s₂ h₂ => sBind (sBind (sMono h₂ (fun x s₃ h₃ => sBindA (wpAny_mono h₃
      (fun _ s₄ h₄ => sPure (sPure (.inl ⟨rfl, h₄⟩))) fun _ _ h' => h')) fun _ _ h' => h'))) fun _ _ h' => h')
theorem codeS_compStart {elt target iter : Expr} {scope : Scope} {pos : Pos} {it acc : Value}
    (h0 : codeS (model prog w) A (.compLoop (.ListComp elt [⟨target, iter, [], 0⟩] scope pos) 0 it acc env) R s)
    (h : wpAny (model prog w) A (pyIter it) (fun it' s' => codeS (model prog w) A (.compLoop (.ListComp elt [⟨target, iter, [], 0⟩] scope pos) 0 it' acc env) R s')
      (notedBy (model prog w) A env fun x s' => R (.error x) s') s) :
    codeS (model prog w) A (.compStart (.ListComp elt [⟨target, iter, [], 0⟩] scope pos) 0 it acc env) R s := by
  refine codeS_tree rfl ?_
  show wpS _ _ ((compStart (.ListComp elt [⟨target, iter, [], 0⟩] scope pos) 0 it acc env).onRaise (fun x => do noteFrame x env; standAt theWindowsPlace)) _ _ s
  refine sNotedAt ?_
  unfold compStart
  show wpS _ _ (ask >>= _) _ _ s
  refine sBindA (wpAny_askSetting ?_)
  split
  · first
      | exact sBindA (wpAny_pure (sPure (And.intro rfl h0)))
      | exact sPure (And.intro rfl h0)
  · first
      | exact sBindA (wpAny_rule (sAt (sBindA (wpAny_mono h (fun it' s' h' => sPure (And.intro rfl h')) fun _ _ x => x))))
      | (refine sBindA (wpAny_rule ?_); show wpS _ _ (standAt iter.pos >>= _) _ _ s; exact sAt (sBindA (wpAny_mono h (fun it' s' h' => sPure (And.intro rfl h')) fun _ _ x => x)))
end
/-- what a comprehension asks of its iterator -/
inductive CompT (prog : Program) (w : World) (A : Around) (E : Value → Shared → Prop) (s0 : Shared) (env : Env) (elt : Expr) (x : Str) (scope : Scope) (cl : List (Str × Addr)) (Q : Value → Shared → Prop) (Ee : Addr → Value → Shared → Prop) (itv : Value) (s₂ : Shared) : Prop
  | mk (n : Nat) (item : Nat → Value → Prop) (it : Addr) (bs : List Addr) (IA : Nat → Heap → Prop) (J : Nat → Heap → Array Value → Prop) (W : Walker prog w n item it bs IA) (e : itv = .ref it) (hn : n ≤ 16777215)
    (again : ∀ {A : Around} {E : Value → Shared → Prop} {s : Shared} {Q : Value → Shared → Prop}, IA 0 s.heap → Q (.ref it) s → wpAny (model prog w) A (pyIter (.ref it)) Q E s)
    (es : s₂ = { s0 with heap := s₂.heap, toks := s₂.toks }) (hi : IA 0 s₂.heap) (hbs : ∀ b ∈ bs, ∃ o, s₂.heap.get? b = some o)
    (ntup : ∀ i h items, IA i h → ¬ IsTup h it items)
    (hj : ∀ h', s₂.heap.StaysIn h' → J 0 h' #[])
    (stab : ∀ i h h' ys b, J i h ys → (b = it ∨ s₂.heap.get? b = none) → (∀ items, ¬ IsTup h b items) → Heap.ExtBut b h h' → J i h' ys)
    (turn : ∀ i v h tk ys acc C m, i < n → item i v → IA (i + 1) h → J i h ys → s₂.heap.get? acc = none → s₂.heap.get? C = none → h.PlainList acc ys → h.Ns C m → m x = some v → ys.size = i →
        wpS (model prog w) A (eval elt (compEnvC scope cl C env)) (fun y s₄ => ∃ h' tk', s₄ = { s0 with heap := h', toks := tk' } ∧ J (i + 1) h' (ys.push y) ∧ Keep (acc :: C :: bs) h h') (Ee C) { s0 with heap := h, toks := tk })
    (err : ∀ C e s', Ee C e s' → s₂.heap.get? C = none → notedBy (model prog w) A (compEnvC scope cl C env) (fun e s' => ∃ m, s'.heap.Ns C m ∧ ∀ h', Heap.SameBut C s'.heap h' →
        wpAny (model prog w) A (passOn "comprehension.variables-let-go" e (compEnvC scope cl C env) : Sem Value) (fun _ _ => False) E { s' with heap := h' }) e s')
    (fin : ∀ h tk ys acc, J n h ys → h.PlainList acc ys → s₂.heap.get? acc = none → Q (.ref acc) { s0 with heap := h, toks := tk }) : CompT prog w A E s0 env elt x scope cl Q Ee itv s₂
theorem sComp {prog : Program} {w : World} {A : Around} {E : Value → Shared → Prop} {s : Shared} {env : Env} {elt iter : Expr} {x : Str} {px pos : Pos} {scope : Scope} {cl : List (Str × Addr)} {Q : Value → Shared → Prop} (s0 : Shared)
    (Ee : Addr → Value → Shared → Prop)
    (hs : ∀ v, foldedSetIterable iter env v = pure v) (hclos : closureFor scope env = pure cl) (hkind : scope.kind = .function)
    (hnames : ∀ y ∈ scope.names, y.2 = .local → scope.names.lookup y.1 = some .local) (hcell : ∀ y ∈ scope.names, y.2 ≠ .cell)
    (hxl : ∀ C, (compEnvC scope cl C env).kindOf x = some .local) (ht : ∀ it v, letOwnedTupleGo (.Name x px) it v = pure ()) (hh : A.handled = none)
    (h : wpS (model prog w) A (eval iter env) (fun v s₁ => wpAny (model prog w) A (pyIter v) (fun itv s₂ => CompT prog w A E s0 env elt x scope cl Q Ee itv s₂) E s₁) E s) :
    wpS (model prog w) A (eval (.ListComp elt [⟨.Name x px, iter, [], 0⟩] scope pos) env) Q E s := by
  rw [eval_ListComp]
  refine sComprehension rfl hs hclos hkind hnames (sMono h (fun v s₁ h₁ => wpAny_mono h₁ (fun itv s₂ h₂ => ?_) fun _ _ x => x) fun _ _ x => x)
  obtain ⟨n, item, it, bs, IA, J, W, rfl, hn, again, es, hi, hbs, ntup, hj, stab, turn, err, fin⟩ := h₂
  obtain ⟨heap2, g2, d2, tk2, os2⟩ := s₂
  dsimp only at es hi hbs hj stab turn err fin
  refine wpAny_newObj_type ?_ (Nat.zero_le _)
  refine wpAny_newFunctionEnv hcell (fun _ hx => nomatch hx) (fun h4 ns4 sb4 => ?_) hkind
  have acc0 : (heap2.push { cls := .type "list", data := .seq #[] }).PlainList heap2.objs.size #[] := ⟨0, Heap.get?_push_size _ rfl⟩
  have nacc : heap2.get? heap2.objs.size = none := Heap.get?_none_of_le (Nat.le_refl _)
  have k3 : heap2.StaysIn (heap2.push { cls := .type "list", data := .seq #[] }) := fun b o e => Heap.get?_push_of_some _ e
  have ns4' : h4.Ns (heap2.push { cls := .type "list", data := .seq #[] }).objs.size (fun _ => none) := ns4
  have sb4' : Heap.SameBut (heap2.push { cls := .type "list", data := .seq #[] }).objs.size ((heap2.push { cls := .type "list", data := .seq #[] }).push { cls := .type "dict", data := .dict #[] }) h4 := sb4
  clear ns4 sb4
  have nC3 : (heap2.push { cls := .type "list", data := .seq #[] }).get? (heap2.push { cls := .type "list", data := .seq #[] }).objs.size = none := Heap.get?_none_of_le (Nat.le_refl _)
  have nC : heap2.get? (heap2.push { cls := .type "list", data := .seq #[] }).objs.size = none := get_none_of_stays k3 nC3
  have accC : heap2.objs.size ≠ (heap2.push { cls := .type "list", data := .seq #[] }).objs.size := by rw [Heap.size_push]; omega
  have k34 : (heap2.push { cls := .type "list", data := .seq #[] }).StaysIn h4 := fun b o e => sb4'.extBut b o (fun z => by rw [z, nC3] at e; cases e) (Heap.get?_push_of_some _ e)
  have acc4 := IsList.stays acc0 k34
  show codeS _ _ (.compStart _ 0 (.ref it) (.ref heap2.objs.size) (compEnvC scope cl (heap2.push { cls := .type "list", data := .seq #[] }).objs.size env)) _ _
  generalize hC : (heap2.push { cls := .type "list", data := .seq #[] }).objs.size = C at nC accC ns4'
  generalize heap2.objs.size = acc at acc4 nacc accC
  have k24 : heap2.StaysIn h4 := fun b o e => k34 b o (k3 b o e)
  have itacc : acc ≠ it := fun z => by obtain ⟨o, ho⟩ := hbs it W.has; rw [← z, nacc] at ho; cases ho
  have itC : C ≠ it := fun z => by obtain ⟨o, ho⟩ := hbs it W.has; rw [← z, nC] at ho; cases ho
  have bsacc : acc ∉ bs := fun z => by obtain ⟨o, ho⟩ := hbs acc z; rw [nacc] at ho; cases ho
  have bsC : C ∉ bs := fun z => by obtain ⟨o, ho⟩ := hbs C z; rw [nC] at ho; cases ho
  have hi4 : IA 0 h4 := W.keep hi (Keep.stays k24)
  simp only [Shared.mk.injEq, true_and] at es
  obtain ⟨e1, e2, e3⟩ := es
  have loop : ∀ tk, codeS (model prog w) A (.compLoop (.ListComp elt [⟨.Name x px, iter, [], 0⟩] scope pos) 0 (.ref it) (.ref acc) (compEnvC scope cl C env))
      (fun r s' => ∃ m, s'.heap.Ns C m ∧ ∀ h', Heap.SameBut C s'.heap h' → match r with | .ok _ => Q (.ref acc) { s' with heap := h' } | .error x => wpAny (model prog w) A (passOn "comprehension.variables-let-go" x (compEnvC scope cl C env) : Sem Value) Q E { s' with heap := h' })
      { s0 with heap := h4, toks := tk } := fun tk => by
    refine codeS_compLoop (fun m s' => ∃ i h tk ys mm, m = n - i ∧ i ≤ n ∧ s' = { s0 with heap := h, toks := tk } ∧ IA i h ∧ J i h ys ∧ h.PlainList acc ys ∧ h.Ns C mm ∧ ys.size = i) (fun m s' hI => ?_) n
      ⟨0, h4, tk, #[], _, rfl, Nat.zero_le _, rfl, hi4, hj h4 k24, acc4, ns4', rfl⟩ (ht _)
    obtain ⟨i, h, tk, ys, mm, rfl, hin, rfl, hi, hj, ha, hns, hys⟩ := hI
    by_cases hlt : i < n
    · refine W.item hh hlt hi fun h5 v k hv hi5 sb5 => ?_
      have hj5 := stab _ _ _ _ _ hj (.inl rfl) (fun items => ntup i h items hi) sb5.extBut
      have ha5 := IsList.but ha itacc sb5
      have hns5 := hns.extBut sb5.extBut itC
      refine wpAny_assign_Name (wpAny_storeName_local (hxl C) hns5 (fun h6 hns6 sb6 => ?_) (by show (scope.kind == .class || (scope.kind == .module && _)) = false; rw [hkind]; rfl))
      have hj6 := stab _ _ _ _ _ hj5 (.inr nC) (noTup_ns hns5) sb6.extBut
      have ha6 := IsList.but ha5 accC sb6
      have hi6 := W.keep hi5 (Keep.but sb6 bsC)
      refine sMono (turn i v h6 _ ys acc C _ hlt hv hi6 hj6 nacc nC ha6 hns6 (by simp) hys) (fun y s₄ h₄ => ?_) (fun e s' hE => ?_)
      · obtain ⟨h7, tk7, rfl, hj7, kp7⟩ := h₄
        have ha7 : h7.PlainList acc ys := let ⟨o, ho⟩ := ha6; ⟨o, kp7 _ (.head _) _ ho⟩
        have hns7 : h7.Ns C _ := let ⟨o, es, ep, ho, r⟩ := hns6; ⟨o, es, ep, kp7 _ (.tail _ (.head _)) _ ho, r⟩
        have hi7 := W.keep hi6 fun b hb => kp7 b (.tail _ (.tail _ hb))
        refine wpAny_list_append_plain ha7 (fun h8 ha8 sb8 => ?_) (by show _ ≤ 16777216; omega)
        have hj8 := stab _ _ _ _ _ hj7 (.inr nacc) (noTup_list ha7) sb8.extBut
        exact ⟨n - (i + 1), by omega, i + 1, h8, tk7, ys.push y, _, rfl, hlt, rfl, W.keep hi7 (Keep.but sb8 bsacc), hj8, ha8, hns7.extBut sb8.extBut accC.symm, by simp [hys]⟩
      · refine wpAny_mono (err C e s' hE nC) (fun _ s'' h'' => ?_) fun _ _ hx => ?_
        · obtain ⟨m, hm, hr⟩ := h''
          exact ⟨m, hm, fun h' sb => wpAny_mono (hr h' sb) (fun _ _ z => z.elim) fun _ _ z => z⟩
        · obtain ⟨m, hm, hr⟩ := hx
          exact ⟨m, hm, fun h' sb => wpAny_mono (hr h' sb) (fun _ _ z => z.elim) fun _ _ z => z⟩
    · obtain rfl : i = n := by omega
      refine W.fin hh hi fun h5 k eb => ?_
      have hj5 := stab _ _ _ _ _ hj (.inl rfl) (fun items => ntup _ h items hi) eb
      have ha5 : h5.PlainList acc ys := let ⟨o, ho⟩ := ha; ⟨o, eb _ _ itacc ho⟩
      have hns5 := hns.extBut eb itC
      refine ⟨_, hns5, fun h6 sb6 => ?_⟩
      exact fin h6 k ys acc (stab _ _ _ _ _ hj5 (.inr nC) (noTup_ns hns5) sb6.extBut) (IsList.but ha5 accC sb6) nacc
  subst e1 e2 e3
  refine codeS_compStart (loop _) (again hi4 (loop _))
/-- a LogFault on its way through a frame that has noted it -/
def Hld (base : Heap) (l : List Env) (hE : Heap) (L e : Addr) (h' : Heap) : Prop := (∃ a0, Heap.HeldW base l e (.ref 52) a0 L h') ∧ hE.UpToSlots h'
section
variable {M : Model} {A : Around} {l : List Env} {s : Shared} {hE hc : Heap} {L e : Addr} {env : Env} {Q : Unit → Shared → Prop} {E : Value → Shared → Prop}
theorem leave_held (hf : env.frame = some L) (X : Hld (hideAll hE (frs l)) (env :: l) hE L e s.heap)
    (hQ : ∀ h'', Rsd l hE e h'' → Q () { s with heap := h'' }) : wpAny M A (leaving env (.ref e)) Q E s := by
  obtain ⟨⟨a0, hh⟩, hup⟩ := X
  unfold leaving
  refine wpAny_bind (wpAny_noteFrame_againW hf hh.2.2.2 ?_)
  refine wpAny_landsW hh fun h' fl up => hQ h' ⟨⟨a0, fl.1, fl.2.1, fl.2.2.1.2.2, fl.2.2.2⟩, hup.trans up⟩

theorem frames_but {h h' base : Heap} {C : Addr} (k : Heap.SameBut C h h') : ∀ {l : List Env}, h.FunFrames base l → (∀ a ∈ frs l, a ≠ C) → h'.FunFrames base l
  | [], _, _ => trivial
  | env :: r, ⟨hk, ⟨L, o, hf, hb, ho, hd⟩, hr⟩, hn => by
    refine ⟨hk, ⟨L, o, hf, hb, k.extBut L o (hn L (List.mem_filterMap.mpr ⟨env, .head _, hf⟩)) ho, hd⟩, frames_but k hr fun a ha => ?_⟩
    obtain ⟨env', he, hfe⟩ := List.mem_filterMap.mp ha
    exact hn a (List.mem_filterMap.mpr ⟨env', .tail _ he, hfe⟩)

theorem noteFrame_frame {env env' : Env} {x : Value} (h : env'.frame = env.frame) : noteFrame x env' = noteFrame x env := by
  unfold noteFrame PySem.frameOf
  rw [h]

theorem held_but {base h h' : Heap} {l : List Env} {C e L : Addr} {cls a0 : Value} {m : Str → Option Value} (H : Heap.HeldW base l e cls a0 L h) (hn : h.Ns C m) (nB : base.get? C = none) (fC : ∀ a ∈ frs l, a ≠ C) (k : Heap.SameBut C h h') : Heap.HeldW base l e cls a0 L h' := by
  obtain ⟨f1, f2, f3, oe, vs, T, oT, ts, he, hc, hd, h1, hnT, hTe, hT, hdT, h3⟩ := H
  obtain ⟨oC, es, ep, hoC, hdC, _⟩ := hn
  have eC : e ≠ C := fun z => by rw [z, hoC] at he; cases he; rw [hdC] at hd; cases hd
  have TC : T ≠ C := fun z => by rw [z, hoC] at hT; cases hT; rw [hdC] at hdT; cases hdT
  refine ⟨fun b o q => k.extBut b o (fun z => by rw [z, nB] at q; cases q) (f1 b o q), f2, frames_but k f3 fC, oe, vs, T, oT, ts, k.extBut _ _ eC he, hc, hd, h1, hnT, hTe, k.extBut _ _ TC hT, hdT, h3⟩

theorem passOn_held {α : Type} {base : Heap} {what : String} {Q : α → Shared → Prop} {cenv : Env} (hf : cenv.frame = some L) (H : Hld base l hE L e s.heap) (h : ∀ h'', Hld base l hE L e h'' → E (.ref e) { s with heap := h'' }) :
    wpAny M A (passOn what (.ref e) cenv : Sem α) Q E s := by
  obtain ⟨⟨a0, f1, f2, f3, oe, vs, T, oT, ts, he, hc, hd, h1, hnT, hTe, hT, hdT, h3⟩, hup⟩ := H
  have hsz3 : 3 < ts.size := (Array.getElem?_eq_some_iff.mp h3).1
  unfold PySem.passOn
  refine wpAny_bind (wpAny_field he hd h1 ?_)
  rw [if_neg (show ¬ ((Value.ref T == Value.none) = true) from by simp)]
  unfold setFlight
  refine wpAny_bind (wpAny_bind (wpAny_field he hd h1 ?_))
  rw [if_pos (show (Value.ref T != Value.none) = true from by simp), hf]
  refine wpAny_setField hT hdT hsz3 (wpAny_throw (h _ ?_))
  have other : ∀ b, b ≠ T → (s.heap.update T (Obj.mapFields (·.setIfInBounds 3 ((some L : Option Addr).elim Value.none fun f => rawInt f)))).get? b = s.heap.get? b := fun b hb => Heap.get?_update_other _ _ (Ne.symm hb)
  have noRecord : ∀ b o, s.heap.get? b = some o → (∀ vs, o.data ≠ .fields vs) → b ≠ T := fun b o hb hnf q => by
    rw [q, hT] at hb; injection hb with hb; subst hb; exact hnf ts hdT
  refine ⟨⟨a0, fun b o hbo => (other b fun q => by rw [q, hnT] at hbo; cases hbo).trans (f1 b o hbo), f2, f3.of_keeps fun b o hb hnf => ⟨o, (other b (noRecord b o hb hnf)).trans hb, rfl⟩, ?_⟩, fun b o hb hnf => ?_⟩
  · exact ⟨oe, vs, T, _, _, (other e (Ne.symm hTe)).trans he, hc, hd, h1, hnT, hTe, Heap.get?_update_self _ hT (Obj.isFreed_of_fields (Obj.data_mapFields hdT _)), Obj.data_mapFields hdT _, by simp [hsz3]⟩
  · obtain ⟨sl, q⟩ := hup b o hb hnf
    exact ⟨sl, (other b (noRecord b _ q hnf)).trans q⟩

/-- an error of an element, through the comprehension -/
theorem comp_err {cenv : Env} {C : Addr} {m mC : Str → Option Value} (hfr : A.frames = some (env :: l)) (hf : env.frame = some L) (hfc : cenv.frame = some L) (X : Rsd (env :: l) hc e s.heap)
    (st : hE.StaysIn hc) (nL : hE.get? L = none) (hnC : hc.Ns C mC) (nC : hE.get? C = none) (fC : ∀ a ∈ frs (env :: l), a ≠ C)
    (h : ∀ h'', Hld (hideAll hE (frs l)) (env :: l) hE L e h'' → E (.ref e) { s with heap := h'' }) :
    notedBy M A cenv (fun e s' => ∃ m, s'.heap.Ns C m ∧ ∀ h', Heap.SameBut C s'.heap h' → wpAny M A (passOn "comprehension.variables-let-go" e cenv : Sem Value) (fun _ _ => False) E { s' with heap := h' }) (.ref e) s := by
  obtain ⟨⟨a0, hfl⟩, hup⟩ := X
  have kb : (hideAll hE (frs l)).StaysIn (hideAll hc (frs (env :: l))) := fun b o q => by
    have hb := of_hideAll _ q
    refine hideAll_get _ (st _ _ hb) fun hm => ?_
    obtain ⟨env', he, hfe⟩ := List.mem_filterMap.mp hm
    rcases List.mem_cons.mp he with rfl | he
    · rw [hf] at hfe; cases hfe; rw [nL] at hb; cases hb
    · rw [hideAll_none _ (List.mem_filterMap.mpr ⟨env', he, hfe⟩)] at q; cases q
  have hfl' := flyingW_base kb hfl
  unfold notedBy
  rw [noteFrame_frame (env := env) (hfc.trans hf.symm)]
  refine wpAny_looks_onW hfr hf hfl' fun h₁ H₁ up₁ => ?_
  have hC₁ : h₁.Ns C mC := up₁.ns (hup.ns hnC)
  refine ⟨mC, hC₁, fun h₂ k₂ => ?_⟩
  have H₂ := held_but H₁ hC₁ (hide_none _ nC) fC k₂
  have up₂ : hE.UpToSlots h₂ := fun b o hb hnf => by
    obtain ⟨sl, q⟩ := (((Heap.UpToSlots.of_keeps st).trans hup).trans up₁) b o hb hnf
    exact ⟨sl, k₂.extBut b _ (fun z => by rw [z, nC] at hb; cases hb) q⟩
  exact passOn_held hfc ⟨⟨a0, H₂⟩, up₂⟩ fun h'' z => h h'' z
end

/-- a def with cells that may raise LogFault, on the clean stacks -/
theorem callZS {w : World} {prog : Program} {A : Around} {E : Value → Shared → Prop} {s : Shared} {Q : Value → Shared → Prop} {f : Addr} {o : Obj} {name : Str} {params : Arguments} {body : List Stmt} {scope : Scope}
    {pm cd doc : Value} {args : List Value} {n : Nat} {l : List Env} (P : Prop) (binds ll : List (Str × Value))
    (G : G0 w s.heap) (R : Room A (n + 1)) (O : Fok A l s.heap) (ho : (KK w).lookup f = some o) (hd : o.data = .func (docDef name params body scope pm cd doc)) (hcd : codeIn (KK w) cd name = true)
    (hbind : bindArgs (docDef name params body scope pm cd doc) ⟨args, []⟩ = pure binds)
    (hkind : ∀ L, ∀ x ∈ binds, scope.names.lookup x.1 = some .local ∨ (scope.names.lookup x.1 = some .cell ∧ ((cellsFrom (L + 1) scope.names []).lookup x.1).isSome = true))
    (hll : ∀ L, bindL (callEnvC (docDef name params body scope pm cd doc) L f).kindOf binds (fun _ => none) = lk ll)
    (hE : P → ∀ e h' tk, Rsd l s.heap e h' → E (.ref e) { s with heap := h', toks := tk })
    (h : ∀ L h₁ tk A' E', FS w s.heap L ll h₁ h₁ → (∀ n c, (cellsFrom (L + 1) scope.names []).lookup n = some c → h₁.IsCell c (bindC (callEnvC (docDef name params body scope pm cd doc) L f).kindOf binds (fun _ => none) n) ∧ L < c) →
      s.heap.StaysIn h₁ → Room A' n → A'.frames = some (callEnvC (docDef name params body scope pm cd doc) L f :: l) →
      (∀ hc m, s.heap.StaysIn hc → hc.Ns L m → Fok A' (callEnvC (docDef name params body scope pm cd doc) L f :: l) hc) →
      (P → ∀ hc m e h' tk, s.heap.StaysIn hc → hc.Ns L m → Rsd (callEnvC (docDef name params body scope pm cd doc) L f :: l) hc e h' → E' (.ref e) { s with heap := h', toks := tk }) →
      (P → ∀ hc m e h' tk, s.heap.StaysIn hc → hc.Ns L m → Made hc e h' → E' (.ref e) { s with heap := h', toks := tk }) →
      (P → ∀ e h' tk, Hld (hideAll s.heap (frs l)) (callEnvC (docDef name params body scope pm cd doc) L f :: l) s.heap L e h' → E' (.ref e) { s with heap := h', toks := tk }) →
      PassesOwn (model prog w) A' (callEnvC (docDef name params body scope pm cd doc) L f) E' →
      wpS (model prog w) A' (execs body (callEnvC (docDef name params body scope pm cd doc) L f)) (fun fl s' => Q (match fl with | .ret v => v | _ => .none) s') E' { s with heap := h₁, toks := tk })
    (hco : scope.isCoroutine = false := by rfl) (hgen : scope.isGenerator = false := by rfl) (hk : scope.kind = .function := by rfl) : wpS (model prog w) A (call (.ref f) args) Q E s := by
  refine sCall (codeS_call_function (by have := R.dp; show A.depth < 1000; omega) (G.kin _ _ ho) hd hco hgen rfl (codeRec_of G.kin hcd) ?_)
  rw [hbind]
  refine wpAny_pure (wpAny_newFunctionEnv_cells hk (hkind _) fun env' he s' x => ?_)
  subst he
  refine ⟨G.lim.keeps x.toInCall.keep, codeS_func ?_⟩
  obtain ⟨h₁, tk, rfl, _⟩ := x.done
  have hk₁ := x.toInCall.keep
  have F : FS w s.heap s.heap.objs.size ll h₁ h₁ := ⟨G, ⟨by rw [← hll]; exact x.toInCall.ns, hk₁, Nat.le_refl _⟩, fun _ _ _ e => e, ⟨_, x.toInCall.ns⟩⟩
  have cs : ∀ n c, (cellsFrom (s.heap.objs.size + 1) scope.names []).lookup n = some c → h₁.IsCell c (bindC (callEnvC (docDef name params body scope pm cd doc) s.heap.objs.size f).kindOf binds (fun _ => none) n) ∧ s.heap.objs.size < c :=
    fun n c hc => ⟨x.cell n c hc, x.above n c (mem_of_lookup hc)⟩
  by_cases hP : P
  · exact h s.heap.objs.size h₁ tk (A.deeper (callEnvC (docDef name params body scope pm cd doc) s.heap.objs.size f)) _ F cs hk₁ R.deeper (Around.frames_deeper O.fr) (fun hc m st hn => frames_in rfl hk O st hn F.new)
      (fun _ hc m e h' tk st hn X => leave_on (s := { s with heap := h', toks := tk }) rfl hk O st hn F.new X fun h'' Y => hE hP e h'' tk Y)
      (fun _ hc m e h' tk st hn X => leave_made (s := { s with heap := h', toks := tk }) rfl hk O st hn F.new X fun h'' Y => hE hP e h'' tk Y)
      (fun _ e h' tk X => leave_held (s := { s with heap := h', toks := tk }) rfl X fun h'' Y => hE hP e h'' tk Y) PassesOwn.leaving
  · exact sMono (h s.heap.objs.size h₁ tk (A.deeper (callEnvC (docDef name params body scope pm cd doc) s.heap.objs.size f)) (fun _ _ => False) F cs hk₁ R.deeper (Around.frames_deeper O.fr) (fun hc m st hn => frames_in rfl hk O st hn F.new)
      (fun p => (hP p).elim) (fun p => (hP p).elim) (fun p => (hP p).elim) PassesOwn.never) (fun _ _ x => x) fun _ _ x => x.elim
mutual
theorem spell_posB : ∀ (d : Dat), 0 < (spell d).length
  | .int _ => by rw [spell]; simp
  | .str _ => by rw [spell]; simp
  | .byt _ => by rw [spell]; simp
  | .bad => by rw [spell]; simp
  | .tup _ => by rw [spell]; simp
end
theorem spellL_lenB : ∀ (l : List Dat), l.length ≤ (spellL l).length
  | [] => Nat.zero_le _
  | d :: l => by
    have := spell_posB d
    have := spellL_lenB l
    rw [spellL, List.length_append, List.length_cons]
    omega
theorem spell_mem : ∀ {l : List Dat} {d : Dat}, d ∈ l → (spell d).length ≤ (spellL l).length
  | d' :: l, d, h => by
    rw [spellL, List.length_append]
    rcases List.mem_cons.mp h with rfl | h
    · omega
    · have := spell_mem h; omega
theorem IsVL.get {h : Heap} : ∀ {l : List Dat} {vs : List Value} {i : Nat} {v : Value}, IsVL h l vs → vs[i]? = some v → ∃ d, l[i]? = some d ∧ IsV h d v
  | [], vs, i, v, x, e => by rw [IsVL] at x; subst x; simp at e
  | d :: l, vs, 0, v, x, e => by
    rw [IsVL] at x
    obtain ⟨v', vs', rfl, hv, _⟩ := x
    cases e
    exact ⟨d, rfl, hv⟩
  | d :: l, vs, i + 1, v, x, e => by
    rw [IsVL] at x
    obtain ⟨v', vs', rfl, _, hl⟩ := x
    have := IsVL.get (i := i) hl (by simpa using e)
    simpa using this
theorem spellL_join : ∀ (l : List Dat) (a : Array UInt8), (l.map fun d => (spell d).toArray).foldl (· ++ ·) a = a ++ (spellL l).toArray
  | [], a => by rw [spellL]; simp
  | d :: l, a => by rw [List.map_cons, List.foldl_cons, spellL_join l, spellL]; simp
theorem spellL_sum : ∀ (l : List Dat), ((l.map fun d => (spell d).toArray).map (·.size)).sum = (spellL l).length
  | [] => by rw [spellL]; rfl
  | d :: l => by rw [List.map_cons, List.map_cons, List.sum_cons, spellL_sum l, spellL, List.length_append]; simp
theorem fitsL_mem : ∀ {l : List Dat} {n : Nat}, (∀ d ∈ l, fits n d) → fitsL n l
  | [], _, _ => by rw [fitsL]; trivial
  | d :: l, n, h => by rw [fitsL]; exact ⟨h d (.head _), fitsL_mem fun x hx => h x (.tail _ hx)⟩
theorem fitsL_all : ∀ {l : List Dat} {n : Nat}, fitsL n l → ∀ d ∈ l, fits n d
  | d :: l, n, h, x, hx => by
    rw [fitsL] at h
    rcases List.mem_cons.mp hx with rfl | hx
    · exact h.1
    · exact fitsL_all h.2 x hx
theorem okL_all : ∀ {l : List Dat}, okL l → ∀ d ∈ l, okD d
  | d :: l, h, x, hx => by
    rw [okL] at h
    rcases List.mem_cons.mp hx with rfl | hx
    · exact h.1
    · exact okL_all h.2 x hx

def SV (w : World) (prog : Program) (n : Nat) : Prop :=
  ∀ {A : Around} {E : Value → Shared → Prop} {s : Shared} {Q : Value → Shared → Prop} {l : List Env} {d : Dat} {v : Value} {depth : Nat} {td : Tok},
    G0 w s.heap → Room A (n + 9) → Fok A l s.heap → IsV s.heap d v → okD d → (spell d).length ≤ 200000 → depth + n = 21 →
    (fits n d → ∀ h' t tk', s.heap.StaysIn h' → Q (.bytes (spell d).toArray t) { s with heap := h', toks := tk' }) →
    (¬ fits n d → ∀ e h' tk', Rsd l s.heap e h' → E (.ref e) { s with heap := h', toks := tk' }) →
    wpS (model prog w) A (call (.ref 94) [v, .int (depth : Nat) td]) Q E s

section
variable {prog : Program} {w : World} {A : Around} {E : Value → Shared → Prop} {s : Shared}
theorem iter_tup {a : Addr} {items : Array Value} {Q : Value → Shared → Prop} (ht : IsTup s.heap a items)
    (h : ∀ h' it, s.heap.get? it = none → s.heap.StaysIn h' → IsTupIter h' it a 0 → Q (.ref it) { s with heap := h' }) : wpAny (model prog w) A (pyIter (.ref a)) Q E s :=
  iter_tuple ht (h _ _ (Heap.get?_none_of_le (Nat.le_refl _)) (fun b o e => Heap.get?_push_of_some _ e) ⟨_, Heap.get?_push_size _ rfl, rfl, rfl⟩)
theorem iter_lst {a : Addr} {items : Array Value} {Q : Value → Shared → Prop} (ht : s.heap.IsList a items)
    (h : ∀ h' it, s.heap.get? it = none → s.heap.StaysIn h' → h'.IsListIter it a 0 → Q (.ref it) { s with heap := h' }) : wpAny (model prog w) A (pyIter (.ref a)) Q E s :=
  wpAny_pyIter_list ht (h _ _ (Heap.get?_none_of_le (Nat.le_refl _)) (fun b o e => Heap.get?_push_of_some _ e) ⟨_, Heap.get?_push_size _ rfl, rfl, rfl⟩)
theorem iter_str {x : Str} {t : Tok} {Q : Value → Shared → Prop}
    (h : ∀ h' it, s.heap.get? it = none → s.heap.StaysIn h' → h'.IsStrIter it (strIterType x) x t 0 → Q (.ref it) { s with heap := h' }) : wpAny (model prog w) A (pyIter (.str x t)) Q E s :=
  wpAny_pyIter_strU (h _ _ (Heap.get?_none_of_le (Nat.le_refl _)) (fun b o e => Heap.get?_push_of_some _ e) ⟨_, Heap.get?_push_size _ rfl, rfl, rfl⟩)
end
theorem frs_get {h base : Heap} : ∀ {l : List Env}, h.FunFrames base l → ∀ a ∈ frs l, ∃ o, h.get? a = some o
  | env :: r, ⟨_, ⟨L, o, hf, _, ho, _⟩, hr⟩, a, ha => by
    obtain ⟨env', he, hfe⟩ := List.mem_filterMap.mp ha
    rcases List.mem_cons.mp he with rfl | he
    · rw [hf] at hfe; cases hfe; exact ⟨o, ho⟩
    · exact frs_get hr a (List.mem_filterMap.mpr ⟨env', he, hfe⟩)
theorem BytesAre.snoc : ∀ {vs : List Value} {bs : List (Array UInt8)} {b : Array UInt8} {t : Tok}, BytesAre vs bs → BytesAre (vs ++ [.bytes b t]) (bs ++ [b])
  | [], bs, b, t, h => by rw [BytesAre] at h; subst h; exact ⟨b, [], t, rfl, rfl, by rw [BytesAre]⟩
  | v :: vs, bs, b, t, h => by
    obtain ⟨b', bs', t', rfl, rfl, h'⟩ := h
    exact ⟨b', _, t', rfl, rfl, BytesAre.snoc h'⟩
theorem spec_value_octets {w : World} {prog : Program} {n : Nat} (hv : ∀ n', n = n' + 1 → SV w prog n') : SV w prog n := by
  intro A E s Q l d v depth td G R O x ok hz hdp hQ hE
  refine callZS (¬ fits n d) [(Str.ofString "value", v), (Str.ofString "depth", .int (depth : Nat) td)] [(Str.ofString "value", v)] G R O (by exact rfl) (by exact rfl) (by kernel_rfl) (by exact rfl) (fun L x hx => ?_) (fun L => ?_) hE
    fun L h₁ tk A' E' F cs k R' fr fo c1 c2 c3 po => ?_
  · rcases List.mem_cons.mp hx with rfl | hx
    · exact .inl rfl
    · rcases List.mem_cons.mp hx with rfl | hx
      · exact .inr ⟨rfl, rfl⟩
      · cases hx
  · exact lk_setL _ _ []
  have cd := cs (Str.ofString "depth") (L + 1) rfl
  have cell : h₁.IsCell (L + 1) (some (.int (depth : Nat) td)) := cd.1
  clear cs cd
  have x₁ := x.stays k
  cases d with
  | int i =>
    refine sCons (sIf (ofAny (wpAny_isTrue_value ?_ (by rfl))))
    walk_at "isi"
    refine nb_bool F.gh ?_
    walk_at "W"
    refine isi_bool x₁ (fun z => by cases z) fun k₂ => ?_
    walk_at "W"
    refine wIteT (fun z => absurd z Bool.false_ne_true) (fun _ => sNil ?_)
    refine sCons (sIf (ofAny (wpAny_isTrue_value ?_ (by rfl))))
    walk_at "isi"
    refine nb_int F.gh ?_
    walk_at "W"
    refine isi_int x₁ (fun z => by cases z) fun k₂ => ?_
    walk_at "W"
    refine wIteT (fun _ => ?_) (fun z => absurd z.symm Bool.false_ne_true)
    refine sCons (sRet (sBin (ofAny (Constant_bytes ?_))))
    rw [IsV] at x₁
    obtain ⟨ti, rfl⟩ := x₁
    refine sCallN (f := 61) (by exact rfl) (by exact rfl) (by rfl) (n_count_octets F.gh ⟨rfl, sArgsC (by exact rfl) (ofAny ?_)⟩)
    refine callN (f := 75) (by exact rfl) (by exact rfl) (by rfl) (n_folded_number F.gh ⟨rfl, ?_⟩)
    walk_at "W"
    refine ⟨F.gh, spec_folded_number F.gh (R'.mono (by omega)) fun h₃ t₃ k₃ st₃ => ?_⟩
    have F₃ := F.stays st₃
    clear F
    have ef : (if 0 ≤ i then 2 * i else -2 * i - 1) = ((fold i : Nat) : Int) := by unfold fold; split <;> omega
    rw [ef]
    rw [spell, List.length_cons, figs_len] at hz
    refine sArgsN ⟨F₃.gh, spec_count_octets F₃.gh (R'.mono (by omega)) (by omega) fun h₄ t₄ k₄ st₄ => ?_⟩
    have F₄ := F₃.stays st₄
    refine KBy.add_bytes (by rw [List.size_toArray, List.size_toArray, figs_len]; show 1 + _ ≤ _; omega) fun t₅ k₅ => ?_
    have := hQ (by simp [fits]) h₄ t₅ k₅ F₄.fr.keep
    rw [spell] at this
    simpa using this
  | str sg =>
    refine sCons (sIf (ofAny (wpAny_isTrue_value ?_ (by rfl))))
    walk_at "isi"
    refine nb_bool F.gh ?_
    walk_at "W"
    refine isi_bool x₁ (fun z => by cases z) fun k₂ => ?_
    walk_at "W"
    refine wIteT (fun z => absurd z Bool.false_ne_true) (fun _ => sNil ?_)
    refine sCons (sIf (ofAny (wpAny_isTrue_value ?_ (by rfl))))
    walk_at "isi"
    refine nb_int F.gh ?_
    walk_at "W"
    refine isi_int x₁ (fun z => by cases z) fun k₂ => ?_
    walk_at "W"
    refine wIteT (fun z => absurd z Bool.false_ne_true) (fun _ => sNil ?_)
    refine sCons (sIf (ofAny (wpAny_isTrue_value ?_ (by rfl))))
    walk_at "isi"
    refine nb_str F.gh ?_
    walk_at "W"
    refine isi_str x₁ (fun z => by cases z) fun k₂ => ?_
    walk_at "W"
    refine wIteT (fun _ => ?_) (fun z => absurd z.symm Bool.false_ne_true)
    rw [IsV] at x₁
    obtain ⟨ti, rfl⟩ := x₁
    rw [okD] at ok
    rw [spell, List.length_cons, List.length_append, figs_len] at hz
    have hsl : sg.length ≤ 200000 := by
      have key : ∀ sg : List Nat, sg.length ≤ (sg.flatMap figs).length := by
        intro sg
        induction sg with
        | nil => simp
        | cons c sg ih => rw [List.flatMap_cons, List.length_append, List.length_cons]; have := figs_pos c; omega
      have := key sg
      omega
    refine sCons (sRet (sBin (sBin (ofAny (Constant_bytes ?_)))))
    refine sCallN (f := 61) (by exact rfl) (by exact rfl) (by rfl) (n_count_octets F.gh ⟨rfl, sArgsC (by exact rfl) (ofAny ?_)⟩)
    refine callM (f := .builtin "len") (by rfl) (by rfl) (nb_len F.gh ⟨rfl, ?_⟩)
    walk_at "W"
    have hsz : (⟨sg.toArray⟩ : Str).length = sg.length := by show sg.toArray.size = _; simp
    refine len_str (by rw [hsz]; omega) ?_
    rw [hsz]
    refine sArgsN ⟨F.gh, spec_count_octets F.gh (R'.mono (by omega)) (by omega) fun h₃ t₃ k₃ st₃ => ?_⟩
    have F₃ := F.stays st₃
    refine KBy.add_bytes (by rw [List.size_toArray, List.size_toArray, figs_len]; show 1 + _ ≤ _; omega) fun t₄ k₄ => ?_
    refine sCallN (f := 89) (by exact rfl) (by exact rfl) (by rfl) (n_text_codes F₃.gh ⟨rfl, sArgsC (by exact rfl) (ofAny ?_)⟩)
    clear F
    walk_at "W"
    refine sArgsN ⟨F₃.gh, spec_text_codes F₃.gh (R'.mono (by omega)) ok (by omega) fun h₅ t₅ k₅ st₅ => ?_⟩
    have F₅ := F₃.stays st₅
    refine KBy.add_bytes (by rw [Array.size_append, List.size_toArray, List.size_toArray, List.size_toArray, figs_len]; show 1 + _ + _ ≤ _; omega) fun t₆ k₆ => ?_
    have := hQ (by simp [fits]) h₅ t₆ k₆ F₅.fr.keep
    rw [spell] at this
    simpa using this
  | byt b =>
    refine sCons (sIf (ofAny (wpAny_isTrue_value ?_ (by rfl))))
    walk_at "isi"
    refine nb_bool F.gh ?_
    walk_at "W"
    refine isi_bool x₁ (fun z => by cases z) fun k₂ => ?_
    walk_at "W"
    refine wIteT (fun z => absurd z Bool.false_ne_true) (fun _ => sNil ?_)
    refine sCons (sIf (ofAny (wpAny_isTrue_value ?_ (by rfl))))
    walk_at "isi"
    refine nb_int F.gh ?_
    walk_at "W"
    refine isi_int x₁ (fun z => by cases z) fun k₂ => ?_
    walk_at "W"
    refine wIteT (fun z => absurd z Bool.false_ne_true) (fun _ => sNil ?_)
    refine sCons (sIf (ofAny (wpAny_isTrue_value ?_ (by rfl))))
    walk_at "isi"
    refine nb_str F.gh ?_
    walk_at "W"
    refine isi_str x₁ (fun z => by cases z) fun k₂ => ?_
    walk_at "W"
    refine wIteT (fun z => absurd z Bool.false_ne_true) (fun _ => sNil ?_)
    refine sCons (sIf (ofAny (wpAny_isTrue_value ?_ (by rfl))))
    walk_at "isi"
    refine nb_bytes F.gh ?_
    walk_at "W"
    refine isi_bytes x₁ (fun z => by cases z) fun k₂ => ?_
    walk_at "W"
    refine wIteT (fun _ => ?_) (fun z => absurd z.symm Bool.false_ne_true)
    rw [IsV] at x₁
    obtain ⟨ti, rfl⟩ := x₁
    rw [spell, List.length_cons, List.length_append, figs_len] at hz
    refine sCons (sRet (sBin (sBin (ofAny (Constant_bytes ?_)))))
    refine sCallN (f := 61) (by exact rfl) (by exact rfl) (by rfl) (n_count_octets F.gh ⟨rfl, sArgsC (by exact rfl) (ofAny ?_)⟩)
    refine callM (f := .builtin "len") (by rfl) (by rfl) (nb_len F.gh ⟨rfl, ?_⟩)
    walk_at "W"
    refine len_bytes (by rw [List.size_toArray]; omega) ?_
    rw [List.size_toArray]
    refine sArgsN ⟨F.gh, spec_count_octets F.gh (R'.mono (by omega)) (by omega) fun h₃ t₃ k₃ st₃ => ?_⟩
    have F₃ := F.stays st₃
    refine KBy.add_bytes (by rw [List.size_toArray, List.size_toArray, figs_len]; show 1 + _ ≤ _; omega) fun t₄ k₄ => ?_
    clear F
    refine ofAny ?_
    walk_at "W"
    refine KBy.add_bytes (by rw [Array.size_append, List.size_toArray, List.size_toArray, List.size_toArray, figs_len]; show 1 + _ + _ ≤ _; omega) fun t₆ k₆ => ?_
    have := hQ (by simp [fits]) h₃ t₆ k₆ F₃.fr.keep
    rw [spell] at this
    simpa using this
  | bad =>
    rw [IsV] at x₁
    rcases x₁ with ⟨bb, rfl⟩ | rfl
    refine sCons (sIf (ofAny (wpAny_isTrue_value ?_ (by rfl))))
    walk_at "isi"
    refine nb_bool F.gh ?_
    walk_at "W"
    refine IsiPair.bool_bool ?_
    walk_at "W"
    refine wIteT (fun _ => ?_) (fun z => absurd z.symm Bool.false_ne_true)
    refine sCons (ofAny (wRaise F.gh (R'.mono (m := 4) (by omega)) (by rfl) ?_))
    walk_at "W"
    exact ⟨F.gh, ⟨_, .inl rfl⟩, fun h' e tk X => c2 (by cases n <;> simp [fits]) _ _ e h' tk F.fr.keep F.fr.ns X⟩
    refine sCons (sIf (ofAny (wpAny_isTrue_value ?_ (by rfl))))
    walk_at "isi"
    refine nb_bool F.gh ?_
    walk_at "W"
    refine IsiPair.NoneType_bool ?_
    walk_at "W"
    refine wIteT (fun z => absurd z Bool.false_ne_true) (fun _ => sNil ?_)
    refine sCons (sIf (ofAny (wpAny_isTrue_value ?_ (by rfl))))
    walk_at "isi"
    refine nb_int F.gh ?_
    walk_at "W"
    refine IsiPair.NoneType_int ?_
    walk_at "W"
    refine wIteT (fun z => absurd z Bool.false_ne_true) (fun _ => sNil ?_)
    refine sCons (sIf (ofAny (wpAny_isTrue_value ?_ (by rfl))))
    walk_at "isi"
    refine nb_str F.gh ?_
    walk_at "W"
    refine IsiPair.NoneType_str ?_
    walk_at "W"
    refine wIteT (fun z => absurd z Bool.false_ne_true) (fun _ => sNil ?_)
    refine sCons (sIf (ofAny (wpAny_isTrue_value ?_ (by rfl))))
    walk_at "isi"
    refine nb_bytes F.gh ?_
    walk_at "W"
    refine IsiPair.NoneType_bytes ?_
    walk_at "W"
    refine wIteT (fun z => absurd z Bool.false_ne_true) (fun _ => sNil ?_)
    refine sCons (sIf (ofAny ?_))
    walk_at "bool"
    refine wpAny_isTrue_value ?_ (by rfl)
    walk_at "isi"
    refine nb_tuple F.gh ?_
    walk_at "W"
    refine IsiPair.NoneType_tuple ?_
    walk_at "W"
    refine wIteT (fun _ => ?_) (fun z => absurd z.symm Bool.false_ne_true)
    refine sCons (ofAny (wRaise F.gh (R'.mono (m := 4) (by omega)) (by rfl) ?_))
    walk_at "W"
    exact ⟨F.gh, ⟨_, .inl rfl⟩, fun h' e tk X => c2 (by cases n <;> simp [fits]) _ _ e h' tk F.fr.keep F.fr.ns X⟩
  | tup dl =>
    refine sCons (sIf (ofAny (wpAny_isTrue_value ?_ (by rfl))))
    walk_at "isi"
    refine nb_bool F.gh ?_
    walk_at "W"
    refine isi_bool x₁ (fun z => by cases z) fun k₂ => ?_
    walk_at "W"
    refine wIteT (fun z => absurd z Bool.false_ne_true) (fun _ => sNil ?_)
    refine sCons (sIf (ofAny (wpAny_isTrue_value ?_ (by rfl))))
    walk_at "isi"
    refine nb_int F.gh ?_
    walk_at "W"
    refine isi_int x₁ (fun z => by cases z) fun k₂ => ?_
    walk_at "W"
    refine wIteT (fun z => absurd z Bool.false_ne_true) (fun _ => sNil ?_)
    refine sCons (sIf (ofAny (wpAny_isTrue_value ?_ (by rfl))))
    walk_at "isi"
    refine nb_str F.gh ?_
    walk_at "W"
    refine isi_str x₁ (fun z => by cases z) fun k₂ => ?_
    walk_at "W"
    refine wIteT (fun z => absurd z Bool.false_ne_true) (fun _ => sNil ?_)
    refine sCons (sIf (ofAny (wpAny_isTrue_value ?_ (by rfl))))
    walk_at "isi"
    refine nb_bytes F.gh ?_
    walk_at "W"
    refine isi_bytes x₁ (fun z => by cases z) fun k₂ => ?_
    walk_at "W"
    refine wIteT (fun z => absurd z Bool.false_ne_true) (fun _ => sNil ?_)
    refine sCons (sIf (ofAny ?_))
    walk_at "bool"
    refine wpAny_isTrue_value ?_ (by rfl)
    walk_at "isi"
    refine nb_tuple F.gh ?_
    walk_at "W"
    refine isi_tuple x₁ (fun z => by cases z) fun k₂ => ?_
    walk_at "W"
    refine wIteT (fun z => absurd z Bool.false_ne_true) (fun _ => sNil ?_)
    refine sCons (sIf (ofAny ?_))
    walk_at "W"
    refine wpAny_Name (wpAny_loadName_cell rfl rfl (c := L + 1) rfl cell ?_) (by decide)
    refine n_MOST_DEPTH F.gh ?_
    walk_at "W"
    refine wIteT (fun hb => ?_) (fun hb => sNil ?_)
    · have hn : n = 0 := by have := of_decide_eq_true hb; omega
      subst hn
      refine sCons (ofAny (wRaise F.gh (R'.mono (m := 4) (by omega)) (by rfl) ?_))
      walk_at "W"
      exact ⟨F.gh, ⟨_, .inl rfl⟩, fun h' e tk X => c2 (by simp [fits]) _ _ e h' tk F.fr.keep F.fr.ns X⟩
    obtain ⟨n, rfl⟩ : ∃ m, n = m + 1 := ⟨n - 1, by have := of_decide_eq_false hb; omega⟩
    have hv : SV w prog n := @hv n rfl
    rw [IsV] at x₁
    obtain ⟨a, items, rfl, tup, vl⟩ := x₁
    rw [spell, List.length_cons, List.length_append, figs_len] at hz
    have hlen := vl.len
    have hsz : items.size = dl.length := by simpa using hlen
    have hll := spellL_lenB dl
    rw [okD] at ok
    refine sCons (sRet (sBin (sBin (ofAny (Constant_bytes ?_)))))
    refine sCallN (f := 61) (by exact rfl) (by exact rfl) (by rfl) (n_count_octets F.gh ⟨rfl, sArgsC (by exact rfl) (ofAny ?_)⟩)
    refine callM (f := .builtin "len") (by rfl) (by rfl) (nb_len F.gh ⟨rfl, ?_⟩)
    walk_at "W"
    refine len_tuple tup (by omega) ?_
    rw [hsz]
    refine sArgsN ⟨F.gh, spec_count_octets F.gh (R'.mono (by omega)) (by omega) fun h₃ t₃ k₃ st₃ => ?_⟩
    have F₃ := F.stays st₃
    have tup₃ := IsTup.keeps tup st₃
    have vl₃ := vl.stays st₃
    clear F tup vl
    refine KBy.add_bytes (by rw [List.size_toArray, List.size_toArray, figs_len]; show 1 + _ ≤ _; omega) fun t₄ k₄ => ?_
    refine sMeth (by exact rfl) (ofAny (Constant_bytes ?_))
    refine getMethod_builtin (PySem.W.typeIs_bytes _ _ _) FB.plainAttrs_bytes bj_slot bj_ty (fun _ e => nomatch e) ?_
    refine sCallWithB rfl (sArgsC (by exact rfl) ?_)
    refine sComp s (cl := [(Str.ofString "depth", L + 1)]) (fun C e s' => ∃ e' hc m mC en, e = .ref e' ∧ A'.frames = some (en :: l) ∧ Rsd (en :: l) hc e' s'.heap ∧ s.heap.StaysIn hc ∧ hc.Ns L m ∧ hc.Ns C mC ∧ s' = { s with heap := s'.heap, toks := s'.toks } ∧ ¬ fits (n + 1) (.tup dl))
      (by intro _; rfl) (by rfl) (by rfl) (by decide) (by decide) (fun C => by rfl) (by intro _ _; rfl) R'.hd (ofAny ?_)
    walk_at "W"
    refine iter_tup tup₃ fun h₅ it nit st₄ hit => ?_
    have F₄ := F₃.stays st₄
    have tup₄ := IsTup.keeps tup₃ st₄
    have vl₄ := vl₃.stays st₄
    have ait : a ≠ it := fun z => by obtain ⟨o, ho, _⟩ := tup₃; rw [z, nit] at ho; cases ho
    have itE : s.heap.get? it = none := get_none_of_stays F₃.fr.keep nit
    have itL : it ≠ L := fun e => by obtain ⟨o, es, ep, ho, _⟩ := F₃.fr.ns; rw [← e, nit] at ho; cases ho
    have itR : h₁.get? it = none := by
      cases q : h₁.get? it with
      | none => rfl
      | some o => exact absurd (F₃.ext _ _ itL q) (by rw [nit]; simp)
    have noneE : ∀ b, h₅.get? b = none → s.heap.get? b = none ∧ h₁.get? b = none := fun b hb => by
      refine ⟨get_none_of_stays F₄.fr.keep hb, ?_⟩
      cases q : h₁.get? b with
      | none => rfl
      | some o =>
        have bL : b ≠ L := fun e => by obtain ⟨o, es, ep, ho, _⟩ := F₄.fr.ns; rw [← e, hb] at ho; cases ho
        exact absurd (F₄.ext _ _ bL q) (by rw [hb]; simp)
    refine ⟨_, _, it, _, _, fun i h ys => FS w s.heap L [(Str.ofString "value", .ref a)] h₁ h ∧ IsVL h dl items.toList ∧ BytesAre ys.toList ((dl.take i).map fun d => (spell d).toArray) ∧ ∀ d ∈ dl.take i, fits n d,
      walker_tup prog w items it a ait, rfl, by omega, fun hi hq => wpAny_pyIter_tupleiter hi.1 hq, rfl, ⟨hit, tup₄⟩, ?_, ?_, ?_, ?_, ?_, ?_, ?_⟩
    · intro b hb
      rcases List.mem_cons.mp hb with rfl | hb
      · obtain ⟨o, ho, _⟩ := hit; exact ⟨o, ho⟩
      · obtain rfl : b = a := by simpa using hb
        obtain ⟨o, ho, _⟩ := tup₄; exact ⟨o, ho⟩
    · rintro i h its ⟨⟨o, ho, hc, _⟩, _⟩
      exact noTup_cls ho (by rw [hc]; simp) its
    · intro h' st
      exact ⟨F₄.stays st, vl₄.stays st, by simp [BytesAre], by simp⟩
    · rintro i h h' ys b ⟨F, vl, hb, hf⟩ hbn nt ke
      have hn : s.heap.get? b = none ∧ h₁.get? b = none := by
        rcases hbn with rfl | hbn
        · exact ⟨itE, itR⟩
        · exact noneE b hbn
      exact ⟨F.ebut hn.1 hn.2 (.inr ke), IsVL.ebut ke nt vl, hb, hf⟩
    · rintro i v h tk ys acc C m hi hx ⟨hti, htp⟩ ⟨F, vl, hb, hf⟩ nacc nC ha hns hm hys
      obtain ⟨d, hd, hv'⟩ := vl.get (i := i) (v := v) (by simpa using hx)
      have hmem : d ∈ dl := List.mem_of_getElem? hd
      have cellh : h.IsCell (L + 1) (some (.int (depth : Nat) td)) := by
        obtain ⟨o, ho, hd⟩ := cell
        exact ⟨o, F.ext _ _ (Nat.succ_ne_self L) ho, hd⟩
      refine sCallN (f := 94) (by exact rfl) (by exact rfl) (by rfl) (n_value_octets F.gh ⟨rfl, sArgsC (by exact rfl) (ofAny (wpAny_Name (wpAny_loadName_local rfl rfl hns hm ?_) (by decide)))⟩)
      refine sArgsC (by exact rfl) (ofAny ?_)
      walk_at "W"
      refine wpAny_Name (wpAny_loadName_cell rfl rfl (c := L + 1) rfl cellh ?_) (by decide)
      walk_at "W"
      refine sArgsN ⟨F.gh, ?_⟩
      have edp : ((depth : Nat) : Int) + 1 = ((depth + 1 : Nat) : Int) := by push_cast; rfl
      rw [edp]
      refine hv F.gh (R'.mono (by omega)) (fo _ _ F.fr.keep F.fr.ns) hv' (okL_all ok d hmem) (by have := spell_mem hmem; omega) (by omega) (fun hfit h' t tk' st => ?_) (fun hno e h' tk' X => ?_)
      · refine ⟨h', tk', rfl, ⟨F.stays st, vl.stays st, ?_, ?_⟩, Keep.stays st⟩
        · rw [List.take_add_one, hd, Array.toList_push]
          simp only [Option.toList_some, List.map_append, List.map_cons, List.map_nil]
          exact BytesAre.snoc hb
        · intro x hx
          rw [List.take_add_one, hd] at hx
          rcases List.mem_append.mp hx with hx | hx
          · exact hf x hx
          · simp at hx; subst hx; exact hfit
      · exact ⟨e, h, _, _, _, rfl, fr, X, F.fr.keep, F.fr.ns, hns, rfl, fun z => hno (fitsL_all (by rw [fits] at z; exact z) d hmem)⟩
    · rintro C e s' ⟨e', hc, m, mC, en, rfl, fre, X, st, hnL, hnC, es, hno⟩ nC
      obtain rfl := (List.cons.inj (Option.some.inj (fr.symm.trans fre))).1
      refine comp_err (m := m) (fr) rfl rfl X st F₄.new hnC (noneE C nC).1 (fun b hb z => ?_) fun h'' H => ?_
      · subst z
        obtain ⟨en, he, hfe⟩ := List.mem_filterMap.mp hb
        rcases List.mem_cons.mp he with rfl | he
        · cases hfe
          obtain ⟨o, es, ep, ho, _⟩ := F₄.fr.ns
          rw [nC] at ho; cases ho
        · obtain ⟨o, ho⟩ := frs_get O.fn b (List.mem_filterMap.mpr ⟨en, he, hfe⟩)
          have := F₄.fr.keep _ _ ho
          rw [nC] at this; cases this
      · rw [es]
        exact c3 hno e' h'' _ H
    · rintro h tk ys acc ⟨F, vl, hb, hf⟩ ha nacc
      rw [List.take_of_length_le (by omega)] at hb hf
      have hfit : fits (n + 1) (.tup dl) := by rw [fits]; exact fitsL_mem hf
      refine sArgsN (ofAny ?_)
      refine call_join ha hb (by rw [spellL_sum]; omega) fun t₇ k₇ => ?_
      rw [spellL_join, Array.empty_append]
      refine KBy.add_bytes (by rw [Array.size_append, List.size_toArray, List.size_toArray, List.size_toArray, figs_len]; show 1 + _ + _ ≤ _; omega) fun t₆ k₆ => ?_
      have := hQ hfit h t₆ k₆ F.fr.keep
      rw [spell] at this
      simpa using this
theorem spec_octets (w : World) (prog : Program) : ∀ n, SV w prog n
  | 0 => spec_value_octets fun n' e => absurd e (by omega)
  | n + 1 => spec_value_octets fun n' e => by
    obtain rfl : n = n' := by omega
    exact spec_octets w prog n
theorem sTryExcept {prog : Program} {w : World} {A : Around} {E : Value → Shared → Prop} {s : Shared} {env : Env} {body orelse : List Stmt} {h₀ : ExceptHandler} {hs : List ExceptHandler} {pos : Pos} {Q : Flow → Shared → Prop}
    (h : wpS (model prog w) A (execs body env) (fun f s₁ => match f with | .next => wpS (model prog w) A (execs orelse env) Q E s₁ | f => Q f s₁)
      (fun e s₁ => wpAny (model prog w) A (noteFrame e env) (fun _ s₂ => wpAny (model prog w) A (setFlight e none) (fun _ s₃ => wpAny (model prog w) A (handleBy e env (h₀ :: hs)) Q E s₃) E s₂) E s₁) s) :
    wpS (model prog w) A (exec (.Try body (h₀ :: hs) orelse [] pos) env) Q E s := by
  rw [arm_exec_Try]
  refine sAt ?_
  unfold tryStmt
  simp only [List.isEmpty_nil, if_true, List.isEmpty_cons, Bool.false_and, Bool.false_eq_true, if_false]
  refine sBind (sAttempt (sMono h (fun f s₁ h₁ => ?_) fun e s₁ h₁ => ?_))
  · cases f <;> first | exact h₁ | exact sPure h₁
  · exact ofAny (wpAny_bind (wpAny_mono h₁ (fun _ _ h₂ => wpAny_bind h₂) fun _ _ x => x))

theorem spec_row_octets {w : World} {prog : Program} {A : Around} {E : Value → Shared → Prop} {s : Shared} {Q : Value → Shared → Prop} {l : List Env} {v : Value} {b : Bool} {d : Dat}
    (G : G0 w s.heap) (R : Room A 34) (O : Fok A l s.heap)
    (his : ∀ {A : Around} {E : Value → Shared → Prop} {s' : Shared} {Q : Value → Shared → Prop}, s.heap.StaysIn s'.heap → Room A 1 → (∀ h' tk', s'.heap.StaysIn h' → Q (.bool b) { s' with heap := h', toks := tk' }) → wpAny (model prog w) A (call (.ref 122) [v]) Q E s')
    (hb : b = true → IsV s.heap d v ∧ okD d ∧ (spell d).length ≤ 200000)
    (hQ : b = true ∧ fits 20 d → ∀ h' t tk', s.heap.StaysIn h' → Q (.bytes (spell d).toArray t) { s with heap := h', toks := tk' })
    (hE : ¬ (b = true ∧ fits 20 d) → ∀ e h' tk', Rsd l s.heap e h' → E (.ref e) { s with heap := h', toks := tk' }) :
    wpS (model prog w) A (call (.ref 129) [v]) Q E s := by
  refine callYS (¬ (b = true ∧ fits 20 d)) [(Str.ofString "row", v)] G R O (by exact rfl) (by exact rfl) (by kernel_rfl) (by exact rfl) (by exact rfl) (by decide) hE fun L h₁ tk A' l' E' F k R' fo c1 c2 po => ?_
  refine sCons (sIf (ofAny ?_))
  walk_at "bool"
  refine wpAny_isTrue_value ?_ (by rfl)
  refine callN (f := 122) (by exact rfl) (by exact rfl) (by rfl) (n_is_row F.gh ⟨rfl, ?_⟩)
  walk_at "W"
  refine ⟨F.gh, his k (R'.mono (by omega)) fun h₃ k₃ st₃ => ?_⟩
  have F₃ := F.stays st₃
  clear F
  walk_at "W"
  refine wIteT (fun hn => ?_) (fun hn => ?_)
  · have hb' : b = false := by simpa using hn
    refine sCons (ofAny (wRaise F₃.gh (R'.mono (m := 4) (by omega)) (by rfl) ?_))
    walk_at "W"
    exact ⟨F₃.gh, ⟨_, .inl rfl⟩, fun h' e tk X => c2 (fun z => by rw [hb'] at z; cases z.1) _ _ e h' tk F₃.fr.keep F₃.fr.ns X⟩
  · have hb' : b = true := by simpa using hn
    obtain ⟨x, ok, hz⟩ := hb hb'
    refine sNil (sCons (sRet ?_))
    refine sCallN (f := 94) (by exact rfl) (by exact rfl) (by rfl) (n_value_octets F₃.gh ⟨rfl, sArgsC (by exact rfl) (ofAny ?_)⟩)
    walk_at "W"
    refine sArgsC (by exact rfl) (ofAny ?_)
    walk_at "W"
    refine sArgsN ⟨F₃.gh, ?_⟩
    refine spec_octets w prog 20 (depth := 1) F₃.gh (R'.mono (by omega)) (fo _ _ F₃.fr.keep F₃.fr.ns) (x.stays F₃.fr.keep) ok hz (by omega) (fun hf h' t tk' st => ?_) (fun hf e h' tk' X => ?_)
    · exact hQ ⟨hb', hf⟩ _ _ _ (F₃.stays st).fr.keep
    · exact c1 (fun z => hf z.2) _ _ _ _ _ F₃.fr.keep F₃.fr.ns X

theorem spec_written {w : World} {prog : Program} {A : Around} {E : Value → Shared → Prop} {s : Shared} {Q : Value → Shared → Prop} {l : List Env} {v : Value} {b : Bool} {d : Dat} {hB : Heap}
    (B : Base w l hB s.heap) (R : Room A 36) (O : Fok A l s.heap)
    (his : ∀ {A : Around} {E : Value → Shared → Prop} {s' : Shared} {Q : Value → Shared → Prop}, s.heap.StaysIn s'.heap → Room A 1 → (∀ h' tk', s'.heap.StaysIn h' → Q (.bool b) { s' with heap := h', toks := tk' }) → wpAny (model prog w) A (call (.ref 122) [v]) Q E s')
    (hb : b = true → IsV s.heap d v ∧ okD d ∧ (spell d).length ≤ 200000)
    (hQ : ∀ h' r tk', s.heap.UpToSlots h' → hB.StaysIn h' → ((b = true ∧ fits 20 d ∧ ∃ t, r = .bytes (spell d).toArray t) ∨ (¬ (b = true ∧ fits 20 d) ∧ r = .none)) → Q r { s with heap := h', toks := tk' }) :
    wpS (model prog w) A (call (.ref 206) [v]) Q E s := by
  have G := B.g.keeps B.st
  refine callFS [(Str.ofString "row", v)] G (R.mono (m := 36) (by omega)) (by exact rfl) (by exact rfl) (by kernel_rfl) (by exact rfl) (by exact rfl) (by decide) fun L h₁ tk F k R' => ?_
  refine sCons (sTryExcept ?_)
  refine sCons (sRet ?_)
  refine sCallN (f := 129) (by exact rfl) (by exact rfl) (by rfl) (n_row_octets F.gh ⟨rfl, sArgsC (by exact rfl) (ofAny ?_)⟩)
  walk_at "W"
  refine sArgsN ⟨F.gh, ?_⟩
  refine spec_row_octets (d := d) (b := b) F.gh (R'.mono (by omega)) (frames_in rfl rfl O k F.fr.ns F.new) (fun st => his fun b o q => st b o (k b o q)) (fun z => ⟨(hb z).1.stays k, (hb z).2⟩) (fun hf h' t tk' st => ?_) (fun hf e h' tk' X => ?_)
  · exact hQ _ _ _ (.of_keeps fun b o q => st b o (k b o q)) (fun b o q => st b o (k b o (B.st b o q))) (.inl ⟨hf.1, hf.2, _, rfl⟩)
  · refine caught (Around.frames_deeper O.fr) rfl X B.g (fun b o q => k b o (B.st b o q)) (fun a ha => ?_) (fun h'' u1 u2 => ?_) rfl rfl rfl
    · obtain ⟨env', he, hfe⟩ := List.mem_filterMap.mp ha
      rcases List.mem_cons.mp he with rfl | he
      · cases hfe
        exact get_none_of_stays B.st F.new
      · exact B.no a (List.mem_filterMap.mpr ⟨env', he, hfe⟩)
    · walk_at "W"
      exact hQ _ _ _ (((Heap.UpToSlots.of_keeps k).trans X.2).trans u1) u2 (.inr ⟨hf, rfl⟩)
noncomputable abbrev hid (h : Heap) (B : Addr) : Heap := hideAll h [B]
theorem hid_none {h : Heap} {B : Addr} : (hid h B).get? B = none := hideAll_none _ (.head _)
theorem hid_get {h : Heap} {B b : Addr} {o : Obj} (n : b ≠ B) (e : h.get? b = some o) : (hid h B).get? b = some o := hideAll_get _ e (by simpa using n)
theorem FS.hid {w : World} {hB hE hR h : Heap} {L B : Addr} {l : List (Str × Value)} (F : FS w hE L l hR h) (GB : G0 w hB) (st : hB.StaysIn hE) (nB : hB.get? B = none) (BL : B ≠ L) : FS w (hid hE B) L l (hid hR B) h := by
  refine ⟨GB.keeps fun b o e => hid_get (fun z => by rw [z, nB] at e; cases e) (st b o e), ⟨F.fr.ns, fun b o e => F.fr.keep b o (of_hideAll _ e), by rw [hideAll_size]; exact F.fr.above⟩, fun b o hb e => F.ext b o hb (of_hideAll _ e), ?_⟩
  obtain ⟨m, o, es, ep, ho, r⟩ := F.nsR
  exact ⟨m, o, es, ep, hid_get BL.symm ho, r⟩
section
variable {prog : Program} {w : World} {A : Around} {E : Value → Shared → Prop} {s : Shared}
theorem item_lst {value slice : Expr} {l : Addr} {items : Array Value} {k : Nat} {u : Tok} {x : Value} {Q : Value → Shared → Prop} (hl : s.heap.IsList l items) (hk : k < 1000000) (hx : items[k]? = some x) (h : Q x s)
    (hs : subscripted slice false (.ref l) (.int (k : Nat) u) = operate [.ref l, .int (k : Nat) u] (getItem (.ref l) (.int (k : Nat) u))) (ht : ∀ r, letTemporaryGo value (.ref l) r = pure ()) :
    wpAny (model prog w) A (subscriptTail value slice (.ref l) (.int (k : Nat) u)) Q E s :=
  subscriptTail_builtin hl.typeIs slot_list_getitem.lookup (wpAny_getItem_list hl (by omega) (by omega) (by simpa using hx) h) hs ht
theorem item_lstT {value slice : Expr} {l : Addr} {items : Array Value} {k : Nat} {u : Tok} {x : Value} {Q : Value → Shared → Prop} (hl : s.heap.IsList l items) (hk : k < 1000000) (hx : items[k]? = some x) (h : Q x s)
    (hs : subscripted slice false (.ref l) (.int (k : Nat) u) = operate [.ref l, .int (k : Nat) u] (getItem (.ref l) (.int (k : Nat) u))) :
    wpAny (model prog w) A (subscriptTail value slice (.ref l) (.int (k : Nat) u)) Q E s := by
  have hT : s.TypeIs (.ref l) "list" := hl.typeIs
  unfold subscriptTail
  refine wpAny_bind ?_
  rw [getitemInPython_of_ne hT.not_modules]
  refine wpAny_bind (wpAny_specialOf hT slot_list_getitem.lookup ?_)
  have fin : wpAny (model prog w) A (subscripted slice false (.ref l) (.int (k : Nat) u)) (fun r s₃ => wpAny (model prog w) A (letTemporaryGo value (.ref l) r >>= fun _ => pure r) Q E s₃) E s := by
    rw [hs]
    exact wpAny_operating (wpAny_mono (wpAny_getItem_list (Q := Q) hl (by omega) (by omega) (by simpa using hx) h) (fun r s₃ h₃ => wpAny_bind (wpAny_letTemporaryGo (wpAny_pure h₃))) fun _ _ x => x)
  first
    | exact wpAny_pure (wpAny_bind fin)
    | exact wpAny_bind (wpAny_pure (wpAny_bind fin))
    | exact wpAny_bind fin
theorem IsLst.ebut {h h' : Heap} {a b : Addr} {items : Array Value} (x : h.IsList a items) (n : a ≠ b) (k : Heap.ExtBut b h h') : h'.IsList a items := x.extBut k n
end
/-- the box of the draws, its cells' list at c; P: no more draws than these -/
def Box (h : Heap) (B c : Addr) (P : Nat) : Prop :=
  ∃ vs cells g tg st ts p tp, h.IsList B #[.ref c, .int g tg, .int st ts, .int (p : Nat) tp] ∧ h.IsList c (List.toArray vs) ∧ IntsAre vs cells ∧ c ≠ B ∧ cells.length ≤ 48 ∧ 0 ≤ g ∧ p ≤ P
theorem Box.ebut {h h' : Heap} {B c b : Addr} {P : Nat} (x : Box h B c P) (k : Heap.ExtBut b h h') (n1 : B ≠ b) (n2 : c ≠ b) : Box h' B c P := by
  obtain ⟨vs, cells, g, tg, st, ts, p, tp, h1, h2, h3, h4, h5, h6, h7⟩ := x
  exact ⟨vs, cells, g, tg, st, ts, p, tp, h1.extBut k n1, h2.extBut k n2, h3, h4, h5, h6, h7⟩
theorem Box.stays {h h' : Heap} {B c : Addr} {P : Nat} (x : Box h B c P) (k : h.StaysIn h') : Box h' B c P := by
  obtain ⟨vs, cells, g, tg, st, ts, p, tp, h1, h2, h3, h4, h5, h6, h7⟩ := x
  exact ⟨vs, cells, g, tg, st, ts, p, tp, let ⟨o, ho, r⟩ := h1; ⟨o, k _ _ ho, r⟩, let ⟨o, ho, r⟩ := h2; ⟨o, k _ _ ho, r⟩, h3, h4, h5, h6, h7⟩
theorem Box.mono {h : Heap} {B c : Addr} {P P' : Nat} (x : Box h B c P) (k : P ≤ P') : Box h B c P' := by
  obtain ⟨vs, cells, g, tg, st, ts, p, tp, h1, h2, h3, h4, h5, h6, h7⟩ := x
  exact ⟨vs, cells, g, tg, st, ts, p, tp, h1, h2, h3, h4, h5, h6, by omega⟩
theorem Box.get {h : Heap} {B c : Addr} {P : Nat} (x : Box h B c P) : ∃ o, h.get? B = some o := by
  obtain ⟨vs, cells, g, tg, st, ts, p, tp, ⟨o, ho, _⟩, _⟩ := x
  exact ⟨o, ho⟩
theorem Box.getc {h : Heap} {B c : Addr} {P : Nat} (x : Box h B c P) : ∃ o, h.get? c = some o := by
  obtain ⟨vs, cells, g, tg, st, ts, p, tp, _, ⟨o, ho, _⟩, _⟩ := x
  exact ⟨o, ho⟩
theorem Box.noTup {h : Heap} {B c : Addr} {P : Nat} (x : Box h B c P) : ∀ items, ¬ IsTup h B items := by
  obtain ⟨vs, cells, g, tg, st, ts, p, tp, ⟨o, ho, hc, _⟩, _⟩ := x
  exact noTup_cls ho (by rw [hc]; simp)
theorem noList_ns {h : Heap} {b : Addr} {m : Str → Option Value} (e : h.Ns b m) : ∀ items, ¬ h.IsList b items := fun _ ⟨o', e', _, n, hd⟩ => by
  obtain ⟨o, es, ep, ho, hd', _⟩ := e
  rw [ho] at e'; cases e'
  rw [hd'] at hd; cases hd

theorem fmod_ex (z k : Int) (hk : 0 < k) : ∃ m : Nat, z.fmod k = (m : Int) ∧ (m : Int) < k := by
  have a := Int.fmod_nonneg_of_pos z hk
  have b := Int.fmod_lt_of_pos z hk
  exact ⟨(z.fmod k).toNat, (Int.toNat_of_nonneg a).symm, by rw [Int.toNat_of_nonneg a]; exact b⟩
theorem big_pos : (0 : Int) < 2147483647 := by omega
theorem mod_any {prog : Program} {w : World} {A : Around} {E : Value → Shared → Prop} {s : Shared} {a b : Int} {t u : Tok} {Q : Value → Shared → Prop} (hb : 0 < b)
    (h : ∀ m : Nat, (m : Int) < b → Q (.int (m : Nat) s.toks) { s with toks := s.toks + 1 }) : wpAny (model prog w) A (binaryOp .Mod (.int a t) (.int b u)) Q E s := by
  refine mod_int' (by omega) ?_
  refine Exists.elim (fmod_ex a b hb) fun m hm => ?_
  rw [hm.1]
  exact h m hm.2
theorem spec_law_draw {w : World} {prog : Program} {A : Around} {E : Value → Shared → Prop} {s : Shared} {Q : Value → Shared → Prop} {hB : Heap} {B c : Addr} {P lim : Nat} {tl : Tok}
    (GB : G0 w hB) (st : hB.StaysIn s.heap) (nB : hB.get? B = none) (R : Room A 4) (bx : Box s.heap B c P) (hP : P ≤ 100000) (h0 : 0 < lim) (hl : lim ≤ 10 ^ 100)
    (hQ : ∀ h' r t tk', r < lim → Heap.ExtBut B s.heap h' → Box h' B c (P + 1) → Q (.int (r : Nat) t) { s with heap := h', toks := tk' }) :
    wpAny (model prog w) A (call (.ref 148) [.ref B, .int (lim : Nat) tl]) Q E s := by
  refine callR [(Str.ofString "box", .ref B), (Str.ofString "limit", .int (lim : Nat) tl)] (GB.keeps st) R (by exact rfl) (by exact rfl) (by kernel_rfl) (by exact rfl) (by exact rfl) (by decide) fun L h₁ tk A' F₀ k R' => ?_
  have BL : B ≠ L := fun z => by
    obtain ⟨o, ho⟩ := bx.get
    have := F₀.new
    rw [← z, ho] at this; cases this
  have F := F₀.hid GB st nB BL
  have bx₁ := bx.stays k
  clear F₀
  have hlim : ((lim : Nat) : Int) ≠ 0 := by omega
  have hlog : Builtin.divisionGoesByPylong = Builtin.divisionGoesByPylong := rfl
  obtain ⟨vs, cells, g, tg, sv, ts, p, tp, h1, h2, h3, h4, h5, h6, h7⟩ := bx₁
  have cL : c ≠ L := fun z => noList_ns F.fr.ns _ (z ▸ h2)
  have fin : ∀ h' g' tg' sv' ts' tp', h'.IsList B #[.ref c, .int g' tg', .int sv' ts', .int ((p + 1 : Nat) : Int) tp'] → h'.IsList c (List.toArray vs) → 0 ≤ g' → Box h' B c (P + 1) := fun h' g' tg' sv' ts' tp' a b d => ⟨vs, cells, g', tg', sv', ts', p + 1, tp', a, b, h3, h4, h5, d, by omega⟩
  have hitem : p < vs.length → ∃ nv tv, vs[p]? = some (.int nv tv) := fun hlt => by
    obtain ⟨xv, hx⟩ : ∃ xv, vs[p]? = some xv := ⟨_, List.getElem?_eq_getElem hlt⟩
    obtain ⟨nv, tv, rfl, hn⟩ := IntsAre.at h3 p xv hx
    exact ⟨nv, tv, hx⟩
  have done : ∀ {h' : Heap} {lo : List (Str × Value)}, FS w (hid s.heap B) L lo (hid h₁ B) h' → Heap.ExtBut B s.heap h' := fun F b o hb e => F.fr.keep b o (hid_get hb e)
  walk_at "W"
  walk_at "sub"
  refine item_lst (k := 3) (x := .int (p : Nat) tp) h1 (by omega) rfl ?_ (by rfl) (by intro _; rfl)
  walk_at "st"
  intro h₂ k₂ F₂ b₂
  have h1₂ := h1.extBut b₂.extBut BL
  have h2₂ := h2.extBut b₂.extBut cL
  clear F h1 h2 b₂
  refine wpAny_execs_cons (wpAny_Assign_Subscript ?_ (by rfl))
  walk_at "W"
  refine wpAny_setItem_list h1₂ (by omega) (by omega) (by simp) fun h₃ h1₃ b₃ => ?_
  have F₃ := F₂.but hid_none hid_none b₃
  have h2₃ := h2₂.extBut b₃.extBut h4
  have e1 : (#[Value.ref c, .int g tg, .int sv ts, .int (p : Nat) tp].setIfInBounds (3 : Int).toNat (.int ((p : Int) + 1) k₂)) = #[Value.ref c, .int g tg, .int sv ts, .int ((p + 1 : Nat) : Int) k₂] := by
    have : ((p : Nat) : Int) + 1 = ((p + 1 : Nat) : Int) := by push_cast; rfl
    rw [this]; rfl
  have h1' : ∃ t', h₃.IsList B #[Value.ref c, .int g tg, .int sv ts, .int ((p + 1 : Nat) : Int) t'] := by
    have ee : ((p : Nat) : Int) + 1 = ((p + 1 : Nat) : Int) := by push_cast; rfl
    rw [ee] at h1₃
    exact ⟨_, h1₃⟩
  obtain ⟨t3, h1'⟩ := h1'
  clear F₂ h1₂ h2₂ h1₃ b₃ e1
  walk_at "W"
  walk_at "sub"
  refine item_lst (k := 1) (x := .int g tg) h1' (by omega) rfl ?_ (by rfl) (by intro _; rfl)
  walk_at "W"
  refine wIteT (fun hg => ?_) (fun hg => ?_)
  · walk_at "W"
    walk_at "sub"
    refine item_lst (k := 1) (x := .int g tg) h1' (by omega) rfl ?_ (by rfl) (by intro _; rfl)
    walk_at "W"
    refine mod_int' hlim ?_
    walk_at "st"
    intro h₄ k₄ F₄ b₄
    have h1₄ := h1'.extBut b₄.extBut BL
    have h2₄ := h2₃.extBut b₄.extBut cL
    clear F₃ h1' h2₃
    refine wpAny_execs_cons (wpAny_Assign_Subscript ?_ (by rfl))
    refine wpAny_BinOp ?_
    walk_at "sub"
    refine item_lst (k := 1) (x := .int g tg) h1₄ (by omega) rfl ?_ (by rfl) (by intro _; rfl)
    walk_at "W"
    refine floordiv_int hlim ?_ (.inl (PyProof.noPylong_of_log2 ?_))
    · walk_at "W"
      refine wpAny_setItem_list h1₄ (by omega) (by omega) (by simp) fun h₅ h1₅ b₅ => ?_
      have F₅ := F₄.but hid_none hid_none b₅
      have h2₅ := h2₄.extBut b₅.extBut h4
      walk_at "W"
      have hr : (g.fmod (lim : Int)) = ((g.fmod (lim : Int)).toNat : Int) ∧ (g.fmod (lim : Int)).toNat < lim := by
        have a := Int.fmod_nonneg_of_pos g (show (0 : Int) < lim by omega)
        have b := Int.fmod_lt_of_pos g (show (0 : Int) < lim by omega)
        omega
      have := hQ h₅ (g.fmod (lim : Int)).toNat
      rw [← hr.1] at this
      refine this _ _ hr.2 (done F₅) (fin _ (g.fdiv lim) _ sv ts t3 h1₅ h2₅ ?_)
      exact Int.fdiv_nonneg h6 (by omega)
    · rw [Int.natAbs_natCast]
      exact (Nat.log2_lt (by omega)).mpr (Nat.lt_of_le_of_lt hl (by decide +kernel))
  walk_at "W"
  refine wpAny_Assign_Subscript ?_ (by rfl)
  --d1
  with_reducible refine wpAny_BinOp ?_
  with_reducible refine wpAny_BinOp ?_
  with_reducible refine wpAny_BinOp ?_
  with_reducible refine wpAny_BinOp ?_
  --d2
  walk_at "sub"
  refine item_lst (k := 2) (x := .int sv ts) h1' (by omega) rfl ?_ (by rfl) (by intro _; rfl)
  --d3
  walk_at "W"
  --d4
  walk_at "mulR"
  --d5
  walk_at "W"
  ((with_reducible refine mul_int ?_ ?hm); (case hm => exact .of_right (natAbs_small (by omega))))
  walk_at "W"
  --d6
  refine mod_any big_pos fun m hm => ?_
  --d7
  walk_at "W"
  refine wpAny_setItem_list h1' (by omega) (by omega) (by simp) fun h₅ h1₅ b₅ => ?_
  have F₅ := F₃.but hid_none hid_none b₅
  have h2₅ := h2₃.extBut b₅.extBut h4
  clear F₃ h1' h2₃
  walk_at "W"
  walk_at "len"
  walk_at "sub"
  refine item_lst (k := 0) (x := .ref c) h1₅ (by omega) rfl ?_ (by rfl) (by intro _; rfl)
  walk_at "W"
  have hvl : vs.length = cells.length := h3.length
  refine call_len_list h2₅ (by rw [List.size_toArray]; omega) ?_
  walk_at "W"
  have fin5 := fin h₅ g tg (m : Nat) _ t3 h1₅ h2₅ h6
  refine wIteT (fun hlt => ?_) (fun hlt => ?_)
  · have hlt : p < vs.length := by have := of_decide_eq_true hlt; simp at this; omega
    refine Exists.elim (hitem hlt) fun nv hnv => Exists.elim hnv fun tv hx => ?_
    clear hnv
    walk_at "W"
    refine Subscript_ ?_
    walk_at "sub"
    refine item_lst (k := 0) (x := .ref c) h1₅ (by omega) rfl ?_ (by rfl) (by intro _; rfl)
    walk_at "W"
    refine item_lstT (k := p) (x := .int nv tv) h2₅ (by omega) (by simpa using hx) ?_ (by rfl)
    walk_at "W"
    refine mod_any (by omega) fun r hr => ?_
    exact hQ h₅ r _ _ (by omega) (done F₅) fin5
  --g9
  · walk_at "W"
    walk_at "sub"
    refine item_lst (k := 2) (x := .int (m : Nat) _) h1₅ (by omega) rfl ?_ (by rfl) (by intro _; rfl)
    walk_at "W"
    walk_at "divc"
    walk_at "W"
    --g0
    refine pow_int_small (by omega) (by omega) ?_ ?_
    · have : (m : Int).fdiv 3 = ((m / 3 : Nat) : Int) := by rw [Int.fdiv_eq_ediv_of_nonneg _ (by omega)]; omega
      rw [this, Int.natAbs_natCast]
      omega
    walk_at "W"
    --g1
    refine mod_any (by omega) fun r hr => ?_
    exact hQ h₅ r _ _ (by omega) (done F₅) fin5
section
variable {prog : Program} {w : World} {A : Around} {E : Value → Shared → Prop} {s : Shared}
theorem add_lst {l b : Addr} {vs ws : List Value} {Q : Value → Shared → Prop} (hl : s.heap.IsList l vs.toArray) (hb : s.heap.IsList b ws.toArray)
    (h : ∀ h' c, s.heap.get? c = none → s.heap.StaysIn h' → h'.PlainList c (vs ++ ws).toArray → Q (.ref c) { s with heap := h' })
    (hsz : vs.length + ws.length ≤ sizeLine) : wpAny (model prog w) A (binaryOp .Add (.ref l) (.ref b)) Q E s := by
  obtain ⟨⟨cls, dd, data, sl⟩, ho, hc, n, hd⟩ := id hl
  obtain ⟨⟨cls2, dd2, data2, sl2⟩, ho2, hc2, n2, hd2⟩ := id hb
  simp only at hc hd hc2 hd2
  subst hc hd hc2 hd2
  have e : vs.toArray ++ ws.toArray = (vs ++ ws).toArray := by simp
  refine concat_meets ⟨_, ho, rfl⟩ ⟨_, ho2, rfl⟩ noFill_list_add seq_list_add PySem.F.slot_list_add PySem.F.entry_list_add (PySem.F.args_list_add_2 _ _) (list_addW l b vs.toArray ws.toArray n n2 dd dd2 sl sl2 (by simpa using hsz)) ⟨ho, ho2, ?_⟩
  rw [e]
  exact h _ _ (Heap.get?_none_of_le (Nat.le_refl _)) (fun b o e => Heap.get?_push_of_some _ e) ⟨0, Heap.get?_push_size _ rfl⟩
theorem slice_lst {value slice : Expr} {l : Addr} {items : Array Value} {vl vu : Value} {lo hi : Option Int} {ops : List Value} {Q : Value → Shared → Prop}
    (hl : s.heap.IsList l items) (pl : IsPart vl lo) (pu : IsPart vu hi)
    (h : ∀ h' c, s.heap.get? c = none → s.heap.StaysIn h' → h'.PlainList c (slicePick items lo hi none) → Q (.ref c) { s with heap := h' })
    (hs : subscripted slice false (.ref l) (.ref s.heap.objs.size) = operate ops (getItem (.ref l) (.ref s.heap.objs.size)))
    (ht : ∀ r, letTemporaryGo value (.ref l) r = pure ()) (hsz : items.size ≤ sizeLine) :
    wpAny (model prog w) A (subscriptTail value slice (.ref l) (.ref s.heap.objs.size)) Q E { s with heap := s.heap.push { cls := .type "slice", data := .fields #[vl, vu, .none] } } := by
  refine subscriptTail_ops (Heap.IsList.typeIs (s := { s with heap := s.heap.push { cls := .type "slice", data := .fields #[vl, vu, .none] } }) (hl.push _)) list_getitem_lookup
    (wpAny_getItem_list_slice (hl.push _) (Heap.IsSliceOf.new ..) pl pu .none (by simp) ?_ hsz) hs ht
  refine h _ _ ?_ (fun b o e => Heap.get?_push_of_some _ (Heap.get?_push_of_some _ e)) ⟨0, Heap.get?_push_size _ rfl⟩
  exact Heap.get?_none_of_le (by rw [Heap.size_push]; omega)
end
noncomputable abbrev natI (l : List Nat) : List Int := l.map fun (x : Nat) => (x : Int)
theorem list_new {M : Model} {A : Around} {E : Value → Shared → Prop} {s : Shared} {env : Env} {elts : List Expr} {pos : Pos} {Q : Value → Shared → Prop}
    (h : wpAny M A (spliced (backTo pos (starEach elts env))) (fun vs s₁ => vs.length ≤ sizeLine ∧ ∀ h' c, s₁.heap.get? c = none → s₁.heap.StaysIn h' → h'.PlainList c vs.toArray → Q (.ref c) { s₁ with heap := h' }) E s) : wpAny M A (eval (.List elts pos) env) Q E s :=
  wpAny_List (wpAny_mono h (fun vs s₁ h₁ => ⟨h₁.1, h₁.2 _ _ (Heap.get?_none_of_le (Nat.le_refl _)) (fun b o e => Heap.get?_push_of_some _ e) ⟨0, Heap.get?_push_size _ rfl⟩⟩) fun _ _ x => x)
theorem ns_ne {h : Heap} {L c : Addr} {m : Str → Option Value} (e : h.Ns L m) (n : h.get? c = none) : c ≠ L := fun z => by
  obtain ⟨o, es, ep, ho, _⟩ := e
  rw [← z, n] at ho; cases ho
theorem natI_append (a b : List Nat) : natI (a ++ b) = natI a ++ natI b := by simp [natI]

theorem bounds_init (n : Nat) : sliceBounds none (some (-1)) none (n + 1) = sliceBounds (some ((0 : Nat) : Int)) (some (n : Int)) none (n + 1) := by
  simp only [sliceBounds, Option.getD_none]
  simp
  rw [show (-1 : Int) + ((n : Int) + 1) = n by omega, if_neg (by omega), Int.min_eq_left (by omega)]
  exact ⟨rfl, rfl⟩
theorem bounds_last (n : Nat) : sliceBounds (some (-1)) none none (n + 1) = sliceBounds (some (n : Int)) none none (n + 1) := by
  simp only [sliceBounds, Option.getD_none]
  simp
  rw [show (-1 : Int) + ((n : Int) + 1) = n by omega, if_neg (by omega)]
theorem pick_init (items : Array Value) (h : 0 < items.size) : slicePick items none (some (-1)) none = items.toList.dropLast.toArray := by
  have e := bounds_init (items.size - 1)
  rw [Nat.sub_add_cancel h] at e
  have := slicePick_run items 0 (items.size - 1) (by omega) (by omega)
  unfold slicePick at this ⊢
  rw [e, this, List.drop_zero, List.dropLast_eq_take]
  simp
theorem pick_last (items : Array Value) (h : 0 < items.size) : slicePick items (some (-1)) none none = (items.toList.drop (items.size - 1)).toArray := by
  have e := bounds_last (items.size - 1)
  rw [Nat.sub_add_cancel h] at e
  have := slicePick_from items (items.size - 1) (by omega)
  unfold slicePick at this ⊢
  rw [e, this]
theorem drop_last {α : Type} {l : List α} (h : l ≠ []) : l.drop (l.length - 1) = [l.getLast h] := by
  have e := List.dropLast_concat_getLast h
  have hl : l.length - 1 = l.dropLast.length := by simp
  rw [hl]
  have := List.drop_left (l₁ := l.dropLast) (l₂ := [l.getLast h])
  rw [e] at this
  exact this
theorem IntsAre.dropLast' {vs : List Value} {ns : List Int} (h : IntsAre vs ns) : IntsAre vs.dropLast ns.dropLast := by
  induction h with
  | nil => exact .nil
  | cons n t r ih => cases r with
    | nil => exact .nil
    | cons n' t' r => exact .cons n t ih
theorem IntsAre.drop' : ∀ {vs : List Value} {ns : List Int} (k : Nat), IntsAre vs ns → IntsAre (vs.drop k) (ns.drop k)
  | _, _, 0, h => h
  | _, _, _ + 1, .nil => .nil
  | _, _, k + 1, .cons _ _ r => IntsAre.drop' k r
theorem ints_bytes (n : Nat) : byteArr ((natI (digs n)).dropLast.map (fun x => 128 + x) ++ (natI (digs n)).drop ((digs n).length - 1)) = (figs n).toArray := by
  have hne := digs_ne n
  rw [figs_digs n]
  have e1 : (natI (digs n)).drop ((digs n).length - 1) = [((digs n).getLast hne : Int)] := by
    rw [natI, ← List.map_drop, drop_last hne]; rfl
  have e2 : (natI (digs n)).dropLast = (digs n).dropLast.map fun (x : Nat) => (x : Int) := by rw [natI, List.map_dropLast]
  rw [e1, e2]
  unfold byteArr
  congr 1
  rw [List.map_append, List.map_map, List.map_map]
  congr 1
inductive FgA (w : World) (s : Shared) (L : Addr) (h₁ : Heap) (n : Nat) (t : Tok) (m : Nat) (s' : Shared) : Prop where
  | mk (pre : List Nat) (vs : List Value) (c : Addr) (h' : Heap) (tk' : Nat) (tr : Tok) (e1 : pre ++ rdig m = digs n) (e : s' = { s with heap := h', toks := tk' }) (hl : h'.PlainList c (List.toArray vs)) (hi : IntsAre vs (natI pre))
      (F : FS w s.heap L [(Str.ofString "number", .int n t), (Str.ofString "found", .ref c), (Str.ofString "rest", .int (m : Nat) tr)] h₁ h') : FgA w s L h₁ n t m s'
inductive FgB (w : World) (s : Shared) (L : Addr) (h₁ : Heap) (n : Nat) (t : Tok) (s' : Shared) : Prop where
  | mk (vs : List Value) (c : Addr) (h' : Heap) (tk' : Nat) (tr : Value) (e : s' = { s with heap := h', toks := tk' }) (hl : h'.PlainList c (List.toArray vs)) (hi : IntsAre vs (natI (digs n)))
      (F : FS w s.heap L [(Str.ofString "number", .int n t), (Str.ofString "found", .ref c), (Str.ofString "rest", tr)] h₁ h') : FgB w s L h₁ n t s'
theorem spec_law_figures {w : World} {prog : Program} {A : Around} {E : Value → Shared → Prop} {s : Shared} {Q : Value → Shared → Prop} {n : Nat} {t : Tok}
    (G : G0 w s.heap) (R : Room A 6) (hz : figN n ≤ 200000) (hQ : ∀ h' t' tk', s.heap.StaysIn h' → Q (.bytes (figs n).toArray t') { s with heap := h', toks := tk' }) :
    wpS (model prog w) A (call (.ref 168) [.int n t]) Q E s := by
  refine callRS [(Str.ofString "number", .int n t)] G R (by exact rfl) (by exact rfl) (by kernel_rfl) (by exact rfl) (by exact rfl) (by decide) fun L h₁ tk A' F k R' => ?_
  have hm : ∀ m : Nat, Int.fmod (m : Int) 128 = ((m % 128 : Nat) : Int) := fun m => by rw [Int.fmod_eq_emod_of_nonneg _ (by omega)]; omega
  have hd : ∀ m : Nat, Int.fdiv (m : Int) 128 = ((m / 128 : Nat) : Int) := fun m => by rw [Int.fdiv_eq_ediv_of_nonneg _ (by omega)]; omega
  refine sCons (sAsg (by rfl) (ofAny (list_new ?_)))
  walk_at "W"
  walk_at "modc"
  rw [hm]
  walk_at "W"
  refine ⟨by show 1 ≤ 16777216; omega, fun h₂ c₂ n₂ st₂ l₂ => ?_⟩
  have F₂ := F.stays st₂
  have c₂L := ns_ne F.fr.ns n₂
  walk_at "st"
  intro h₃ k₃ F₃ b₃
  have l₃ := IsList.but l₂ c₂L b₃
  clear F F₂ l₂ b₃
  refine sCons (sAsg (by rfl) (ofAny ?_))
  walk_at "W"
  walk_at "divc"
  rw [hd]
  walk_at "st"
  intro h₄ k₄ F₄ b₄
  have l₄ := IsList.but l₃ c₂L b₄
  clear F₃ l₃ b₄
  refine sCons (sMono (Q := fun f s' => f = .next ∧ FgB w s L h₁ n t s')
    (ofAny (wpAny_While (codeAny_whileLoop (fun m s' => FgA w s L h₁ n t m s') (fun m s' hI => ?_) (n / 128)
      ⟨[n % 128], _, c₂, h₄, _, _, (digs_step n).symm, rfl, l₄, .cons _ _ .nil, F₄⟩))) (fun f s' hx => ?_) fun _ _ x => x)
  · obtain ⟨pre, vs, c, h', tk', tr, e1, rfl, hl, hi, F⟩ := hI
    have hlen : pre.length + (rdig m).length = figN n := by rw [← digs_len, ← e1, List.length_append]
    have hvl : vs.length = pre.length := by rw [hi.length]; simp [natI]
    walk_at "W"
    refine wIteT (fun hb => ?_) (fun hb => ?_)
    · have hm0 : m ≠ 0 := by have := of_decide_eq_true hb; omega
      have hl1 : 1 ≤ (rdig m).length := by rw [rdig_step hm0]; simp
      walk_at "W"
      refine list_new ?_
      walk_at "W"
      walk_at "modc"
      rw [hm]
      walk_at "W"
      refine ⟨by show 1 ≤ 16777216; omega, fun h₅ c₅ n₅ st₅ l₅ => ?_⟩
      have F₅ := F.stays st₅
      have hl₅ := IsList.stays hl st₅
      refine add_lst hl₅.isList l₅.isList (fun h₆ c₆ n₆ st₆ l₆ => ?_) (by rw [hvl]; show _ + 1 ≤ 16777216; omega)
      have F₆ := F₅.stays st₆
      have c₆L := ns_ne F₅.fr.ns n₆
      clear F F₅
      walk_at "st"
      intro h₇ k₇ F₇ b₇
      have l₇ := IsList.but l₆ c₆L b₇
      walk_at "W"
      walk_at "divc"
      rw [hd]
      walk_at "st"
      intro h₈ k₈ F₈ b₈
      have l₈ := IsList.but l₇ c₆L b₈
      walk_at "W"
      refine ⟨m / 128, by omega, pre ++ [m % 128], _, c₆, h₈, _, _, ?_, rfl, l₈, ?_, F₈⟩
      · rw [← e1, rdig_step hm0]; simp
      · rw [natI_append]
        exact hi.append (.cons _ _ .nil)
    · have hm0 : m = 0 := by have := of_decide_eq_false hb; omega
      subst hm0
      walk_at "W"
      have e2 : pre = digs n := by rw [← e1, rdig, if_pos rfl, List.append_nil]
      rw [e2] at hi
      exact ⟨rfl, vs, c, h', _, _, rfl, hl, hi, F⟩
  · obtain ⟨rfl, vs, c, h', tk', tr, rfl, hl, hi, F⟩ := hx
    clear F₄
    refine sCons (sRet ?_)
    have hvl : vs.length = (digs n).length := by rw [hi.length]; simp [natI]
    have hdl := digs_len n
    have hpos : 0 < vs.length := by rw [hvl]; exact List.length_pos_iff.mpr (digs_ne n)
    refine sCallM (f := .type "bytes") (by rfl) (by rfl) (nb_bytes F.gh ⟨rfl, sArgsC (by exact rfl) (sBin ?_)⟩)
    refine sComp s (cl := []) (fun _ _ _ => False) (by intro _; rfl) (by rfl) (by rfl) (by decide) (by decide) (fun C => by rfl) (by intro _ _; rfl) R'.hd (ofAny ?_)
    walk_at "sub"
    refine wpAny_Slice ?_
    simp only [evalPart_some, evalPart_none]
    refine wpAny_pure ?_
    walk_at "W"
    refine wpAny_pure ?_
    refine slice_lst hl.isList .none (.int _ _) (fun h₅ c₅ n₅ st₅ l₅ => ?_) (by rfl) (by intro _; rfl) (by rw [List.size_toArray]; show _ ≤ 16777216; omega)
    have F₅ := F.stays st₅
    have hl₅ := IsList.stays hl st₅
    rw [pick_init _ (by rw [List.size_toArray]; exact hpos)] at l₅
    have n₅' := n₅
    refine iter_lst l₅.isList fun h₆ it nit st₆ hit => ?_
    have F₆ := F₅.stays st₆
    have l₆ := IsList.stays l₅ st₆
    have hl₆ := IsList.stays hl₅ st₆
    have ait : c₅ ≠ it := fun z => by obtain ⟨o, ho⟩ := l₅; rw [z, nit] at ho; cases ho
    have itL : it ≠ L := ns_ne F₅.fr.ns nit
    have noneE : ∀ b, h₆.get? b = none → s.heap.get? b = none ∧ h₁.get? b = none := fun b hb => by
      refine ⟨get_none_of_stays F₆.fr.keep hb, ?_⟩
      cases q : h₁.get? b with
      | none => rfl
      | some o => exact absurd (F₆.ext _ _ (ns_ne F₆.fr.ns hb) q) (by rw [hb]; simp)
    have itE : s.heap.get? it = none ∧ h₁.get? it = none := by
      refine ⟨get_none_of_stays F₅.fr.keep nit, ?_⟩
      cases q : h₁.get? it with
      | none => rfl
      | some o => exact absurd (F₅.ext _ _ itL q) (by rw [nit]; simp)
    have cit : c ≠ it := fun z => by obtain ⟨o, ho⟩ := hl₅; rw [z, nit] at ho; cases ho
    have hid := IntsAre.dropLast' hi
    have hsz5 : (vs.toArray.toList.dropLast.toArray).size = vs.length - 1 := by simp
    refine ⟨_, _, it, _, _, fun i h ys => FS w s.heap L [(Str.ofString "number", .int n t), (Str.ofString "found", .ref c), (Str.ofString "rest", tr)] h₁ h ∧ h.PlainList c vs.toArray ∧ IntsAre ys.toList (((natI (digs n)).dropLast.take i).map fun x => 128 + x),
      walker_list prog w _ it c₅ ait, rfl, by rw [hsz5]; omega, fun hi hq => wpAny_pyIter_listiter hi.1 hq, rfl, ⟨hit, l₆.isList⟩, ?_, ?_, ?_, ?_, ?_, ?_, ?_⟩
    · intro b hb
      rcases List.mem_cons.mp hb with rfl | hb
      · obtain ⟨o, ho, _⟩ := hit; exact ⟨o, ho⟩
      · obtain rfl : b = c₅ := by simpa using hb
        obtain ⟨o, ho⟩ := l₆; exact ⟨_, ho⟩
    · rintro i h its ⟨⟨o, ho, hc, _⟩, _⟩
      exact noTup_cls ho (by rw [hc]; simp) its
    · intro h' st
      exact ⟨F₆.stays st, IsList.stays hl₆ st, by simpa using IntsAre.nil⟩
    · rintro i h h' ys b ⟨F, hl, hb⟩ hbn nt ke
      have hn : s.heap.get? b = none ∧ h₁.get? b = none := by
        rcases hbn with rfl | hbn
        · exact itE
        · exact noneE b hbn
      have cb : c ≠ b := fun z => by
        rcases hbn with rfl | hbn
        · exact cit z
        · obtain ⟨o, ho⟩ := hl₆; rw [z, hbn] at ho; cases ho
      exact ⟨F.ebut hn.1 hn.2 (.inr ke), IsList.ebut hl cb (.inr ke), hb⟩
    · rintro i v h tk ys acc C m hi' hx ⟨hti, htp⟩ ⟨F, hl, hb⟩ nacc nC ha hns hm hys
      have hx' : vs.dropLast[i]? = some v := by simpa using hx
      obtain ⟨nn, tn, rfl, hn⟩ := IntsAre.at hid i v hx'
      refine ofAny ?_
      walk_at "W"
      refine wpAny_Name (wpAny_loadName_local rfl rfl hns hm ?_) (by decide)
      walk_at "W"
      refine ⟨h, _, rfl, ⟨F, hl, ?_⟩, Keep.stays fun _ _ e => e⟩
      rw [List.take_add_one, hn, Array.toList_push]
      simp only [Option.toList_some, List.map_append, List.map_cons, List.map_nil]
      exact hb.append (.cons _ _ .nil)
    · rintro C e s' h _
      exact h.elim
    · rintro h tk ys acc ⟨F, hl, hb⟩ ha nacc
      rw [hsz5, List.take_of_length_le (by simp [natI]; omega)] at hb
      refine ofAny ?_
      walk_at "sub"
      refine wpAny_Slice ?_
      simp only [evalPart_some, evalPart_none]
      walk_at "W"
      refine wpAny_pure ?_
      refine wpAny_pure ?_
      refine slice_lst hl.isList (.int _ _) .none (fun h₇ c₇ n₇ st₇ l₇ => ?_) (by rfl) (by intro _; rfl) (by rw [List.size_toArray]; show _ ≤ 16777216; omega)
      rw [pick_last _ (by rw [List.size_toArray]; exact hpos)] at l₇
      have F₇ := F.stays st₇
      have ha₇ : h₇.IsList acc (List.toArray ys.toList) := by simpa using (IsList.stays ha st₇).isList
      have hi₇ := IntsAre.drop' (vs.length - 1) hi
      have hys := hb.length
      refine add_lst ha₇ l₇.isList (fun h₈ c₈ n₈ st₈ l₈ => ?_) (by
        have hys' : ys.size = figN n - 1 := by
          have := hys
          simp [natI] at this
          omega
        simp
        rw [hys']
        show _ ≤ 16777216
        omega)
      have F₈ := F₇.stays st₈
      refine sArgsN (ofAny ?_)
      have hall : IntsAre (ys.toList ++ (vs.toArray.toList.drop (vs.toArray.size - 1))) ((natI (digs n)).dropLast.map (fun x => 128 + x) ++ (natI (digs n)).drop ((digs n).length - 1)) := by
        refine hb.append ?_
        have e : vs.toArray.size - 1 = (digs n).length - 1 := by rw [List.size_toArray, hvl]
        rw [e, ← hvl]
        exact hi₇
      refine call_bytes_ints l₈.isList hall (fun x hx => ?_) (by rw [hall.length]; simp [natI]; show _ ≤ 16777216; omega) R'.hd fun h₉ t₉ k₉ st₉ => ?_
      · have hs := digs_small n
        rcases List.mem_append.mp hx with hx | hx
        · obtain ⟨y, hy, rfl⟩ := List.mem_map.mp hx
          obtain ⟨z, hz, rfl⟩ := List.mem_map.mp ((List.dropLast_subset _) hy)
          have := hs z hz
          omega
        · obtain ⟨z, hz, rfl⟩ := List.mem_map.mp (List.mem_of_mem_drop hx)
          have := hs z hz
          omega
      · rw [ints_bytes]
        exact hQ h₉ _ _ (F₈.stays st₉).fr.keep
theorem pureL_all : ∀ {l : List Dat}, pureL l → ∀ d ∈ l, pureD d
  | d :: l, h, x, hx => by
    rw [pureL] at h
    rcases List.mem_cons.mp hx with rfl | hx
    · exact h.1
    · exact pureL_all h.2 x hx
theorem deep_mem : ∀ {l : List Dat} {d : Dat}, d ∈ l → deep d ≤ deepL l
  | d' :: l, d, h => by
    rw [deepL]
    rcases List.mem_cons.mp h with rfl | h
    · omega
    · have := deep_mem h; omega
def SL (w : World) (prog : Program) (n : Nat) : Prop :=
  ∀ {A : Around} {E : Value → Shared → Prop} {s : Shared} {Q : Value → Shared → Prop} {d : Dat} {v : Value},
    G0 w s.heap → Room A (n + 9) → IsV s.heap d v → pureD d → okD d → (spell d).length ≤ 200000 → deep d ≤ n →
    (∀ h' t tk', s.heap.StaysIn h' → Q (.bytes (spell d).toArray t) { s with heap := h', toks := tk' }) →
    wpS (model prog w) A (call (.ref 173) [v]) Q E s
theorem spec_law_spelled {w : World} {prog : Program} {n : Nat} (hv : ∀ n', n = n' + 1 → SL w prog n') : SL w prog n := by
  intro A E s Q d v G R x pu ok hz hdp hQ
  refine callRS [(Str.ofString "value", v)] G R (by exact rfl) (by exact rfl) (by kernel_rfl) (by exact rfl) (by exact rfl) (by decide) fun L h₁ tk A' F k R' => ?_
  have x₁ := x.stays k
  cases d with
  | bad => rw [pureD] at pu; exact pu.elim
  | int i =>
    refine sCons (sIf (ofAny (wpAny_isTrue_value ?_ (by rfl))))
    walk_at "isi"
    refine nb_int F.gh ?_
    walk_at "W"
    refine isi_int x₁ (fun z => by cases z) fun k₂ => ?_
    walk_at "W"
    refine wIteT (fun _ => ?_) (fun z => absurd z.symm Bool.false_ne_true)
    refine sCons (sRet (sBin (ofAny (Constant_bytes ?_))))
    rw [IsV] at x₁
    obtain ⟨ti, rfl⟩ := x₁
    refine sCallN (f := 168) (by exact rfl) (by exact rfl) (by rfl) (n_law_figures F.gh ⟨rfl, sArgsC (by exact rfl) (ofAny ?_)⟩)
    rw [spell, List.length_cons, figs_len] at hz
    walk_at "W"
    have e1 : 0 ≤ i → (2 : Int) * i = ((fold i : Nat) : Int) := fun h => by unfold fold; rw [if_pos h]; omega
    have e2 : ¬ 0 ≤ i → (-2 : Int) * i - 1 = ((fold i : Nat) : Int) := fun h => by unfold fold; rw [if_neg h]; omega
    refine wIteT (fun hb => ?_) (fun hb => ?_)
    · have hb := of_decide_eq_true hb
      walk_at "W"
      walk_at "mulL"
      rw [e1 hb]
      refine sArgsN ⟨F.gh, spec_law_figures F.gh (R'.mono (by omega)) (by omega) fun h₄ t₄ k₄ st₄ => ?_⟩
      refine KBy.add_bytes (by rw [List.size_toArray, List.size_toArray, figs_len]; show 1 + _ ≤ _; omega) fun t₅ k₅ => ?_
      have := hQ h₄ t₅ k₅ (F.stays st₄).fr.keep
      rw [spell] at this
      simpa using this
    · have hb := of_decide_eq_false hb
      walk_at "W"
      walk_at "mulL"
      walk_at "W"
      rw [e2 hb]
      refine sArgsN ⟨F.gh, spec_law_figures F.gh (R'.mono (by omega)) (by omega) fun h₄ t₄ k₄ st₄ => ?_⟩
      refine KBy.add_bytes (by rw [List.size_toArray, List.size_toArray, figs_len]; show 1 + _ ≤ _; omega) fun t₅ k₅ => ?_
      have := hQ h₄ t₅ k₅ (F.stays st₄).fr.keep
      rw [spell] at this
      simpa using this
  | str sg =>
    refine sCons (sIf (ofAny (wpAny_isTrue_value ?_ (by rfl))))
    walk_at "isi"
    refine nb_int F.gh ?_
    walk_at "W"
    refine isi_int x₁ (fun z => by cases z) fun k₂ => ?_
    walk_at "W"
    refine wIteT (fun z => absurd z Bool.false_ne_true) (fun _ => sNil ?_)
    refine sCons (sIf (ofAny (wpAny_isTrue_value ?_ (by rfl))))
    walk_at "isi"
    refine nb_str F.gh ?_
    walk_at "W"
    refine isi_str x₁ (fun z => by cases z) fun k₂ => ?_
    walk_at "W"
    refine wIteT (fun _ => ?_) (fun z => absurd z.symm Bool.false_ne_true)
    rw [IsV] at x₁
    obtain ⟨ti, rfl⟩ := x₁
    rw [okD] at ok
    rw [spell, List.length_cons, List.length_append, figs_len] at hz
    have hsl : sg.length ≤ 200000 := by
      have key : ∀ sg : List Nat, sg.length ≤ (sg.flatMap figs).length := by
        intro sg
        induction sg with
        | nil => simp
        | cons c sg ih => rw [List.flatMap_cons, List.length_append, List.length_cons]; have := figs_pos c; omega
      have := key sg
      omega
    refine sCons (sRet (sBin (sBin (ofAny (Constant_bytes ?_)))))
    refine sCallN (f := 168) (by exact rfl) (by exact rfl) (by rfl) (n_law_figures F.gh ⟨rfl, sArgsC (by exact rfl) (ofAny ?_)⟩)
    refine callM (f := .builtin "len") (by rfl) (by rfl) (nb_len F.gh ⟨rfl, ?_⟩)
    walk_at "W"
    have hsz : (⟨sg.toArray⟩ : Str).length = sg.length := by show sg.toArray.size = _; simp
    refine len_str (by rw [hsz]; omega) ?_
    rw [hsz]
    refine sArgsN ⟨F.gh, spec_law_figures F.gh (R'.mono (by omega)) (by omega) fun h₃ t₃ k₃ st₃ => ?_⟩
    have F₃ := F.stays st₃
    clear F
    refine KBy.add_bytes (by rw [List.size_toArray, List.size_toArray, figs_len]; show 1 + _ ≤ _; omega) fun t₄ k₄ => ?_
    refine sMeth (by exact rfl) (ofAny (Constant_bytes ?_))
    refine getMethod_builtin (PySem.W.typeIs_bytes _ _ _) FB.plainAttrs_bytes bj_slot bj_ty (fun _ e => nomatch e) ?_
    refine sCallWithB rfl (sArgsC (by exact rfl) ?_)
    refine sComp s (cl := []) (fun _ _ _ => False) (by intro _; rfl) (by rfl) (by rfl) (by decide) (by decide) (fun C => by rfl) (by intro _ _; rfl) R'.hd (ofAny ?_)
    walk_at "W"
    refine iter_str fun h₅ it nit st₄ hit => ?_
    have F₄ := F₃.stays st₄
    have itL : it ≠ L := ns_ne F₃.fr.ns nit
    have itE : s.heap.get? it = none ∧ h₁.get? it = none := by
      refine ⟨get_none_of_stays F₃.fr.keep nit, ?_⟩
      cases q : h₁.get? it with
      | none => rfl
      | some o => exact absurd (F₃.ext _ _ itL q) (by rw [nit]; simp)
    have noneE : ∀ b, h₅.get? b = none → s.heap.get? b = none ∧ h₁.get? b = none := fun b hb => by
      refine ⟨get_none_of_stays F₄.fr.keep hb, ?_⟩
      cases q : h₁.get? b with
      | none => rfl
      | some o => exact absurd (F₄.ext _ _ (ns_ne F₄.fr.ns hb) q) (by rw [hb]; simp)
    have hcs : (⟨sg.toArray⟩ : Str).cps.size = sg.length := by simp
    refine ⟨_, _, it, _, _, fun i h ys => FS w s.heap L [(Str.ofString "value", .str ⟨sg.toArray⟩ ti)] h₁ h ∧ BytesAre ys.toList ((sg.take i).map fun c => (figs c).toArray),
      walker_str prog w ⟨sg.toArray⟩ ti it, rfl, by rw [hcs]; omega, fun hi hq => ?_, rfl, hit, ?_, ?_, ?_, ?_, ?_, ?_, ?_⟩
    · cases hall : (⟨sg.toArray⟩ : Str).cps.all (· < 128) with
      | true =>
        have e : strIterType ⟨sg.toArray⟩ = "str_ascii_iterator" := by unfold strIterType; rw [hall]; rfl
        rw [e] at hi
        exact wpAny_pyIter_striter_ascii hi hq
      | false =>
        have e : strIterType ⟨sg.toArray⟩ = "str_iterator" := by unfold strIterType; rw [hall]; rfl
        rw [e] at hi
        exact wpAny_pyIter_striter_wide hi hq
    · intro b hb
      obtain rfl : b = it := by simpa using hb
      obtain ⟨o, ho, _⟩ := hit; exact ⟨o, ho⟩
    · rintro i h its ⟨o, ho, hc, _⟩
      exact noTup_cls ho (by rw [hc]; unfold strIterType; split <;> simp) its
    · intro h' st
      exact ⟨F₄.stays st, by simp [BytesAre]⟩
    · rintro i h h' ys b ⟨F, hb⟩ hbn nt ke
      have hn : s.heap.get? b = none ∧ h₁.get? b = none := by
        rcases hbn with rfl | hbn
        · exact itE
        · exact noneE b hbn
      exact ⟨F.ebut hn.1 hn.2 (.inr ke), hb⟩
    · rintro i v h tk ys acc C m hi ⟨c, u, hx, rfl⟩ hti ⟨F, hb⟩ nacc nC ha hns hm hys
      have hx : sg[i]? = some c := by simpa using hx
      have hmem : c ∈ sg := List.mem_of_getElem? hx
      have h3 := figN_sign (ok c hmem)
      refine sCallN (f := 168) (by exact rfl) (by exact rfl) (by rfl) (n_law_figures F.gh ⟨rfl, sArgsC (by exact rfl) (ofAny ?_)⟩)
      refine callM (f := .builtin "ord") (by rfl) (by rfl) (nb_ord F.gh ⟨rfl, argsC (by exact rfl) (wpAny_Name (wpAny_loadName_local rfl rfl hns hm ?_) (by decide))⟩)
      walk_at "W"
      refine PySem.P.ord_of_char ?_
      refine sArgsN ⟨F.gh, spec_law_figures F.gh (R'.mono (by omega)) (by omega) fun h' t tk' st => ?_⟩
      refine ⟨h', tk', rfl, ⟨F.stays st, ?_⟩, Keep.stays st⟩
      rw [List.take_add_one, hx, Array.toList_push]
      simp only [Option.toList_some, List.map_append, List.map_cons, List.map_nil]
      exact BytesAre.snoc hb
    · rintro C e s' h _
      exact h.elim
    · rintro h tk ys acc ⟨F, hb⟩ ha nacc
      rw [List.take_of_length_le (by rw [hcs]; omega)] at hb
      have hsum : ∀ l : List Nat, ((l.map fun c => (figs c).toArray).map (·.size)).sum = (l.flatMap figs).length := fun l => by
        induction l with
        | nil => rfl
        | cons c l ih => rw [List.map_cons, List.map_cons, List.sum_cons, ih, List.flatMap_cons, List.length_append]; simp
      have hjoin : ∀ (l : List Nat) (a : Array UInt8), (l.map fun c => (figs c).toArray).foldl (· ++ ·) a = a ++ (l.flatMap figs).toArray := fun l => by
        induction l with
        | nil => intro a; simp
        | cons c l ih => intro a; rw [List.map_cons, List.foldl_cons, ih, List.flatMap_cons]; simp
      refine sArgsN (ofAny ?_)
      refine call_join ha hb (by rw [hsum]; omega) fun t₇ k₇ => ?_
      rw [hjoin, Array.empty_append]
      refine KBy.add_bytes (by rw [Array.size_append, List.size_toArray, List.size_toArray, List.size_toArray, figs_len]; show 1 + _ + _ ≤ _; omega) fun t₆ k₆ => ?_
      have := hQ h t₆ k₆ F.fr.keep
      rw [spell] at this
      simpa using this
  | byt b =>
    refine sCons (sIf (ofAny (wpAny_isTrue_value ?_ (by rfl))))
    walk_at "isi"
    refine nb_int F.gh ?_
    walk_at "W"
    refine isi_int x₁ (fun z => by cases z) fun k₂ => ?_
    walk_at "W"
    refine wIteT (fun z => absurd z Bool.false_ne_true) (fun _ => sNil ?_)
    refine sCons (sIf (ofAny (wpAny_isTrue_value ?_ (by rfl))))
    walk_at "isi"
    refine nb_str F.gh ?_
    walk_at "W"
    refine isi_str x₁ (fun z => by cases z) fun k₂ => ?_
    walk_at "W"
    refine wIteT (fun z => absurd z Bool.false_ne_true) (fun _ => sNil ?_)
    refine sCons (sIf (ofAny (wpAny_isTrue_value ?_ (by rfl))))
    walk_at "isi"
    refine nb_bytes F.gh ?_
    walk_at "W"
    refine isi_bytes x₁ (fun z => by cases z) fun k₂ => ?_
    walk_at "W"
    refine wIteT (fun _ => ?_) (fun z => absurd z.symm Bool.false_ne_true)
    rw [IsV] at x₁
    obtain ⟨ti, rfl⟩ := x₁
    rw [spell, List.length_cons, List.length_append, figs_len] at hz
    refine sCons (sRet (sBin (sBin (ofAny (Constant_bytes ?_)))))
    refine sCallN (f := 168) (by exact rfl) (by exact rfl) (by rfl) (n_law_figures F.gh ⟨rfl, sArgsC (by exact rfl) (ofAny ?_)⟩)
    refine callM (f := .builtin "len") (by rfl) (by rfl) (nb_len F.gh ⟨rfl, ?_⟩)
    walk_at "W"
    refine len_bytes (by rw [List.size_toArray]; omega) ?_
    rw [List.size_toArray]
    refine sArgsN ⟨F.gh, spec_law_figures F.gh (R'.mono (by omega)) (by omega) fun h₃ t₃ k₃ st₃ => ?_⟩
    have F₃ := F.stays st₃
    refine KBy.add_bytes (by rw [List.size_toArray, List.size_toArray, figs_len]; show 1 + _ ≤ _; omega) fun t₄ k₄ => ?_
    clear F
    refine ofAny ?_
    walk_at "W"
    refine KBy.add_bytes (by rw [Array.size_append, List.size_toArray, List.size_toArray, List.size_toArray, figs_len]; show 1 + _ + _ ≤ _; omega) fun t₆ k₆ => ?_
    have := hQ h₃ t₆ k₆ F₃.fr.keep
    rw [spell] at this
    simpa using this
  | tup dl =>
    refine sCons (sIf (ofAny (wpAny_isTrue_value ?_ (by rfl))))
    walk_at "isi"
    refine nb_int F.gh ?_
    walk_at "W"
    refine isi_int x₁ (fun z => by cases z) fun k₂ => ?_
    walk_at "W"
    refine wIteT (fun z => absurd z Bool.false_ne_true) (fun _ => sNil ?_)
    refine sCons (sIf (ofAny (wpAny_isTrue_value ?_ (by rfl))))
    walk_at "isi"
    refine nb_str F.gh ?_
    walk_at "W"
    refine isi_str x₁ (fun z => by cases z) fun k₂ => ?_
    walk_at "W"
    refine wIteT (fun z => absurd z Bool.false_ne_true) (fun _ => sNil ?_)
    refine sCons (sIf (ofAny (wpAny_isTrue_value ?_ (by rfl))))
    walk_at "isi"
    refine nb_bytes F.gh ?_
    walk_at "W"
    refine isi_bytes x₁ (fun z => by cases z) fun k₂ => ?_
    walk_at "W"
    refine wIteT (fun z => absurd z Bool.false_ne_true) (fun _ => sNil ?_)
    obtain ⟨n, rfl⟩ : ∃ m, n = m + 1 := ⟨n - 1, by rw [deep] at hdp; omega⟩
    have hv : SL w prog n := @hv n rfl
    rw [IsV] at x₁
    obtain ⟨a, items, rfl, tup, vl⟩ := x₁
    rw [spell, List.length_cons, List.length_append, figs_len] at hz
    have hlen := vl.len
    have hsz : items.size = dl.length := by simpa using hlen
    have hll := spellL_lenB dl
    rw [okD] at ok
    rw [pureD] at pu
    rw [deep] at hdp
    refine sCons (sRet (sBin (sBin (ofAny (Constant_bytes ?_)))))
    refine sCallN (f := 168) (by exact rfl) (by exact rfl) (by rfl) (n_law_figures F.gh ⟨rfl, sArgsC (by exact rfl) (ofAny ?_)⟩)
    refine callM (f := .builtin "len") (by rfl) (by rfl) (nb_len F.gh ⟨rfl, ?_⟩)
    walk_at "W"
    refine len_tuple tup (by omega) ?_
    rw [hsz]
    refine sArgsN ⟨F.gh, spec_law_figures F.gh (R'.mono (by omega)) (by omega) fun h₃ t₃ k₃ st₃ => ?_⟩
    have F₃ := F.stays st₃
    have tup₃ := IsTup.keeps tup st₃
    have vl₃ := vl.stays st₃
    clear F tup vl
    refine KBy.add_bytes (by rw [List.size_toArray, List.size_toArray, figs_len]; show 1 + _ ≤ _; omega) fun t₄ k₄ => ?_
    refine sMeth (by exact rfl) (ofAny (Constant_bytes ?_))
    refine getMethod_builtin (PySem.W.typeIs_bytes _ _ _) FB.plainAttrs_bytes bj_slot bj_ty (fun _ e => nomatch e) ?_
    refine sCallWithB rfl (sArgsC (by exact rfl) ?_)
    refine sComp s (cl := []) (fun _ _ _ => False) (by intro _; rfl) (by rfl) (by rfl) (by decide) (by decide) (fun C => by rfl) (by intro _ _; rfl) R'.hd (ofAny ?_)
    walk_at "W"
    refine iter_tup tup₃ fun h₅ it nit st₄ hit => ?_
    have F₄ := F₃.stays st₄
    have tup₄ := IsTup.keeps tup₃ st₄
    have vl₄ := vl₃.stays st₄
    have ait : a ≠ it := fun z => by obtain ⟨o, ho, _⟩ := tup₃; rw [z, nit] at ho; cases ho
    have itL : it ≠ L := ns_ne F₃.fr.ns nit
    have itE : s.heap.get? it = none ∧ h₁.get? it = none := by
      refine ⟨get_none_of_stays F₃.fr.keep nit, ?_⟩
      cases q : h₁.get? it with
      | none => rfl
      | some o => exact absurd (F₃.ext _ _ itL q) (by rw [nit]; simp)
    have noneE : ∀ b, h₅.get? b = none → s.heap.get? b = none ∧ h₁.get? b = none := fun b hb => by
      refine ⟨get_none_of_stays F₄.fr.keep hb, ?_⟩
      cases q : h₁.get? b with
      | none => rfl
      | some o => exact absurd (F₄.ext _ _ (ns_ne F₄.fr.ns hb) q) (by rw [hb]; simp)
    refine ⟨_, _, it, _, _, fun i h ys => FS w s.heap L [(Str.ofString "value", .ref a)] h₁ h ∧ IsVL h dl items.toList ∧ BytesAre ys.toList ((dl.take i).map fun d => (spell d).toArray),
      walker_tup prog w items it a ait, rfl, by omega, fun hi hq => wpAny_pyIter_tupleiter hi.1 hq, rfl, ⟨hit, tup₄⟩, ?_, ?_, ?_, ?_, ?_, ?_, ?_⟩
    · intro b hb
      rcases List.mem_cons.mp hb with rfl | hb
      · obtain ⟨o, ho, _⟩ := hit; exact ⟨o, ho⟩
      · obtain rfl : b = a := by simpa using hb
        obtain ⟨o, ho, _⟩ := tup₄; exact ⟨o, ho⟩
    · rintro i h its ⟨⟨o, ho, hc, _⟩, _⟩
      exact noTup_cls ho (by rw [hc]; simp) its
    · intro h' st
      exact ⟨F₄.stays st, vl₄.stays st, by simp [BytesAre]⟩
    · rintro i h h' ys b ⟨F, vl, hb⟩ hbn nt ke
      have hn : s.heap.get? b = none ∧ h₁.get? b = none := by
        rcases hbn with rfl | hbn
        · exact itE
        · exact noneE b hbn
      exact ⟨F.ebut hn.1 hn.2 (.inr ke), IsVL.ebut ke nt vl, hb⟩
    · rintro i v h tk ys acc C m hi hx ⟨hti, htp⟩ ⟨F, vl, hb⟩ nacc nC ha hns hm hys
      obtain ⟨d, hd, hv'⟩ := vl.get (i := i) (v := v) (by simpa using hx)
      have hmem : d ∈ dl := List.mem_of_getElem? hd
      refine sCallN (f := 173) (by exact rfl) (by exact rfl) (by rfl) (n_law_spelled F.gh ⟨rfl, sArgsC (by exact rfl) (ofAny (wpAny_Name (wpAny_loadName_local rfl rfl hns hm ?_) (by decide)))⟩)
      refine sArgsN ⟨F.gh, ?_⟩
      refine hv F.gh (R'.mono (by omega)) hv' (pureL_all pu d hmem) (okL_all ok d hmem) (by have := spell_mem hmem; omega) (by have := deep_mem hmem; omega) fun h' t tk' st => ?_
      refine ⟨h', tk', rfl, ⟨F.stays st, vl.stays st, ?_⟩, Keep.stays st⟩
      rw [List.take_add_one, hd, Array.toList_push]
      simp only [Option.toList_some, List.map_append, List.map_cons, List.map_nil]
      exact BytesAre.snoc hb
    · rintro C e s' h _
      exact h.elim
    · rintro h tk ys acc ⟨F, vl, hb⟩ ha nacc
      rw [List.take_of_length_le (by omega)] at hb
      refine sArgsN (ofAny ?_)
      refine call_join ha hb (by rw [spellL_sum]; omega) fun t₇ k₇ => ?_
      rw [spellL_join, Array.empty_append]
      refine KBy.add_bytes (by rw [Array.size_append, List.size_toArray, List.size_toArray, List.size_toArray, figs_len]; show 1 + _ + _ ≤ _; omega) fun t₆ k₆ => ?_
      have := hQ h t₆ k₆ F.fr.keep
      rw [spell] at this
      simpa using this
theorem spec_spelled (w : World) (prog : Program) : ∀ n, SL w prog n
  | 0 => spec_law_spelled fun n' e => absurd e (by omega)
  | n + 1 => spec_law_spelled fun n' e => by
    obtain rfl : n = n' := by omega
    exact spec_spelled w prog n
inductive GrI (w : World) (s : Shared) (L : Addr) (h₁ : Heap) (sc acc : Addr) (ys : Array Value) (s' : Shared) : Prop where
  | mk (g : Int) (tg : Tok) (h' : Heap) (tk' : Nat) (hg : 0 ≤ g) (e : s' = { s with heap := h', toks := tk' }) (l : h'.IsList acc ys)
      (F : FS w s.heap L [(Str.ofString "script", .ref sc), (Str.ofString "cells", .ref acc), (Str.ofString "great", .int g tg)] h₁ h') : GrI w s L h₁ sc acc ys s'
inductive StI (w : World) (hE hR : Heap) (L acc : Addr) (ys : Array Value) (g : Int) (tg : Tok) (h : Heap) : Prop where
  | mk (lo : List (Str × Value)) (sv : Int) (ts : Tok) (l : h.IsList acc ys) (F : FS w hE L lo hR h) (e1 : lo.lookup (Str.ofString "cells") = some (.ref acc)) (e2 : lo.lookup (Str.ofString "great") = some (.int g tg))
      (e3 : lo.lookup (Str.ofString "state") = some (.int sv ts)) : StI w hE hR L acc ys g tg h
theorem spec_law_box {w : World} {prog : Program} {A : Around} {E : Value → Shared → Prop} {s : Shared} {Q : Value → Shared → Prop} {sc : Addr} {vs : List Value} {ns : List Int}
    (G : G0 w s.heap) (R : Room A 4) (hl : s.heap.IsList sc vs.toArray) (hi : IntsAre vs ns) (hz : ns.length ≤ 63)
    (hQ : ∀ h' B c tk', s.heap.StaysIn h' → s.heap.get? B = none → Box h' B c 0 → Q (.ref B) { s with heap := h', toks := tk' }) :
    wpS (model prog w) A (call (.ref 141) [.ref sc]) Q E s := by
  refine callRS [(Str.ofString "script", .ref sc)] G R (by exact rfl) (by exact rfl) (by kernel_rfl) (by exact rfl) (by exact rfl) (by decide) fun L h₁ tk A' F k R' => ?_
  have hl₁ : h₁.IsList sc vs.toArray := let ⟨o, ho, r⟩ := hl; ⟨o, k _ _ ho, r⟩
  have hvl : vs.length = ns.length := hi.length
  refine sCons (ofAny (wpAny_Assign_ListComp_map (fun _ => true) (fun a b => (∃ n t, a = .int n t) → a = b) (by rfl) R'.hd (by decide) (by decide) (by rfl) (by decide) (by rfl) (by rfl) (by rfl) ?_))
  walk_at "sub"
  refine wpAny_Slice ?_
  simp only [evalPart_some, evalPart_none]
  refine wpAny_pure ?_
  walk_at "W"
  refine wpAny_pure ?_
  refine slice_lst hl₁ .none (.int _ _) (fun h₅ c₅ n₅ st₅ l₅ => ?_) (by rfl) (by intro _; rfl) (by rw [List.size_toArray]; show _ ≤ 16777216; omega)
  have F₅ := F.stays st₅
  rw [show (48 : Int) = ((48 : Nat) : Int) from rfl, slicePick_upto'] at l₅
  have hi48 : IntsAre (vs.toArray.toList.take 48) (ns.take 48) := by simpa using hi.take 48
  have hm48 : (ns.take 48).length ≤ 48 := by rw [List.length_take]; omega
  generalize vs.toArray.toList.take 48 = us at hi48 l₅
  generalize ns.take 48 = ms at hi48 hm48
  have hul : us.length = ms.length := hi48.length
  refine ⟨c₅, _, _, rfl, l₅.isList, by rw [List.size_toArray]; show _ ≤ 16777216; omega, F₅.fr.ns, ?_, ?_, ?_⟩
  · intro C v s₂ m₂ E' hv hn hm kk
    simp only [List.forIn_nil]
    exact wpAny_pure ⟨rfl, _, _, rfl, fun _ _ e => e⟩
  · intro C v s₂ m₂ E' hv _ hn hm kk
    obtain ⟨i, hi'⟩ := List.getElem?_of_mem (show v ∈ us by simpa using hv)
    obtain ⟨nn, tn, rfl, _⟩ := IntsAre.at hi48 i v hi'
    refine callM (f := .type "int") (by rfl) (by rfl) (nb_int (F₅.gh.keeps kk) ⟨rfl, argsC (by rfl) (wpAny_Name (wpAny_loadName_local rfl rfl hn hm ?_) (by decide))⟩)
    walk_at "W"
    refine call_int_int ?_
    exact ⟨fun _ => rfl, _, _, rfl, fun _ _ e => e⟩
  · intro acc h₇ k₇ ys nacc l₇ hp hns kk
    have hys : ys.toList = us := by
      have key : ∀ (us : List Value) (ms : List Int) (ys : List Value), IntsAre us ms → Paired (fun a b => (∃ n t, a = Value.int n t) → a = b) us ys → ys = us := by
        intro us
        induction us with
        | nil => intro ms ys _ hp; cases hp; rfl
        | cons a us ih =>
          intro ms ys hi hp
          cases hi with
          | cons n t r =>
            cases hp with
            | cons hF hp => rw [← hF ⟨_, _, rfl⟩, ih _ _ r hp]
      exact key us ms ys.toList hi48 (by have e : (us.filter fun _ => true) = us := List.filter_eq_self.mpr (fun _ _ => rfl); rw [← e]; exact hp)
    have hb : IntsAre ys.toList ms := by rw [hys]; exact hi48
    have hyl : ys.size = ms.length := by have := hb.length; simpa using this
    have accL : acc ≠ L := ns_ne F₅.fr.ns nacc
    have accE : s.heap.get? acc = none ∧ h₁.get? acc = none := by
      refine ⟨get_none_of_stays F₅.fr.keep nacc, ?_⟩
      cases q : h₁.get? acc with
      | none => rfl
      | some o => exact absurd (F₅.ext _ _ accL q) (by rw [nacc]; simp)
    have F₇ : FS w s.heap L [(Str.ofString "script", .ref sc), (Str.ofString "cells", .ref acc)] h₁ h₇ := by
      have nL := F.new
      refine ⟨F.g, ⟨?_, fun b o e => kk b o (fun z => by rw [show b = L from z, nL] at e; cases e) (F₅.fr.keep b o e), F.fr.above⟩, fun b o hb e => kk b o hb (F₅.ext b o hb e), F.nsR⟩
      have := hns
      rw [show (fun z => if z = Str.ofString "cells" then some (Value.ref acc) else lk [(Str.ofString "script", Value.ref sc)].reverse z) = _ from lk_setL _ _ _] at this
      exact this
    clear F F₅ l₅ hl hl₁ hi hns kk hp
    refine sCons (sAsg (by rfl) (ofAny ?_))
    walk_at "W"
    walk_at "st"
    intro h₈ k₈ F₈ b₈
    have l₈ := l₇.extBut b₈.extBut accL
    clear l₇ F₇ b₈
    refine sCons (sMono (Q := fun f s' => f = .next ∧ GrI w s L h₁ sc acc ys s') (ofAny ?_) (fun f s' hx => ?_) fun _ _ x => x)
    · refine wpAny_If ?_
      refine wpAny_isTrue_BoolOp ?_
      refine wpAny_allTrue_And_cons ?_
      refine wpAny_isTrue_value ?_ (by rfl)
      walk_at "W"
      refine wpAny_truthy_list l₈ (by omega) ?_
      refine wIteT (fun hne => ?_) (fun hne => ?_)
      · have hpos : 0 < ys.size := by simpa [Nat.pos_iff_ne_zero] using hne
        obtain ⟨c0, hc0⟩ : ∃ c0, ys[0]? = some c0 := ⟨_, Array.getElem?_eq_getElem hpos⟩
        obtain ⟨n0, t0, rfl, hn0⟩ := IntsAre.at hb 0 c0 (by simpa using hc0)
        refine wpAny_allTrue_And_cons ?_
        walk_at "W"
        refine callM (f := .builtin "abs") (by rfl) (by rfl) (nb_abs F₈.gh ⟨rfl, ?_⟩)
        refine argsC (by rfl) ?_
        walk_at "sub"
        refine item_lst (k := 0) (x := .int n0 t0) l₈ (by omega) (by simpa using hc0) ?_ (by rfl) (by intro _; rfl)
        walk_at "W"
        refine call_abs_int fun u₉ k₉ => ?_
        walk_at "W"
        refine pow_int_small (by omega) (by omega) (by decide) ?_
        walk_at "W"
        refine wIteT (fun hge => ?_) (fun hge => ?_)
        · refine wpAny_allTrue_And_nil ?_
          refine wIteT (fun _ => ?_) (fun z => absurd z (by decide))
          walk_at "W"
          refine callM (f := .builtin "abs") (by rfl) (by rfl) (nb_abs F₈.gh ⟨rfl, ?_⟩)
          refine argsC (by rfl) ?_
          walk_at "sub"
          refine item_lst (k := 0) (x := .int n0 t0) l₈ (by omega) (by simpa using hc0) ?_ (by rfl) (by intro _; rfl)
          walk_at "W"
          refine call_abs_int fun u₁₀ k₁₀ => ?_
          walk_at "W"
          walk_at "divc"
          walk_at "W"
          refine pow_int_small (by omega) (by omega) (by decide) ?_
          refine mod_int' (Int.ne_of_gt (Int.pow_pos (by decide))) ?_
          walk_at "st"
          intro h₉ k₉ F₉ b₉
          walk_at "W"
          exact ⟨rfl, _, _, _, _, Int.fmod_nonneg_of_pos _ (Int.pow_pos (by decide)), rfl, l₈.extBut b₉.extBut accL, F₉⟩
        · refine wIteT (fun z => absurd z (by decide)) (fun _ => ?_)
          walk_at "W"
          exact ⟨rfl, 0, _, _, _, Int.le_refl _, rfl, l₈, F₈⟩
      · refine wIteT (fun z => absurd z (by decide)) (fun _ => ?_)
        walk_at "W"
        exact ⟨rfl, 0, _, _, _, Int.le_refl _, rfl, l₈, F₈⟩
    · obtain ⟨rfl, g, tg, h', tk', hg, rfl, l, F⟩ := hx
      clear F₈ l₈
      refine sCons (sAsg (by rfl) (ofAny ?_))
      walk_at "W"
      walk_at "st"
      intro h₉ k₉ F₉ b₉
      have l₉ := l.extBut b₉.extBut accL
      clear l F b₉
      refine sCons (sMono (Q := fun f s' => f = .next ∧ ∃ h' tk', s' = { s with heap := h', toks := tk' } ∧ StI w s.heap h₁ L acc ys g tg h') (ofAny ?_) (fun f s' hx => ?_) fun _ _ x => x)
      · refine wForW s R'.hd PassesOwn.never (by intro _; rfl) (by intro _ _; rfl) ?_
        walk_at "W"
        refine iter_lst l₉ fun h₁₀ it₁ nit₁ st₁₀ hit₁ => ?_
        have F₁₀ := F₉.stays st₁₀
        have itL₁ : it₁ ≠ L := ns_ne F₉.fr.ns nit₁
        have itE₁ : s.heap.get? it₁ = none ∧ h₁.get? it₁ = none := by
          refine ⟨get_none_of_stays F₉.fr.keep nit₁, ?_⟩
          cases q : h₁.get? it₁ with
          | none => rfl
          | some o => exact absurd (F₉.ext _ _ itL₁ q) (by rw [nit₁]; simp)
        have ait₁ : acc ≠ it₁ := fun z => by obtain ⟨o, ho, _⟩ := l₉; rw [z, nit₁] at ho; cases ho
        have l₁₀ := l₉.extBut (fun b o _ e => st₁₀ b o e : Heap.ExtBut it₁ _ _) ait₁
        refine ⟨_, _, it₁, _, _, fun i h => StI w s.heap h₁ L acc ys g tg h,
          walker_list prog w _ it₁ acc ait₁, rfl, rfl, ⟨hit₁, l₁₀⟩, ⟨_, _, _, l₁₀, F₁₀, rfl, rfl, rfl⟩, ?_, ?_, ?_⟩
        · rintro i h h' _ _ ⟨lo, sv, ts, l, F, e1, e2, e3⟩ kk
          exact ⟨lo, sv, ts, l.extBut (kk.elim (·.extBut) id : Heap.ExtBut it₁ _ _) ait₁, F.ebut itE₁.1 itE₁.2 kk, e1, e2, e3⟩
        · rintro i v h tk hin hx hit' ⟨lo, sv, ts, l, F, e1, e2, e3⟩
          obtain ⟨nn, tn, rfl, hn⟩ := IntsAre.at hb i v (by simpa using hx)
          clear F₉ F₁₀ l₉ l₁₀
          walk_at "st"
          intro h₁₁ k₁₁ F₁₁ b₁₁
          have l₁₁ := l.extBut b₁₁.extBut accL
          clear F l
          walk_at "X"
          walk_at "mulR"
          walk_at "X"
          walk_at "modc"
          walk_at "X"
          walk_at "modc"
          walk_at "st"
          intro h₁₂ k₁₂ F₁₂ b₁₂
          have l₁₂ := l₁₁.extBut b₁₂.extBut accL
          walk_at "X"
          refine ⟨h₁₂, _, rfl, ⟨_, ?sv, ?ts, l₁₂, F₁₂, ?e1, ?e2, ?e3⟩, ?kp⟩
          case e3 => exact (by rw [lookup_setL, if_pos rfl])
          case e1 => walk_at "hv"
          case e2 => walk_at "hv"
          case kp =>
            have nn : L ∉ [it₁, acc] := by simp only [List.mem_cons, List.not_mem_nil, or_false, not_or]; exact ⟨itL₁.symm, accL.symm⟩
            exact Keep.trans (h' := h₁₁) (Keep.but b₁₁ nn) (Keep.but b₁₂ nn)
        · rintro h tk ⟨lo, sv, ts, l, F, e1, e2, e3⟩
          exact ⟨rfl, h, tk, rfl, lo, sv, ts, l, F, e1, e2, e3⟩
      · obtain ⟨rfl, h', tk', rfl, lo, sv, ts, l, F, e1, e2, e3⟩ := hx
        clear F₉ l₉
        refine sCons (sRet (ofAny (list_new ?_)))
        walk_at "X"
        refine ⟨by show 4 ≤ 16777216; omega, fun h₁₀ B nB st₁₀ lB => ?_⟩
        have F₁₀ := F.stays st₁₀
        refine hQ h₁₀ B acc _ F₁₀.fr.keep (get_none_of_stays F.fr.keep nB) ?_
        refine ⟨ys.toList, ms, g, tg, sv, ts, 0, _, lB.isList, by simpa using (let ⟨o, ho, r⟩ := l; ⟨o, st₁₀ _ _ ho, r⟩ : h₁₀.IsList acc ys), hb, ?_, hm48, hg, Nat.le_refl _⟩
        intro z
        obtain ⟨o, ho, _⟩ := l
        rw [z, nB] at ho; cases ho
/-- a def with cells that never raises, on the clean stacks -/
theorem callCS {w : World} {prog : Program} {A : Around} {E : Value → Shared → Prop} {s : Shared} {Q : Value → Shared → Prop} {f : Addr} {o : Obj} {name : Str} {params : Arguments} {body : List Stmt} {scope : Scope}
    {pm cd doc : Value} {args : List Value} {n : Nat} (binds ll : List (Str × Value))
    (G : G0 w s.heap) (R : Room A (n + 1)) (ho : (KK w).lookup f = some o) (hd : o.data = .func (docDef name params body scope pm cd doc)) (hcd : codeIn (KK w) cd name = true)
    (hbind : bindArgs (docDef name params body scope pm cd doc) ⟨args, []⟩ = pure binds)
    (hkind : ∀ L, ∀ x ∈ binds, scope.names.lookup x.1 = some .local ∨ (scope.names.lookup x.1 = some .cell ∧ ((cellsFrom (L + 1) scope.names []).lookup x.1).isSome = true))
    (hll : ∀ L, bindL (callEnvC (docDef name params body scope pm cd doc) L f).kindOf binds (fun _ => none) = lk ll)
    (h : ∀ L h₁ tk A', FS w s.heap L ll h₁ h₁ → (∀ n c, (cellsFrom (L + 1) scope.names []).lookup n = some c → h₁.IsCell c (bindC (callEnvC (docDef name params body scope pm cd doc) L f).kindOf binds (fun _ => none) n) ∧ L < c) →
      s.heap.StaysIn h₁ → Room A' n →
      wpS (model prog w) A' (execs body (callEnvC (docDef name params body scope pm cd doc) L f)) (fun fl s' => Q (match fl with | .ret v => v | _ => .none) s') (fun _ _ => False) { s with heap := h₁, toks := tk })
    (hco : scope.isCoroutine = false := by rfl) (hgen : scope.isGenerator = false := by rfl) (hk : scope.kind = .function := by rfl) : wpS (model prog w) A (call (.ref f) args) Q E s := by
  refine sCall (codeS_call_function (by have := R.dp; show A.depth < 1000; omega) (G.kin _ _ ho) hd hco hgen rfl (codeRec_of G.kin hcd) ?_)
  rw [hbind]
  refine wpAny_pure (wpAny_newFunctionEnv_cells hk (hkind _) fun env' he s' x => ?_)
  subst he
  refine ⟨G.lim.keeps x.toInCall.keep, codeS_func ?_⟩
  obtain ⟨h₁, tk, rfl, _⟩ := x.done
  have hk₁ := x.toInCall.keep
  have F : FS w s.heap s.heap.objs.size ll h₁ h₁ := ⟨G, ⟨by rw [← hll]; exact x.toInCall.ns, hk₁, Nat.le_refl _⟩, fun _ _ _ e => e, ⟨_, x.toInCall.ns⟩⟩
  have cs : ∀ n c, (cellsFrom (s.heap.objs.size + 1) scope.names []).lookup n = some c → h₁.IsCell c (bindC (callEnvC (docDef name params body scope pm cd doc) s.heap.objs.size f).kindOf binds (fun _ => none) n) ∧ s.heap.objs.size < c :=
    fun n c hc => ⟨x.cell n c hc, x.above n c (mem_of_lookup hc)⟩
  exact sMono (h s.heap.objs.size h₁ tk (A.deeper (callEnvC (docDef name params body scope pm cd doc) s.heap.objs.size f)) F cs hk₁ R.deeper) (fun _ _ x => x) fun _ _ x => x.elim

section
variable {prog : Program} {w : World} {A : Around} {E : Value → Shared → Prop} {s : Shared}
theorem tup_of_lst {l : Addr} {items : Array Value} {Q : Value → Shared → Prop} (hl : s.heap.IsList l items)
    (h : ∀ h' c, s.heap.get? c = none → s.heap.StaysIn h' → IsTup h' c items → Q (.ref c) { s with heap := h' })
    (hsz : items.size ≤ sizeLine) : wpAny (model prog w) A (call (.type "tuple") [.ref l]) Q E s :=
  call_tuple_list hl (fun h' k => h _ _ (get_none_of_stays k (Heap.get?_none_of_le (Nat.le_refl _))) (fun b o e => Heap.get?_push_of_some _ (k b o e)) ⟨_, Heap.get?_push_size _ rfl, rfl, _, rfl⟩) hsz
theorem tup_new {env : Env} {elts : List Expr} {k : Nat} {pos : Pos} {Q : Value → Shared → Prop}
    (h : wpAny (model prog w) A (spliced (backTo pos (starEach elts env))) (fun vs s₁ => vs.length ≤ sizeLine ∧ ∀ h' c, s₁.heap.get? c = none → s₁.heap.StaysIn h' → IsTup h' c vs.toArray → Q (.ref c) { s₁ with heap := h' }) E s) :
    wpAny (model prog w) A (eval (.Tuple elts k pos) env) Q E s :=
  wpAny_Tuple (wpAny_mono h (fun vs s₁ h₁ => ⟨h₁.1, h₁.2 _ _ (Heap.get?_none_of_le (Nat.le_refl _)) (fun b o e => Heap.get?_push_of_some _ e) ⟨_, Heap.get?_push_size _ rfl, rfl, _, rfl⟩⟩) fun _ _ x => x)
end

/-- what such a comprehension asks -/
inductive BoxT (prog : Program) (w : World) (A : Around) (s0 : Shared) (env : Env) (elt : Expr) (scope : Scope) (cl : List (Str × Addr)) (Q : Value → Shared → Prop) (hE hR : Heap) (L B c : Addr) (l : List (Str × Value)) (dr : Nat) (K : Dat → Prop) (itv : Value) (s₂ : Shared) : Prop
  | mk (it : Addr) (n P : Nat) (h₅ : Heap) (e : itv = .ref it) (hn : n ≤ 1000) (es : s₂ = { s0 with heap := s₂.heap, toks := s₂.toks })
    (hit : IsRangeIter s₂.heap it (0 : Nat) ((n : Int) - (0 : Nat)) 1) (nit : h₅.get? it = none) (st : h₅.StaysIn s₂.heap) (F₅ : FS w hE L l hR h₅) (bx₅ : Box h₅ B c P)
    (turn : ∀ i h tk C m, i < n → FS w hE L l hR h → Box h B c (P + i * dr) → h.Ns C m →
        wpS (model prog w) A (eval elt (compEnvC scope cl C env)) (fun y s₄ => ∃ h' tk' d, s₄ = { s0 with heap := h', toks := tk' } ∧ Heap.ExtBut B h h' ∧ Box h' B c (P + (i + 1) * dr) ∧ IsV h' d y ∧ K d) (fun _ _ => False) { s0 with heap := h, toks := tk })
    (fin : ∀ h tk ys acc dl, FS w hE L l hR h → Box h B c (P + n * dr) → h.PlainList acc ys → dl.length = n → IsVL h dl ys.toList → (∀ d ∈ dl, K d) → Q (.ref acc) { s0 with heap := h, toks := tk }) : BoxT prog w A s0 env elt scope cl Q hE hR L B c l dr K itv s₂
/-- a comprehension over a range whose elements draw from the box -/
theorem sCompBox {prog : Program} {w : World} {A : Around} {E : Value → Shared → Prop} {s : Shared} {env : Env} {elt iter : Expr} {x : Str} {px pos : Pos} {scope : Scope} {cl : List (Str × Addr)} {Q : Value → Shared → Prop} (s0 : Shared)
    {hE hR : Heap} {L B c : Addr} {l : List (Str × Value)} (dr : Nat) (K : Dat → Prop)
    (hs : ∀ v, foldedSetIterable iter env v = pure v) (hclos : closureFor scope env = pure cl) (hkind : scope.kind = .function)
    (hnames : ∀ y ∈ scope.names, y.2 = .local → scope.names.lookup y.1 = some .local) (hcell : ∀ y ∈ scope.names, y.2 ≠ .cell)
    (hxl : ∀ C, (compEnvC scope cl C env).kindOf x = some .local) (ht : ∀ it v, letOwnedTupleGo (.Name x px) it v = pure ()) (hh : A.handled = none)
    (nE : hE.get? B = none) (nR : hR.get? B = none)
    (h : wpS (model prog w) A (eval iter env) (fun v s₁ => wpAny (model prog w) A (pyIter v) (fun itv s₂ => BoxT prog w A s0 env elt scope cl Q hE hR L B c l dr K itv s₂) E s₁) E s) :
    wpS (model prog w) A (eval (.ListComp elt [⟨.Name x px, iter, [], 0⟩] scope pos) env) Q E s := by
  refine sComp s0 (cl := cl) (fun _ _ _ => False) hs hclos hkind hnames hcell hxl ht hh (sMono h (fun v s₁ h₁ => wpAny_mono h₁ (fun itv s₂ h₂ => ?_) fun _ _ x => x) fun _ _ x => x)
  obtain ⟨it, n, P, h₅, rfl, hn, es, hit, nit, st, F₅, bx₅, turn, fin⟩ := h₂
  have F₂ := F₅.stays st
  have bx₂ := bx₅.stays st
  have itL : it ≠ L := ns_ne F₅.fr.ns nit
  have noneE : ∀ b, s₂.heap.get? b = none ∨ b = it → hE.get? b = none ∧ hR.get? b = none ∧ B ≠ b ∧ c ≠ b := fun b hb => by
    have h5 : h₅.get? b = none := by
      rcases hb with hb | rfl
      · exact get_none_of_stays st hb
      · exact nit
    refine ⟨get_none_of_stays F₅.fr.keep h5, ?_, fun z => ?_, fun z => ?_⟩
    · cases q : hR.get? b with
      | none => rfl
      | some o => exact absurd (F₅.ext _ _ (ns_ne F₅.fr.ns h5) q) (by rw [h5]; simp)
    · obtain ⟨o, ho⟩ := bx₅.get
      rw [z, h5] at ho; cases ho
    · obtain ⟨o, ho⟩ := bx₅.getc
      rw [z, h5] at ho; cases ho
  refine ⟨n, _, it, _, _, fun i h ys => FS w hE L l hR h ∧ Box h B c (P + i * dr) ∧ ∃ dl, dl.length = i ∧ IsVL h dl ys.toList ∧ ∀ d ∈ dl, K d,
    walker_range prog w _ it, rfl, by omega, fun hi hq => wpAny_pyIter_rangeiter hi hq, es, hit, ?_, ?_, ?_, ?_, ?_, ?_, ?_⟩
  · intro b hb
    obtain rfl : b = it := by simpa using hb
    exact ⟨_, hit⟩
  · rintro i h its hi
    exact noTup_cls hi (by simp) its
  · intro h' st'
    exact ⟨F₂.stays st', by simpa using bx₂.stays st', [], rfl, by simp [IsVL], by simp⟩
  · rintro i h h' ys b ⟨F, bx, dl, e1, vl, hK⟩ hbn nt ke
    obtain ⟨n1, n2, n3, n4⟩ := noneE b hbn.symm
    exact ⟨F.ebut n1 n2 (.inr ke), bx.ebut ke n3 n4, dl, e1, IsVL.ebut ke nt vl, hK⟩
  · rintro i v h tk ys acc C m hi _ hti ⟨F, bx, dl, e1, vl, hK⟩ nacc nC ha hns hm hys
    refine sMono (turn i h tk C m hi F bx hns) (fun y s₄ h₄ => ?_) fun _ _ x => x
    obtain ⟨h', tk', d, rfl, ke, bx', hv, hk⟩ := h₄
    refine ⟨h', tk', rfl, ⟨F.ebut nE nR (.inr ke), bx', dl ++ [d], by simp [e1], ?_, fun x hx => ?_⟩, fun b hb o e => ke b o (fun z => ?_) e⟩
    · rw [Array.toList_push]
      exact IsVL.snoc (IsVL.ebut ke bx.noTup vl) hv
    · rcases List.mem_append.mp hx with hx | hx
      · exact hK x hx
      · obtain rfl : x = d := by simpa using hx
        exact hk
    · rcases List.mem_cons.mp hb with rfl | hb
      · exact (noneE b (.inl nacc)).2.2.1 z.symm
      rcases List.mem_cons.mp hb with rfl | hb
      · exact (noneE b (.inl nC)).2.2.1 z.symm
      · obtain rfl : b = it := by simpa using hb
        exact (noneE b (.inr rfl)).2.2.1 z.symm
  · rintro C e s' h _
    exact h.elim
  · rintro h tk ys acc ⟨F, bx, dl, e1, vl, hK⟩ ha nacc
    exact fin h tk ys acc dl F bx ha e1 vl hK
/-- good data: pure, of true signs, at most z octets, at most k tuples within one another -/
structure Good (z k : Nat) (d : Dat) : Prop where
  pu : pureD d
  ok : okD d
  sz : (spell d).length ≤ z
  dp : deep d ≤ k
theorem pureL_of : ∀ {l : List Dat}, (∀ d ∈ l, pureD d) → pureL l
  | [], _ => by rw [pureL]; trivial
  | d :: l, h => by rw [pureL]; exact ⟨h d (.head _), pureL_of fun x hx => h x (.tail _ hx)⟩
theorem okL_of : ∀ {l : List Dat}, (∀ d ∈ l, okD d) → okL l
  | [], _ => by rw [okL]; trivial
  | d :: l, h => by rw [okL]; exact ⟨h d (.head _), okL_of fun x hx => h x (.tail _ hx)⟩
theorem deepL_of : ∀ {l : List Dat} {k : Nat}, (∀ d ∈ l, deep d ≤ k) → deepL l ≤ k
  | [], _, _ => by rw [deepL]; omega
  | d :: l, k, h => by
    rw [deepL]
    have := h d (.head _)
    have := deepL_of fun x hx => h x (.tail _ hx)
    omega
theorem spellL_of : ∀ {l : List Dat} {z : Nat}, (∀ d ∈ l, (spell d).length ≤ z) → (spellL l).length ≤ l.length * z
  | [], _, _ => by rw [spellL]; simp
  | d :: l, z, h => by
    rw [spellL, List.length_append, List.length_cons, Nat.add_mul, Nat.one_mul]
    have := h d (.head _)
    have := spellL_of fun x hx => h x (.tail _ hx)
    omega
theorem Good.tup {l : List Dat} {z k m : Nat} (h : ∀ d ∈ l, Good z k d) (hm : l.length ≤ m) (m2 : m < 128) : Good (2 + m * z) (1 + k) (.tup l) where
  pu := by rw [pureD]; exact pureL_of fun d hd => (h d hd).pu
  ok := by rw [okD]; exact okL_of fun d hd => (h d hd).ok
  sz := by
    rw [spell, List.length_cons, List.length_append, figs_lt (by omega)]
    have := spellL_of fun d hd => (h d hd).sz
    have : l.length * z ≤ m * z := Nat.mul_le_mul_right _ hm
    simp; omega
  dp := by rw [deep]; have := deepL_of fun d hd => (h d hd).dp; omega
noncomputable def chainD : Nat → Dat
  | 0 => .tup []
  | n + 1 => .tup [chainD n]
theorem chain_good : ∀ n, Good (2 + n * 2) (1 + n) (chainD n)
  | 0 => Good.tup (z := 0) (k := 0) (m := 0) (by simp) (by simp) (by omega)
  | n + 1 => by
    have := Good.tup (l := [chainD n]) (m := 1) (fun d hd => by obtain rfl : d = chainD n := by simpa using hd
                                                                exact chain_good n) (by simp) (by omega)
    rw [chainD]
    exact ⟨this.pu, this.ok, by have := this.sz; omega, by have := this.dp; omega⟩
theorem Good.mono {z z' k k' : Nat} {d : Dat} (g : Good z k d) (h : z ≤ z') (h' : k ≤ k') : Good z' k' d := ⟨g.pu, g.ok, Nat.le_trans g.sz h, Nat.le_trans g.dp h'⟩
theorem good_int {i : Int} (h1 : -100 ≤ i) (h2 : i < 10 ^ 100) : Good 49 0 (.int i) where
  pu := by simp [pureD]
  ok := by simp [okD]
  sz := by
    rw [spell, List.length_cons, figs_len]
    have : figN (fold i) ≤ 48 := figN_le 47 _ (by
      unfold fold
      have e : (10 : Int) ^ 100 = ((10 ^ 100 : Nat) : Int) := by norm_cast
      have k : 2 * 10 ^ 100 < 128 ^ (47 + 1) := by decide +kernel
      have k2 : 200 < 128 ^ (47 + 1) := by decide +kernel
      generalize 128 ^ (47 + 1) = X at k k2 ⊢
      rw [e] at h2
      generalize 10 ^ 100 = Y at k h2
      split <;> omega)
    omega
  dp := by simp [deep]
theorem good_str {sg : List Nat} (h : ∀ c ∈ sg, c ≤ 1114111) (h' : sg.length ≤ 3) : Good 11 0 (.str sg) where
  pu := by simp [pureD]
  ok := by rw [okD]; exact h
  sz := by
    rw [spell, List.length_cons, List.length_append, figs_lt (by omega)]
    have := flat_len h
    simp only [List.length_cons, List.length_nil]
    omega
  dp := by simp [deep]
theorem good_byt {b : List UInt8} (h' : b.length ≤ 3) : Good 5 0 (.byt b) where
  pu := by simp [pureD]
  ok := by simp [okD]
  sz := by
    rw [spell, List.length_cons, List.length_append, figs_lt (by omega)]
    simp; omega
  dp := by simp [deep]
noncomputable def drw : Nat → Nat
  | 0 => 5
  | n + 1 => 2 + 2 * drw n
noncomputable def vsz : Nat → Nat
  | 0 => 49
  | n + 1 => 2 + 2 * vsz n
theorem drw_ge : ∀ n, 5 ≤ drw n
  | 0 => by simp [drw]
  | n + 1 => by have := drw_ge n; rw [drw]; omega
theorem vsz_ge : ∀ n, 49 ≤ vsz n
  | 0 => by simp [vsz]
  | n + 1 => by have := vsz_ge n; rw [vsz]; omega
theorem strs_of {h : Heap} : ∀ {dl : List Dat} {vs : List Value}, IsVL h dl vs → (∀ d ∈ dl, ∃ c, c ≤ 1114111 ∧ d = .str [c]) → ∃ sg : List Nat, StrsAre vs (sg.map fun c => (⟨#[c]⟩ : Str)) ∧ sg.length = dl.length ∧ ∀ c ∈ sg, c ≤ 1114111
  | [], vs, x, _ => by rw [IsVL] at x; subst x; exact ⟨[], .nil, rfl, by simp⟩
  | d :: dl, vs, x, hk => by
    rw [IsVL] at x
    obtain ⟨v, vs', rfl, hv, hl⟩ := x
    obtain ⟨sg, h1, h2, h3⟩ := strs_of hl fun d hd => hk d (.tail _ hd)
    obtain ⟨c, hc, rfl⟩ := hk d (.head _)
    rw [IsV] at hv
    obtain ⟨t, rfl⟩ := hv
    exact ⟨c :: sg, .cons _ _ h1, by simp [h2], fun x hx => by rcases List.mem_cons.mp hx with rfl | hx; exact hc; exact h3 x hx⟩
theorem ints_of {h : Heap} : ∀ {dl : List Dat} {vs : List Value}, IsVL h dl vs → (∀ d ∈ dl, ∃ n : Nat, n < 256 ∧ d = .int n) → ∃ ns : List Nat, IntsAre vs (natI ns) ∧ ns.length = dl.length ∧ ∀ n ∈ ns, n < 256
  | [], vs, x, _ => by rw [IsVL] at x; subst x; exact ⟨[], .nil, rfl, by simp⟩
  | d :: dl, vs, x, hk => by
    rw [IsVL] at x
    obtain ⟨v, vs', rfl, hv, hl⟩ := x
    obtain ⟨ns, h1, h2, h3⟩ := ints_of hl fun d hd => hk d (.tail _ hd)
    obtain ⟨c, hc, rfl⟩ := hk d (.head _)
    rw [IsV] at hv
    obtain ⟨t, rfl⟩ := hv
    exact ⟨c :: ns, .cons _ _ h1, by simp [h2], fun x hx => by rcases List.mem_cons.mp hx with rfl | hx; exact hc; exact h3 x hx⟩
theorem below_zero {P : Nat → Prop} : ∀ r, r < 0 → P r := fun _ h => absurd h (Nat.not_lt_zero _)
theorem below_succ {P : Nat → Prop} {n : Nat} (h : ∀ r, r < n → P r) (p : P n) : ∀ r, r < n + 1 → P r := fun r hr => (Nat.lt_succ_iff_lt_or_eq.mp hr).elim (h r) fun e => e ▸ p
theorem menu1 {r : Nat} (hr : r < 4) (a b c d : Tok) : ∃ ex t, [Value.int 1 a, .int 3 b, .int 19 c, .int 100 d][r]? = some (.int (ex : Nat) t) ∧ ex ≤ 100 := by
  revert r
  refine @below_succ _ _ (below_succ (below_succ (below_succ below_zero ?_) ?_) ?_) ?_
  · exact ⟨1, _, rfl, by omega⟩
  · exact ⟨3, _, rfl, by omega⟩
  · exact ⟨19, _, rfl, by omega⟩
  · exact ⟨100, _, rfl, by omega⟩
theorem menu2 {r : Nat} (hr : r < 5) (a b c d e : Tok) : ∃ ex t, [Value.int 0 a, .int 2 b, .int 18 c, .int 19 d, .int 20 e][r]? = some (.int (ex : Nat) t) ∧ ex ≤ 20 := by
  revert r
  refine @below_succ _ _ (below_succ (below_succ (below_succ (below_succ below_zero ?_) ?_) ?_) ?_) ?_
  · exact ⟨0, _, rfl, by omega⟩
  · exact ⟨2, _, rfl, by omega⟩
  · exact ⟨18, _, rfl, by omega⟩
  · exact ⟨19, _, rfl, by omega⟩
  · exact ⟨20, _, rfl, by omega⟩
theorem menu3 {r : Nat} (hr : r < 7) (a b c d e f g : Tok) : ∃ cd t, [Value.str "a" a, .str "Z" b, .str "\u0000" c, .str "\u007f" d, .str "\u0080" e, .str "€" f, .str ⟨#[1114111]⟩ g][r]? = some (.str ⟨#[cd]⟩ t) ∧ cd ≤ 1114111 := by
  revert r
  refine @below_succ _ _ (below_succ (below_succ (below_succ (below_succ (below_succ (below_succ below_zero ?_) ?_) ?_) ?_) ?_) ?_) ?_
  · exact ⟨97, _, rfl, by omega⟩
  · exact ⟨90, _, rfl, by omega⟩
  · exact ⟨0, _, rfl, by omega⟩
  · exact ⟨127, _, rfl, by omega⟩
  · exact ⟨128, _, rfl, by omega⟩
  · exact ⟨8364, _, rfl, by omega⟩
  · exact ⟨1114111, _, rfl, by omega⟩
def LV (w : World) (prog : Program) (n : Nat) : Prop :=
  ∀ {A : Around} {E : Value → Shared → Prop} {s : Shared} {Q : Value → Shared → Prop} {hB : Heap} {B c : Addr} {P depth : Nat} {td : Tok},
    G0 w hB → hB.StaysIn s.heap → hB.get? B = none → Room A (n + 6) → Box s.heap B c P → P + drw n ≤ 100000 → depth + n = 3 →
    (∀ h' v tk' d, Heap.ExtBut B s.heap h' → Box h' B c (P + drw n) → IsV h' d v → Good (vsz n) (21 + n) d → Q v { s with heap := h', toks := tk' }) →
    wpS (model prog w) A (call (.ref 153) [.ref B, .int (depth : Nat) td]) Q E s
inductive ChI (w : World) (hE hR : Heap) (L B c : Addr) (P i : Nat) (h : Heap) : Prop where
  | mk (lo : List (Str × Value)) (v : Value) (F : FS w hE L lo hR h) (bx : Box h B c P) (e1 : lo.lookup (Str.ofString "chain") = some v) (hv : IsV h (chainD i) v) : ChI w hE hR L B c P i h
theorem spec_law_value {w : World} {prog : Program} {n : Nat} (hv : ∀ n', n = n' + 1 → LV w prog n') : LV w prog n := by
  intro A E s Q hB B c P depth td GB st nB R bx hP hdn hQ
  refine callCS [(Str.ofString "box", .ref B), (Str.ofString "depth", .int (depth : Nat) td)] [] (GB.keeps st) (R.mono (m := n + 5 + 1) (by omega)) (by exact rfl) (by exact rfl) (by kernel_rfl) (by exact rfl) (fun L x hx => ?_) (fun L => ?_)
    fun L h₁ tk A' F₀ cs k R' => ?_
  · rcases List.mem_cons.mp hx with rfl | hx
    · exact .inr ⟨rfl, rfl⟩
    rcases List.mem_cons.mp hx with rfl | hx
    · exact .inr ⟨rfl, rfl⟩
    · cases hx
  · exact rfl
  have BL : B < L := by
    obtain ⟨o, ho⟩ := bx.get
    exact Nat.lt_of_lt_of_le (Heap.lt_size ho) F₀.fr.above
  have c1 : h₁.IsCell (L + 1) (some (.ref B)) := (cs (Str.ofString "box") (L + 1) rfl).1
  have c2 : h₁.IsCell (L + 2) (some (.int (depth : Nat) td)) := (cs (Str.ofString "depth") (L + 2) rfl).1
  have F := F₀.hid GB st nB (Nat.ne_of_lt BL)
  have bx₁ := bx.stays k
  have hn5 := drw_ge n
  have hz49 := vsz_ge n
  clear F₀ cs
  have stF : ∀ {h : Heap} {lo : List (Str × Value)}, FS w (hid s.heap B) L lo (hid h₁ B) h → hB.StaysIn h := fun F b o e => F.fr.keep b o (hid_get (fun z => by rw [z, nB] at e; cases e) (st b o e))
  have ce1 : ∀ {h : Heap} {lo : List (Str × Value)}, FS w (hid s.heap B) L lo (hid h₁ B) h → h.IsCell (L + 1) (some (.ref B)) := fun F => by
    obtain ⟨o, ho, hd⟩ := c1
    exact ⟨o, F.ext _ _ (Nat.succ_ne_self L) (hid_get (Nat.ne_of_gt (Nat.lt_succ_of_lt BL)) ho), hd⟩
  have ce2 : ∀ {h : Heap} {lo : List (Str × Value)}, FS w (hid s.heap B) L lo (hid h₁ B) h → h.IsCell (L + 2) (some (.int (depth : Nat) td)) := fun F => by
    obtain ⟨o, ho, hd⟩ := c2
    exact ⟨o, F.ext _ _ (Nat.ne_of_gt (Nat.lt_succ_of_lt (Nat.lt_succ_self L))) (hid_get (Nat.ne_of_gt (Nat.lt_succ_of_lt (Nat.lt_succ_of_lt BL))) ho), hd⟩
  have fin : ∀ {h : Heap} {lo : List (Str × Value)} {v : Value} {d : Dat} {P' tk' : Nat}, FS w (hid s.heap B) L lo (hid h₁ B) h → Box h B c P' → P' ≤ P + drw n → IsV h d v → Good (vsz n) (21 + n) d → Q v { s with heap := h, toks := tk' } :=
    fun F b1 b2 b3 b4 => hQ _ _ _ _ (fun b o hb e => F.fr.keep b o (hid_get hb e)) (b1.mono b2) b3 b4
  -- a draw from the box in a frame whose box stands in a cell
  have draw : ∀ {A : Around} {E : Value → Shared → Prop} {env : Env} {h : Heap} {lo : List (Str × Value)} {P' tk lim : Nat} {Q' : Value → Shared → Prop} {px pb pos : Pos} {el : Expr},
      FS w (hid s.heap B) L lo (hid h₁ B) h → Box h B c P' → P' ≤ 100000 → Room A 4 → 0 < lim → lim ≤ 10 ^ 100 → env.scope.kind = .function → env.kindOf (Str.ofString "_law_draw") = some .globalImplicit → env.globals = mainGlobals →
      env.kindOf (Str.ofString "box") = some .cell → env.cells.lookup (Str.ofString "box") = some (L + 1) →
      (backTo pos (starEach [.Name (Str.ofString "box") pb, el] env)).any (·.1) = false → starEach [.Name (Str.ofString "box") pb, el] env = (false, eval (.Name (Str.ofString "box") pb) env) :: starEach [el] env → starEach [el] env = (false, eval el env) :: starEach [] env →
      wpAny (model prog w) A (eval el env) (fun v s₁ => ∃ t tk₁, v = .int (lim : Nat) t ∧ s₁ = { s with heap := h, toks := tk₁ }) (fun _ _ => False) { s with heap := h, toks := tk } →
      (∀ h' r t tk', r < lim → FS w (hid s.heap B) L lo (hid h₁ B) h' → Heap.ExtBut B h h' → Box h' B c (P' + 1) → Q' (.int (r : Nat) t) { s with heap := h', toks := tk' }) →
      wpAny (model prog w) A (eval (.Call (.Name (Str.ofString "_law_draw") px) [.Name (Str.ofString "box") pb, el] [] pos) env) Q' E { s with heap := h, toks := tk } := by
    intro A E env h lo P' tk lim Q' px pb pos el F bx hP' R h0 hl hk hx hg hb1 hb2 hp e1 e2 hel hQ'
    refine callN (f := 148) (by exact rfl) (by exact rfl) hp (n_law_draw F.gh ⟨rfl, argsC e1 (wpAny_Name (wpAny_loadName_cell hk hb1 hb2 (ce1 F) (argsC e2 ?_)) (by decide))⟩ hk hx hg)
    refine wpAny_mono hel (fun v s₁ h₁ => ?_) fun _ _ x => x.elim
    obtain ⟨t, tk₁, rfl, rfl⟩ := h₁
    refine argsN ⟨F.gh, ?_⟩
    exact spec_law_draw GB (stF F) nB R bx hP' h0 hl fun h' r t tk' hr ke bx' => hQ' h' r t tk' hr (F.ebut hid_none hid_none (.inr ke)) ke bx'
  refine sCons (sAsg (by rfl) (ofAny ?_))
  refine draw (lim := 5) F bx₁ (by omega) (R'.mono (by omega)) (by omega) (by decide +kernel) rfl rfl rfl rfl rfl (by rfl) (by rfl) (by rfl) ?_ fun h₂ r t₂ tk₂ hr F₂ ke₂ bx₂ => ?_
  · walk_at "W"
    exact ⟨_, _, rfl, rfl⟩
  have cL : c < L := by
    obtain ⟨o, ho⟩ := bx₁.getc
    obtain ⟨o', ho'⟩ := bx.getc
    have := F.fr.above
    rw [hideAll_size] at this
    exact Nat.lt_of_lt_of_le (Heap.lt_size ho') this
  walk_at "st"
  intro h₃ k₃ F₃ b₃
  have bx₃ := bx₂.ebut b₃.extBut (Nat.ne_of_lt BL) (Nat.ne_of_lt cL)
  clear F F₂ bx₁ bx₂ ke₂ b₃
  refine sCons (sIf (ofAny ?_))
  walk_at "W"
  refine wIteT (fun hw => ?_) (fun hw => ?_)
  · refine sCons (sRet (ofAny ?_))
    refine wpAny_BinOp ?_
    refine callN (f := 148) (by exact rfl) (by exact rfl) (by rfl) (n_law_draw F₃.gh ⟨rfl, argsC (by rfl) (wpAny_Name (wpAny_loadName_cell rfl rfl (c := L + 1) rfl (ce1 F₃) ?_) (by decide))⟩)
    refine argsC (by rfl) (wpAny_BinOp ?_)
    walk_at "W"
    refine Subscript_ (list_new ?_)
    walk_at "W"
    refine ⟨by show 4 ≤ 16777216; omega, fun h₄ c₄ n₄ st₄ l₄ => ?_⟩
    have F₄ := F₃.stays st₄
    have bx₄ := bx₃.stays st₄
    have c₄B : c₄ ≠ B := fun z => by obtain ⟨o, ho⟩ := bx₃.get; rw [← z, n₄] at ho; cases ho
    refine draw (lim := 4) F₄ bx₄ (by omega) (R'.mono (by omega)) (by omega) (by decide +kernel) rfl rfl rfl rfl rfl (by rfl) (by rfl) (by rfl) ?_ fun h₅ r₅ t₅ tk₅ hr₅ F₅ ke₅ bx₅ => ?_
    · walk_at "W"
      exact ⟨_, _, rfl, rfl⟩
    have l₅ := l₄.isList.extBut ke₅ c₄B
    obtain ⟨ex, tx, hex, hex2⟩ := menu1 hr₅ _ _ _ _
    refine item_lstT (k := r₅) l₅ (by omega) (by simpa using hex) ?_ (by rfl)
    refine pow_int_small (by omega) (by omega) (by decide) ?_
    refine argsN ⟨F₅.gh, ?_⟩
    have e10 : (10 : Int) ^ ((ex : Nat) : Int).toNat = ((10 ^ ex : Nat) : Int) := by rw [Int.toNat_natCast]; norm_cast
    have h10 : 10 ^ ex ≤ 10 ^ 100 := Nat.pow_le_pow_right (by omega) hex2
    rw [e10]
    refine spec_law_draw GB (stF F₅) nB (R'.mono (by omega)) bx₅ (by omega) (Nat.pow_pos (by omega)) h10 fun h₆ r₆ t₆ tk₆ hr₆ ke₆ bx₆ => ?_
    have F₆ := F₅.ebut hid_none hid_none (.inr ke₆)
    walk_at "W"
    refine fin F₆ bx₆ (by omega) (d := .int ((r₆ : Int) - 100)) (by rw [IsV]; exact ⟨_, rfl⟩) ((good_int (by omega) ?_).mono (by omega) (by omega))
    have : ((r₆ : Nat) : Int) < ((10 ^ 100 : Nat) : Int) := by exact_mod_cast Nat.lt_of_lt_of_le hr₆ h10
    have e : (10 : Int) ^ 100 = ((10 ^ 100 : Nat) : Int) := by norm_cast
    rw [e]
    generalize 10 ^ 100 = Y at this ⊢
    omega
  refine sNil (sCons (sIf (ofAny ?_)))
  walk_at "W"
  refine wIteT (fun hw => ?_) (fun hw => ?_)
  · refine sCons (sRet ?_)
    refine sMeth (by exact rfl) (ofAny ?_)
    walk_at "W"
    refine getMethod_builtin (typeIs_str _ _ _) PySem.F.plainAttrs_str PySem.F.slot_str_join PySem.F.type_str_join (fun _ e => nomatch e) ?_
    refine sCallWithB rfl (sArgsC (by exact rfl) ?_)
    refine sCompBox s (cl := [(Str.ofString "box", L + 1)]) 1 (fun d => ∃ c, c ≤ 1114111 ∧ d = .str [c]) (by intro _; rfl) (by rfl) (by rfl) (by decide) (by decide) (fun C => by rfl) (by intro _ _; rfl) R'.hd (hE := hid s.heap B) (hR := hid h₁ B) (L := L) (B := B) (c := c) (l := [(Str.ofString "way", .int (r : Nat) t₂)]) hid_none hid_none (ofAny ?_)
    refine callM (f := .type "range") (by rfl) (by rfl) (nb_range F₃.gh ⟨rfl, argsC (by rfl) ?_⟩)
    refine draw (lim := 4) F₃ bx₃ (by omega) (R'.mono (by omega)) (by omega) (by decide +kernel) rfl rfl rfl rfl rfl (by rfl) (by rfl) (by rfl) ?_ fun h₄ r₄ t₄ tk₄ hr₄ F₄ ke₄ bx₄ => ?_
    · walk_at "W"
      exact ⟨_, _, rfl, rfl⟩
    refine argsN (iter_range_nat (by omega) fun h₅ k₅ it nit st₅ hit => ?_)
    refine ⟨it, r₄, _, h₄, rfl, by omega, rfl, hit, nit, st₅, F₄, bx₄, ?_, ?_⟩
    · intro i h tk C m hi F bx hns
      refine ofAny (Subscript_ (list_new ?_))
      walk_at "W"
      refine callM (f := .builtin "chr") (by rfl) (by rfl) (nb_chr F.gh ⟨rfl, ?_⟩)
      walk_at "W"
      refine PySem.P.chr_of_int (by decide) ?_
      walk_at "W"
      refine ⟨by show 7 ≤ 16777216; omega, fun h₆ c₆ n₆ st₆ l₆ => ?_⟩
      have F₆ := F.stays st₆
      have bx₆ := bx.stays st₆
      have c₆B : c₆ ≠ B := fun z => by obtain ⟨o, ho⟩ := bx.get; rw [← z, n₆] at ho; cases ho
      refine draw (lim := 7) F₆ bx₆ (by omega) (R'.mono (by omega)) (by omega) (by decide +kernel) rfl rfl rfl rfl rfl (by rfl) (by rfl) (by rfl) ?_ fun h₇ r₇ t₇ tk₇ hr₇ F₇ ke₇ bx₇ => ?_
      · walk_at "W"
        exact ⟨_, _, rfl, rfl⟩
      have l₇ := l₆.isList.extBut ke₇ c₆B
      obtain ⟨cd, tx, hcd, hcd2⟩ := menu3 hr₇ _ _ _ _ _ _ _
      refine item_lstT (k := r₇) l₇ (by omega) (by simpa using hcd) ?_ (by rfl)
      refine ⟨h₇, _, .str [cd], rfl, fun b o hb e => ke₇ b o hb (st₆ b o e), bx₇.mono (by omega), ?_, cd, hcd2, rfl⟩
      rw [IsV]
      exact ⟨_, rfl⟩
    · intro h tk ys acc dl F bx ha e1 vl hK
      obtain ⟨sg, s1, s2, s3⟩ := strs_of vl hK
      refine sArgsN (ofAny ?_)
      refine join_list (PlainList.isList ha) s1 ?_ fun t' k => ?_
      · have hl1 : ∀ l : List Nat, ((l.map fun c => (⟨#[c]⟩ : Str)).map (·.length)).sum = l.length := fun l => by
          induction l with
          | nil => rfl
          | cons c l ih => simp only [List.map_cons, List.sum_cons, List.length_cons, ih]; show 1 + _ = _; omega
        rw [hl1, List.length_map]
        show _ + _ * 0 ≤ _
        omega
      · refine fin F bx (by omega) (d := .str sg) ?_ ((good_str s3 (by omega)).mono (by omega) (by omega))
        rw [IsV]
        exact ⟨_, congrArg (fun x => Value.str x _) (join_signs sg)⟩
  refine sNil (sCons (sIf (ofAny ?_)))
  walk_at "W"
  refine wIteT (fun hw => ?_) (fun hw => ?_)
  · refine sCons (sRet ?_)
    refine sCallM (f := .type "bytes") (by rfl) (by rfl) (nb_bytes F₃.gh ⟨rfl, sArgsC (by exact rfl) ?_⟩)
    refine sCompBox s (cl := [(Str.ofString "box", L + 1)]) 1 (fun d => ∃ n : Nat, n < 256 ∧ d = .int n) (by intro _; rfl) (by rfl) (by rfl) (by decide) (by decide) (fun C => by rfl) (by intro _ _; rfl) R'.hd (hE := hid s.heap B) (hR := hid h₁ B) (L := L) (B := B) (c := c) (l := [(Str.ofString "way", .int (r : Nat) t₂)]) hid_none hid_none (ofAny ?_)
    refine callM (f := .type "range") (by rfl) (by rfl) (nb_range F₃.gh ⟨rfl, argsC (by rfl) ?_⟩)
    refine draw (lim := 4) F₃ bx₃ (by omega) (R'.mono (by omega)) (by omega) (by decide +kernel) rfl rfl rfl rfl rfl (by rfl) (by rfl) (by rfl) ?_ fun h₄ r₄ t₄ tk₄ hr₄ F₄ ke₄ bx₄ => ?_
    · walk_at "W"
      exact ⟨_, _, rfl, rfl⟩
    refine argsN (iter_range_nat (by omega) fun h₅ k₅ it nit st₅ hit => ?_)
    refine ⟨it, r₄, _, h₄, rfl, by omega, rfl, hit, nit, st₅, F₄, bx₄, ?_, ?_⟩
    · intro i h tk C m hi F bx hns
      refine ofAny ?_
      refine draw (lim := 256) F bx (by omega) (R'.mono (by omega)) (by omega) (by decide +kernel) rfl rfl rfl rfl rfl (by rfl) (by rfl) (by rfl) ?_ fun h₇ r₇ t₇ tk₇ hr₇ F₇ ke₇ bx₇ => ?_
      · walk_at "W"
        exact ⟨_, _, rfl, rfl⟩
      refine ⟨h₇, _, .int r₇, rfl, ke₇, bx₇.mono (by omega), ?_, r₇, hr₇, rfl⟩
      rw [IsV]
      exact ⟨_, rfl⟩
    · intro h tk ys acc dl F bx ha e1 vl hK
      obtain ⟨ns, s1, s2, s3⟩ := ints_of vl hK
      refine sArgsN (ofAny ?_)
      refine call_bytes_ints (PlainList.isList ha) s1 (fun x hx => ?_) (by rw [s1.length]; simp [natI]; show _ ≤ 16777216; omega) R'.hd fun h₉ t₉ k₉ st₉ => ?_
      · obtain ⟨z, hz, rfl⟩ := List.mem_map.mp hx
        have := s3 z hz
        omega
      · refine fin (F.stays st₉) (bx.stays st₉) (by omega) (d := .byt (byteArr (natI ns)).toList) ?_ ((good_byt ?_).mono (by omega) (by omega))
        · rw [IsV]
          exact ⟨_, rfl⟩
        · rw [Array.length_toList, byteArr_size]
          simp [natI]
          omega
  refine sNil (sCons (sMono (Q := fun f s' => (f = .next ∧ ∃ tk, s' = { s with heap := h₃, toks := tk }) ∨ ∃ v, f = .ret v ∧ Q v s') ?_ (fun f s' hx => ?_) fun _ _ x => x))
  · refine sIf (ofAny ?_)
    refine wpAny_isTrue_BoolOp (wpAny_allTrue_And_cons ?_)
    walk_at "W"
    refine wIteT (fun hw3 => ?_) (fun hw3 => ?_)
    · refine wpAny_allTrue_And_cons ?_
      refine wTst (by rfl) (wpAny_Name (wpAny_loadName_cell rfl rfl (c := L + 2) rfl (ce2 F₃) ?_) (by decide))
      walk_at "W"
      refine wIteT (fun hd3 => ?_) (fun hd3 => ?_)
      · refine wpAny_allTrue_And_nil ?_
        refine wIteT (fun _ => ?_) (fun z => absurd z (by decide))
        obtain ⟨n', rfl⟩ : ∃ m, n = m + 1 := ⟨n - 1, by have := of_decide_eq_true hd3; omega⟩
        have hv : LV w prog n' := @hv n' rfl
        rw [drw] at hP fin
        rw [vsz] at fin
        refine sCons (sRet ?_)
        refine sCallM (f := .type "tuple") (by rfl) (by rfl) (nb_tuple F₃.gh ⟨rfl, sArgsC (by exact rfl) ?_⟩)
        refine sCompBox s (cl := [(Str.ofString "depth", L + 2), (Str.ofString "box", L + 1)]) (drw n') (fun d => Good (vsz n') (21 + n') d) (by intro _; rfl) (by rfl) (by rfl) (by decide) (by decide) (fun C => by rfl) (by intro _ _; rfl) R'.hd
          (hE := hid s.heap B) (hR := hid h₁ B) (L := L) (B := B) (c := c) (l := [(Str.ofString "way", .int (r : Nat) t₂)]) hid_none hid_none (ofAny ?_)
        refine callM (f := .type "range") (by rfl) (by rfl) (nb_range F₃.gh ⟨rfl, argsC (by rfl) ?_⟩)
        refine draw (lim := 3) F₃ bx₃ (by omega) (R'.mono (by omega)) (by omega) (by decide +kernel) rfl rfl rfl rfl rfl (by rfl) (by rfl) (by rfl) ?_ fun h₄ r₄ t₄ tk₄ hr₄ F₄ ke₄ bx₄ => ?_
        · walk_at "W"
          exact ⟨_, _, rfl, rfl⟩
        refine argsN (iter_range_nat (by omega) fun h₅ k₅ it nit st₅ hit => ?_)
        refine ⟨it, r₄, _, h₄, rfl, by omega, rfl, hit, nit, st₅, F₄, bx₄, ?_, ?_⟩
        · intro i h tk C m hi F bx hns
          have hil : i * drw n' ≤ 1 * drw n' := Nat.mul_le_mul_right _ (by omega)
          refine sCallN (f := 153) (by exact rfl) (by exact rfl) (by rfl) (n_law_value F.gh ⟨rfl, sArgsC (by exact rfl) (ofAny (wpAny_Name (wpAny_loadName_cell rfl rfl (c := L + 1) rfl (ce1 F) ?_) (by decide)))⟩)
          refine sArgsC (by exact rfl) (ofAny (wpAny_BinOp (wpAny_Name (wpAny_loadName_cell rfl rfl (c := L + 2) rfl (ce2 F) ?_) (by decide))))
          walk_at "W"
          refine sArgsN ⟨F.gh, ?_⟩
          have edp : ((depth : Nat) : Int) + 1 = ((depth + 1 : Nat) : Int) := by push_cast; rfl
          rw [edp]
          refine hv GB (stF F) nB (R'.mono (by omega)) bx (by omega) (by omega) fun h₇ v₇ tk₇ d₇ ke₇ bx₇ hv₇ g₇ => ?_
          exact ⟨h₇, _, d₇, rfl, ke₇, bx₇.mono (by rw [Nat.add_mul, Nat.one_mul]; omega), hv₇, g₇⟩
        · intro h tk ys acc dl F bx ha e1 vl hK
          have hil : r₄ * drw n' ≤ 2 * drw n' := Nat.mul_le_mul_right _ (by omega)
          have hys : ys.size = dl.length := by have := vl.len; simpa using this
          refine sArgsN (ofAny ?_)
          refine tup_of_lst (PlainList.isList ha) (fun h₈ c₈ n₈ st₈ t₈ => ?_) (by show _ ≤ 16777216; omega)
          refine .inr ⟨_, rfl, fin (F.stays st₈) (bx.stays st₈) (by omega) (d := .tup dl) ?_ ((Good.tup hK (m := 2) (by omega) (by omega)).mono (by omega) (by omega))⟩
          rw [IsV]
          exact ⟨c₈, ys, rfl, t₈, vl.stays st₈⟩
      · refine wIteT (fun z => absurd z (by decide)) (fun _ => ?_)
        exact sNil (.inl ⟨rfl, _, rfl⟩)
    · refine wIteT (fun z => absurd z (by decide)) (fun _ => ?_)
      exact sNil (.inl ⟨rfl, _, rfl⟩)
  · rcases hx with ⟨rfl, tk₆, rfl⟩ | ⟨v, rfl, hq⟩
    · refine sCons (sAsg (by rfl) (ofAny (tup_new (argsN ⟨by show 0 ≤ 16777216; omega, fun h₄ c₄ n₄ st₄ t₄ => ?_⟩))))
      have F₄ := F₃.stays st₄
      have bx₄ := bx₃.stays st₄
      have c₄L := ns_ne F₃.fr.ns n₄
      clear F₃ bx₃
      walk_at "st"
      intro h₅ k₅ F₅ b₅
      have bx₅ := bx₄.ebut b₅.extBut (Nat.ne_of_lt BL) (Nat.ne_of_lt cL)
      have t₅ : IsTup h₅ c₄ #[] := t₄.extBut b₅.extBut c₄L
      clear F₄ bx₄ t₄
      refine sCons (sMono (Q := fun f s' => f = .next ∧ ∃ j h' tk', j ≤ 20 ∧ s' = { s with heap := h', toks := tk' } ∧ ChI w (hid s.heap B) (hid h₁ B) L B c (P + 1 + 1) j h')
        (ofAny ?_) (fun f s' hx => ?_) fun _ _ x => x)
      · refine wForW s R'.hd PassesOwn.never (by intro _; rfl) (by intro _ _; rfl) ?_
        refine callM (f := .type "range") (by rfl) (by rfl) (nb_range F₅.gh ⟨rfl, argsC (by rfl) (Subscript_ (list_new ?_))⟩)
        walk_at "W"
        refine ⟨by show 5 ≤ 16777216; omega, fun h₆ c₆ n₆ st₆ l₆ => ?_⟩
        have F₆ := F₅.stays st₆
        have bx₆ := bx₅.stays st₆
        have c₆B : c₆ ≠ B := fun z => by obtain ⟨o, ho⟩ := bx₅.get; rw [← z, n₆] at ho; cases ho
        have t₆ : IsTup h₆ c₄ #[] := IsTup.keeps t₅ st₆
        refine draw (lim := 5) F₆ bx₆ (by omega) (R'.mono (by omega)) (by omega) (by decide +kernel) rfl rfl rfl rfl rfl (by rfl) (by rfl) (by rfl) ?_ fun h₇ r₇ t₇' tk₇ hr₇ F₇ ke₇ bx₇ => ?_
        · walk_at "W"
          exact ⟨_, _, rfl, rfl⟩
        have c₄B : c₄ ≠ B := fun z => bx₆.noTup _ (z ▸ t₆)
        have t₇ : IsTup h₇ c₄ #[] := t₆.extBut ke₇ c₄B
        have l₇ := l₆.isList.extBut ke₇ c₆B
        obtain ⟨ex, tx, hex, hex2⟩ := menu2 hr₇ _ _ _ _ _
        refine item_lstT (k := r₇) l₇ (by omega) (by simpa using hex) ?_ (by rfl)
        refine argsN (iter_range_nat (by omega) fun h₈ k₈ it nit st₈ hit => ?_)
        have F₈ := F₇.stays st₈
        have itL : it ≠ L := ns_ne F₇.fr.ns nit
        have itE : (hid s.heap B).get? it = none ∧ (hid h₁ B).get? it = none := by
          refine ⟨get_none_of_stays F₇.fr.keep nit, ?_⟩
          cases q : (hid h₁ B).get? it with
          | none => rfl
          | some o => exact absurd (F₇.ext _ _ itL q) (by rw [nit]; simp)
        have itB : B ≠ it := fun z => by obtain ⟨o, ho⟩ := bx₇.get; rw [z, nit] at ho; cases ho
        have itc : c ≠ it := fun z => by obtain ⟨o, ho⟩ := bx₇.getc; rw [z, nit] at ho; cases ho
        refine ⟨_, _, it, _, _, fun i h => ChI w (hid s.heap B) (hid h₁ B) L B c (P + 1 + 1) i h,
          walker_range prog w ex it, rfl, rfl, hit, ⟨_, _, F₈, bx₇.stays st₈, rfl, ?_⟩, ?_, ?_, ?_⟩
        · rw [chainD, IsV]
          exact ⟨c₄, _, rfl, IsTup.keeps t₇ st₈, by simp [IsVL]⟩
        · rintro i h h' _ hi ⟨lo, v, F, bx, e1, hv⟩ kk
          exact ⟨lo, v, F.ebut itE.1 itE.2 kk, bx.ebut (kk.elim (·.extBut) id) itB itc, e1, hv.ebut (kk.elim (·.extBut) id) (noTup_cls hi (by simp))⟩
        · rintro i vv h tk hin _ hit' ⟨lo, v, F, bx, e1, hv⟩
          clear F₅ F₆ F₇ F₈ t₅ t₆ t₇ l₆ l₇ bx₅ bx₆ bx₇
          have noL : ∀ {h : Heap} {lo : List (Str × Value)}, FS w (hid s.heap B) L lo (hid h₁ B) h → ∀ items, ¬ IsTup h L items := fun F => noTup_ns F.fr.ns
          walk_at "st"
          intro h₉ k₉ F₉ b₉
          have bx₉ := bx.ebut b₉.extBut (Nat.ne_of_lt BL) (Nat.ne_of_lt cL)
          have hv₉ := hv.ebut b₉.extBut (noL F)
          refine wpAny_execs_cons (wAsg (by rfl) (tup_new (argsC (by rfl) ?_)))
          walk_at "X"
          refine ⟨by show 1 ≤ 16777216; omega, fun h₁₀ c₁₀ n₁₀ st₁₀ t₁₀ => ?_⟩
          have F₁₀ := F₉.stays st₁₀
          have bx₁₀ := bx₉.stays st₁₀
          have v₁₀ : IsV h₁₀ (chainD (i + 1)) (.ref c₁₀) := by
            rw [chainD, IsV]
            refine ⟨c₁₀, _, rfl, t₁₀, ?_⟩
            simp only [IsVL]
            exact ⟨_, _, rfl, hv₉.stays st₁₀, rfl⟩
          walk_at "st"
          intro h₁₁ k₁₁ F₁₁ b₁₁
          walk_at "X"
          refine ⟨h₁₁, _, rfl, ⟨_, _, F₁₁, bx₁₀.ebut b₁₁.extBut (Nat.ne_of_lt BL) (Nat.ne_of_lt cL), by rw [lookup_setL, if_pos rfl], v₁₀.ebut b₁₁.extBut (noL F₁₀)⟩, ?_⟩
          have nn : L ∉ [it] := by simpa using itL.symm
          exact Keep.trans (h' := h₉) (Keep.but b₉ nn) (Keep.trans (h' := h₁₀) (Keep.stays st₁₀) (Keep.but b₁₁ nn))
        · rintro h tk ⟨lo, v, F, bx, e1, hv⟩
          exact ⟨rfl, ex, h, tk, hex2, rfl, lo, v, F, bx, e1, hv⟩
      · obtain ⟨rfl, j, h', tk', hj, rfl, lo, v, F, bx, e1, hv⟩ := hx
        refine sCons (sRet (ofAny ?_))
        walk_at "X"
        exact fin F bx (by omega) hv ((chain_good j).mono (by omega) (by omega))
    · exact hq
theorem spec_value_of (w : World) (prog : Program) : ∀ n, LV w prog n
  | 0 => spec_law_value fun n' e => absurd e (by omega)
  | n + 1 => spec_law_value fun n' e => by
    obtain rfl : n = n' := by omega
    exact spec_value_of w prog n
theorem fs_hereH {w : World} {hE hR h : Heap} {L B : Addr} {l : List (Str × Value)} (F : FS w hE L l hR h) (BL : B ≠ L) : FS w hE L l (hid h B) h :=
  ⟨F.g, F.fr, fun _ _ _ e => of_hideAll _ e, let ⟨o, es, ep, ho, r⟩ := F.fr.ns; ⟨_, o, es, ep, hid_get BL.symm ho, r⟩⟩
theorem fs_backH {w : World} {hE h₁ h₃ h : Heap} {L B : Addr} {l l' : List (Str × Value)} (F₃ : FS w hE L l (hid h₁ B) h₃) (F : FS w hE L l' (hid h₃ B) h) : FS w hE L l' (hid h₁ B) h :=
  ⟨F.g, F.fr, fun b o hb e => F.ext b o hb (hid_get (fun z => by rw [z, hid_none] at e; cases e) (F₃.ext b o hb e)), F₃.nsR⟩
inductive SgI (w : World) (s : Shared) (hE hR : Heap) (L B c : Addr) (P : Nat) (v : Value) (s' : Shared) : Prop where
  | mk (sg : List Nat) (ts : Tok) (tk' : Nat) (h₂ : Heap) (hv : v = .str ⟨List.toArray sg⟩ ts) (e : s' = { s with heap := h₂, toks := tk' }) (F : FS w hE L [] hR h₂) (bx : Box h₂ B c (P + 1)) (hc : ∀ x ∈ sg, x ≤ 1114111) (hl : sg.length ≤ 4) : SgI w s hE hR L B c P v s'
theorem spec_law_row {w : World} {prog : Program} {A : Around} {E : Value → Shared → Prop} {s : Shared} {Q : Value → Shared → Prop} {hB : Heap} {B c : Addr} {P : Nat}
    (GB : G0 w hB) (st : hB.StaysIn s.heap) (nB : hB.get? B = none) (R : Room A 9) (bx : Box s.heap B c P) (hP : P + 80 ≤ 100000)
    (hQ : ∀ h' v tk' sg dl, Heap.ExtBut B s.heap h' → Box h' B c (P + 80) → IsV h' (.tup (.str sg :: dl)) v → Good 900 24 (.tup (.str sg :: dl)) → Q v { s with heap := h', toks := tk' }) :
    wpS (model prog w) A (call (.ref 158) [.ref B]) Q E s := by
  refine callCS [(Str.ofString "box", .ref B)] [] (GB.keeps st) (R.mono (m := 8 + 1) (by omega)) (by exact rfl) (by exact rfl) (by kernel_rfl) (by exact rfl) (fun L x hx => ?_) (fun L => ?_)
    fun L h₁ tk A' F₀ cs k R' => ?_
  · rcases List.mem_cons.mp hx with rfl | hx
    · exact .inr ⟨rfl, rfl⟩
    · cases hx
  · exact rfl
  have BL : B < L := by
    obtain ⟨o, ho⟩ := bx.get
    exact Nat.lt_of_lt_of_le (Heap.lt_size ho) F₀.fr.above
  have c1 : h₁.IsCell (L + 1) (some (.ref B)) := (cs (Str.ofString "box") (L + 1) rfl).1
  have F := F₀.hid GB st nB (Nat.ne_of_lt BL)
  have bx₁ := bx.stays k
  clear F₀ cs
  have stF : ∀ {h : Heap} {lo : List (Str × Value)}, FS w (hid s.heap B) L lo (hid h₁ B) h → hB.StaysIn h := fun F b o e => F.fr.keep b o (hid_get (fun z => by rw [z, nB] at e; cases e) (st b o e))
  have ce1 : ∀ {h : Heap} {lo : List (Str × Value)}, FS w (hid s.heap B) L lo (hid h₁ B) h → h.IsCell (L + 1) (some (.ref B)) := fun F => by
    obtain ⟨o, ho, hd⟩ := c1
    exact ⟨o, F.ext _ _ (Nat.succ_ne_self L) (hid_get (Nat.ne_of_gt (Nat.lt_succ_of_lt BL)) ho), hd⟩
  have draw : ∀ {A : Around} {E : Value → Shared → Prop} {env : Env} {h : Heap} {lo : List (Str × Value)} {P' tk lim : Nat} {Q' : Value → Shared → Prop} {px pb pos : Pos} {el : Expr},
      FS w (hid s.heap B) L lo (hid h₁ B) h → Box h B c P' → P' ≤ 100000 → Room A 4 → 0 < lim → lim ≤ 10 ^ 100 → env.scope.kind = .function → env.kindOf (Str.ofString "_law_draw") = some .globalImplicit → env.globals = mainGlobals →
      env.kindOf (Str.ofString "box") = some .cell → env.cells.lookup (Str.ofString "box") = some (L + 1) →
      (backTo pos (starEach [.Name (Str.ofString "box") pb, el] env)).any (·.1) = false → starEach [.Name (Str.ofString "box") pb, el] env = (false, eval (.Name (Str.ofString "box") pb) env) :: starEach [el] env → starEach [el] env = (false, eval el env) :: starEach [] env →
      wpAny (model prog w) A (eval el env) (fun v s₁ => ∃ t tk₁, v = .int (lim : Nat) t ∧ s₁ = { s with heap := h, toks := tk₁ }) (fun _ _ => False) { s with heap := h, toks := tk } →
      (∀ h' r t tk', r < lim → FS w (hid s.heap B) L lo (hid h₁ B) h' → Heap.ExtBut B h h' → Box h' B c (P' + 1) → Q' (.int (r : Nat) t) { s with heap := h', toks := tk' }) →
      wpAny (model prog w) A (eval (.Call (.Name (Str.ofString "_law_draw") px) [.Name (Str.ofString "box") pb, el] [] pos) env) Q' E { s with heap := h, toks := tk } := by
    intro A E env h lo P' tk lim Q' px pb pos el F bx hP' R h0 hl hk hx hg hb1 hb2 hp e1 e2 hel hQ'
    refine callN (f := 148) (by exact rfl) (by exact rfl) hp (n_law_draw F.gh ⟨rfl, argsC e1 (wpAny_Name (wpAny_loadName_cell hk hb1 hb2 (ce1 F) (argsC e2 ?_)) (by decide))⟩ hk hx hg)
    refine wpAny_mono hel (fun v s₁ h₁ => ?_) fun _ _ x => x.elim
    obtain ⟨t, tk₁, rfl, rfl⟩ := h₁
    refine argsN ⟨F.gh, ?_⟩
    exact spec_law_draw GB (stF F) nB R bx hP' h0 hl fun h' r t tk' hr ke bx' => hQ' h' r t tk' hr (F.ebut hid_none hid_none (.inr ke)) ke bx'
  refine sCons (sRet (sCallM (f := .type "tuple") (by rfl) (by rfl) (nb_tuple F.gh ⟨rfl, sArgsC (by exact rfl) (sBin (ofAny (list_new (argsC (by rfl)
    (wpAny_mono (Q := fun v s' => SgI w s (hid s.heap B) (hid h₁ B) L B c P v s')
      (wpAny_IfExp (wTst (by rfl) ?_)) (fun v s' hx => ?_) fun _ _ x => x)))))⟩)))
  · refine draw (lim := 4) F bx₁ (by omega) (R'.mono (by omega)) (by omega) (by decide +kernel) rfl rfl rfl rfl rfl (by rfl) (by rfl) (by rfl) ?_ fun h₂ r₂ t₂ tk₂ hr₂ F₂ ke₂ bx₂ => ?_
    · walk_at "W"
      exact ⟨_, _, rfl, rfl⟩
    walk_at "W"
    refine wIteT (fun _ => ?_) (fun _ => ?_)
    · walk_at "W"
      exact ⟨[], _, _, h₂, rfl, rfl, F₂, bx₂, by simp, by simp⟩
    · walk_at "W"
      exact ⟨[100, 101, 101, 100], _, _, h₂, rfl, rfl, F₂, bx₂, by simp, by simp⟩
  obtain ⟨sg, ts, tk₂, h₂, rfl, rfl, F₂, bx₂, hsg, hsl⟩ := hx
  clear F bx₁
  refine argsN ⟨by show 1 ≤ 16777216; omega, fun h₃ c₃ n₃ st₃ l₃ => ?_⟩
  have F₃ := F₂.stays st₃
  have bx₃ := bx₂.stays st₃
  have c₃B : c₃ ≠ B := fun z => by obtain ⟨o, ho⟩ := bx₂.get; rw [← z, n₃] at ho; cases ho
  have c₃L := ns_ne F₂.fr.ns n₃
  have H₃ := fs_hereH F₃ (Nat.ne_of_lt BL)
  clear F₂ bx₂
  refine sCompBox s (cl := [(Str.ofString "box", L + 1)]) 26 (fun d => Good 202 23 d) (by intro _; rfl) (by rfl) (by rfl) (by decide) (by decide) (fun C => by rfl) (by intro _ _; rfl) R'.hd
    (hE := hid s.heap B) (hR := hid h₃ B) (L := L) (B := B) (c := c) (l := []) hid_none hid_none (ofAny ?_)
  refine callM (f := .type "range") (by rfl) (by rfl) (nb_range F₃.gh ⟨rfl, argsC (by rfl) ?_⟩)
  refine draw (lim := 4) F₃ bx₃ (by omega) (R'.mono (by omega)) (by omega) (by decide +kernel) rfl rfl rfl rfl rfl (by rfl) (by rfl) (by rfl) ?_ fun h₄ r₄ t₄ tk₄ hr₄ F₄ ke₄ bx₄ => ?_
  · walk_at "W"
    exact ⟨_, _, rfl, rfl⟩
  refine argsN (iter_range_nat (by omega) fun h₅ k₅ it nit st₅ hit => ?_)
  refine ⟨it, r₄, _, h₄, rfl, by omega, rfl, hit, nit, st₅, H₃.ebut hid_none hid_none (.inr ke₄), bx₄, ?_, ?_⟩
  · intro i h tk C m hi F bx hns
    have F' := fs_backH F₃ F
    have edw : drw 2 = 26 := rfl
    refine sCallN (f := 153) (by exact rfl) (by exact rfl) (by rfl) (n_law_value F.gh ⟨rfl, sArgsC (by exact rfl) (ofAny (wpAny_Name (wpAny_loadName_cell rfl rfl (c := L + 1) rfl (ce1 F') ?_) (by decide)))⟩)
    refine sArgsC (by exact rfl) (ofAny ?_)
    walk_at "W"
    refine sArgsN ⟨F.gh, ?_⟩
    refine spec_value_of w prog 2 (depth := 1) GB (stF F') nB (R'.mono (by omega)) bx (by omega) (by omega) fun h₇ v₇ tk₇ d₇ ke₇ bx₇ hv₇ g₇ => ?_
    exact ⟨h₇, _, d₇, rfl, ke₇, bx₇.mono (by omega), hv₇, g₇.mono (by decide) (by omega)⟩
  · intro h tk ys acc dl F bx ha e1 vl hK
    have hys : ys.size = dl.length := by have := vl.len; simpa using this
    have l₈ : h.IsList c₃ (List.toArray [.str ⟨sg.toArray⟩ ts]) := by
      obtain ⟨o, ho⟩ := l₃
      exact ⟨_, F.ext _ _ c₃L (hid_get c₃B ho), rfl, _, rfl⟩
    refine add_lst l₈ (ws := ys.toList) (by simpa using PlainList.isList ha) (fun h₈ c₈ n₈ st₈ l₈ => ?_) (by show 1 + _ ≤ 16777216; simp; omega)
    have F' := (fs_backH F₃ F).stays st₈
    refine sArgsN (ofAny ?_)
    refine tup_of_lst (PlainList.isList l₈) (fun h₉ c₉ n₉ st₉ t₉ => ?_) (by simp; show _ ≤ 16777216; omega)
    have F₉ := F'.stays st₉
    refine hQ h₉ _ _ sg dl (fun b o hb e => F₉.fr.keep b o (hid_get hb e)) (((bx.stays st₈).stays st₉).mono (by omega)) ?_ ?_
    · rw [IsV]
      refine ⟨c₉, _, rfl, t₉, ?_⟩
      simp only [List.cons_append, List.nil_append, IsVL, IsV]
      exact ⟨_, _, rfl, ⟨_, rfl⟩, (vl.stays st₈).stays st₉⟩
    · have gs : Good 14 0 (.str sg) := by
        refine ⟨by simp [pureD], by rw [okD]; exact hsg, ?_, by simp [deep]⟩
        rw [spell, List.length_cons, List.length_append, figs_lt (by omega)]
        have := flat_len hsg
        simp only [List.length_cons, List.length_nil]
        omega
      refine (Good.tup (z := 202) (k := 23) (m := 4) (fun d hd => ?_) (by simp; omega) (by omega)).mono (by omega) (by omega)
      rcases List.mem_cons.mp hd with rfl | hd
      · exact gs.mono (by omega) (by omega)
      · exact hK d hd
section
variable {prog : Program} {w : World} {A : Around} {E : Value → Shared → Prop} {s : Shared}
theorem ints_arr {vs : List Value} {ns : List Int} (hi : IntsAre vs ns) : ∃ xs : Array (Int × Tok), vs.toArray = intItems xs ∧ ns = xs.toList.map (·.1) := by
  obtain ⟨xs, e⟩ := hi.allInts.items
  exact ⟨xs, e, by rw [← hi.numsOf, ← nums_intItems, ← e]⟩
theorem max_lst {l : Addr} {vs : List Value} {ns : List Int} {Q : Value → Shared → Prop} (hh : A.handled = none) (hl : s.heap.IsList l vs.toArray) (hi : IntsAre vs ns) (hne : 0 < ns.length)
    (h : ∀ h' M t tk, s.heap.StaysIn h' → M ∈ ns → (∀ a, a ∈ ns → a ≤ M) → Q (.int M t) { s with heap := h', toks := tk }) : wpAny (model prog w) A (call (.builtin "max") [.ref l]) Q E s := by
  obtain ⟨xs, e, hns⟩ := ints_arr hi
  have hsz : 0 < xs.size := by
    have h3 := hne; rw [hns, List.length_map, Array.length_toList] at h3; exact h3
  rw [e] at hl
  refine max_intList hh hl hsz fun v h' tk hv hk => ?_
  obtain ⟨t, rfl⟩ := intItems_at hv
  obtain ⟨h1, h2⟩ := argBest_gt (numAt xs) (xs.size - 1)
  refine h _ _ t tk hk ?_ fun a ha => ?_
  · rw [hns, numAt_eq]; exact getD_mem (by rw [List.length_map, Array.length_toList]; omega)
  · rw [hns] at ha
    obtain ⟨j, hj, rfl⟩ := mem_getD ha
    rw [List.length_map, Array.length_toList] at hj
    rw [← numAt_eq]; exact h2 j (by omega)
theorem sum_lst {l : Addr} {vs : List Value} {ns : List Int} {Q : Value → Shared → Prop} (hh : A.handled = none) (hl : s.heap.IsList l vs.toArray) (hi : IntsAre vs ns)
    (h : ∀ h' t tk, s.heap.StaysIn h' → Q (.int ns.sum t) { s with heap := h', toks := tk }) : wpAny (model prog w) A (call (.builtin "sum") [.ref l]) Q E s := by
  obtain ⟨xs, e, hns⟩ := ints_arr hi
  rw [e] at hl
  refine sum_intListG hh hl fun h' tk t' hk => ?_
  have := h h' t' tk hk
  rw [hns] at this
  rw [preSum_eq, List.take_of_length_le (by simp)]
  exact this
end
theorem deepL_max : ∀ {dl : List Dat} {M : Int}, M ∈ (dl.map fun d => ((deep d : Nat) : Int)) ++ [0] → (∀ a, a ∈ (dl.map fun d => ((deep d : Nat) : Int)) ++ [0] → a ≤ M) → M = ((deepL dl : Nat) : Int)
  | [], M, h1, _ => by rw [deepL]; simpa using h1
  | d :: dl, M, h1, h2 => by
    rw [deepL]
    have hd := h2 (deep d : Nat) (by simp)
    have key : ∀ (dl : List Dat) (a : Int), a ∈ (dl.map fun d => ((deep d : Nat) : Int)) ++ [0] → a ≤ ((deepL dl : Nat) : Int) := by
      intro dl
      induction dl with
      | nil => intro a h; simp at h; subst h; simp [deepL]
      | cons d dl ih =>
        intro a h
        rw [deepL]
        rw [List.map_cons, List.cons_append] at h
        rcases List.mem_cons.mp h with rfl | h
        · omega
        · have := ih a h; omega
    have key2 : ∀ (dl : List Dat), ((deepL dl : Nat) : Int) ∈ (dl.map fun d => ((deep d : Nat) : Int)) ++ [0] := by
      intro dl
      induction dl with
      | nil => simp [deepL]
      | cons d dl ih =>
        rw [deepL, List.map_cons, List.cons_append]
        rcases Nat.le_total (deep d) (deepL dl) with h | h
        · rw [Nat.max_eq_right h]; exact .tail _ ih
        · rw [Nat.max_eq_left h]; exact .head _
    have a1 := h2 _ (show ((deepL dl : Nat) : Int) ∈ _ from by rw [List.map_cons, List.cons_append]; exact .tail _ (key2 dl))
    rw [List.map_cons, List.cons_append] at h1
    rcases List.mem_cons.mp h1 with rfl | h1
    · omega
    · have := key dl M h1; omega
def LD (w : World) (prog : Program) (n : Nat) : Prop :=
  ∀ {A : Around} {E : Value → Shared → Prop} {s : Shared} {Q : Value → Shared → Prop} {d : Dat} {v : Value},
    G0 w s.heap → Room A (n + 4) → IsV s.heap d v → pureD d → (spell d).length ≤ 200000 → deep d ≤ n →
    (∀ h' t tk', s.heap.StaysIn h' → Q (.int (deep d : Nat) t) { s with heap := h', toks := tk' }) →
    wpS (model prog w) A (call (.ref 163) [v]) Q E s
theorem pure_nb {d : Dat} (h : pureD d) : d ≠ .bad := fun z => by rw [z, pureD] at h; exact h
theorem spec_law_depth {w : World} {prog : Program} {n : Nat} (hv : ∀ n', n = n' + 1 → LD w prog n') : LD w prog n := by
  intro A E s Q d v G R x pu hz hdp hQ
  refine callRS [(Str.ofString "value", v)] G (R.mono (m := n + 3 + 1) (by omega)) (by exact rfl) (by exact rfl) (by kernel_rfl) (by exact rfl) (by exact rfl) (by decide) fun L h₁ tk A' F k R' => ?_
  have x₁ := x.stays k
  have other : kTup d = false → deep d = 0 := fun h => by cases d <;> first | (simp [deep]; done) | (cases h)
  refine sCons (sIf (ofAny ?_))
  walk_at "bool"
  refine wpAny_isTrue_value ?_ (by rfl)
  walk_at "isi"
  refine nb_tuple F.gh ?_
  walk_at "W"
  refine isi_tuple x₁ (pure_nb pu) fun k₂ => ?_
  walk_at "W"
  refine wIteT (fun hk => ?_) (fun hk => sNil ?_)
  · refine sCons (sRet (ofAny ?_))
    walk_at "W"
    have e0 := other (by simpa using hk)
    have := hQ h₁
    rw [e0] at this
    exact this _ _ k
  · cases d with
    | int _ => cases hk
    | str _ => cases hk
    | byt _ => cases hk
    | bad => exact absurd rfl (pure_nb pu)
    | tup dl =>
      obtain ⟨n, rfl⟩ : ∃ m, n = m + 1 := ⟨n - 1, by rw [deep] at hdp; omega⟩
      have hv : LD w prog n := @hv n rfl
      rw [IsV] at x₁
      obtain ⟨a, items, rfl, tup, vl⟩ := x₁
      rw [spell, List.length_cons, List.length_append, figs_len] at hz
      have hlen := vl.len
      have hsz : items.size = dl.length := by simpa using hlen
      have hll := spellL_lenB dl
      rw [pureD] at pu
      rw [deep] at hdp hQ
      clear other hk
      refine sCons (sRet (sBin (ofAny ?_)))
      walk_at "W"
      refine sCallM (f := .builtin "max") (by rfl) (by rfl) (nb_max F.gh ⟨rfl, sArgsC (by exact rfl) (sBin ?_)⟩)
      refine sComp s (cl := []) (fun _ _ _ => False) (by intro _; rfl) (by rfl) (by rfl) (by decide) (by decide) (fun C => by rfl) (by intro _ _; rfl) R'.hd (ofAny ?_)
      walk_at "W"
      refine iter_tup tup fun h₅ it nit st₄ hit => ?_
      have F₄ := F.stays st₄
      have tup₄ := IsTup.keeps tup st₄
      have vl₄ := vl.stays st₄
      have ait : a ≠ it := fun z => by obtain ⟨o, ho, _⟩ := tup; rw [z, nit] at ho; cases ho
      have itL : it ≠ L := ns_ne F.fr.ns nit
      have noneE : ∀ b, b = it ∨ h₅.get? b = none → s.heap.get? b = none ∧ h₁.get? b = none := fun b hb => by
        have hb : h₁.get? b = none := by
          rcases hb with rfl | hb
          · exact nit
          · exact get_none_of_stays st₄ hb
        exact ⟨get_none_of_stays F.fr.keep hb, hb⟩
      refine ⟨_, _, it, _, _, fun i h ys => FS w s.heap L [(Str.ofString "value", .ref a)] h₁ h ∧ IsVL h dl items.toList ∧ IntsAre ys.toList ((dl.take i).map fun d => ((deep d : Nat) : Int)),
        walker_tup prog w items it a ait, rfl, by omega, fun hi hq => wpAny_pyIter_tupleiter hi.1 hq, rfl, ⟨hit, tup₄⟩, ?_, ?_, ?_, ?_, ?_, ?_, ?_⟩
      · intro b hb
        rcases List.mem_cons.mp hb with rfl | hb
        · obtain ⟨o, ho, _⟩ := hit; exact ⟨o, ho⟩
        · obtain rfl : b = a := by simpa using hb
          obtain ⟨o, ho, _⟩ := tup₄; exact ⟨o, ho⟩
      · rintro i h its ⟨⟨o, ho, hc, _⟩, _⟩
        exact noTup_cls ho (by rw [hc]; simp) its
      · intro h' st
        exact ⟨F₄.stays st, vl₄.stays st, by simpa using IntsAre.nil⟩
      · rintro i h h' ys b ⟨F, vl, hb⟩ hbn nt ke
        exact ⟨F.ebut (noneE b hbn).1 (noneE b hbn).2 (.inr ke), IsVL.ebut ke nt vl, hb⟩
      · rintro i v h tk ys acc C m hi hx ⟨hti, htp⟩ ⟨F, vl, hb⟩ nacc nC ha hns hm hys
        obtain ⟨d, hd, hv'⟩ := vl.get (i := i) (v := v) (by simpa using hx)
        have hmem : d ∈ dl := List.mem_of_getElem? hd
        refine sCallN (f := 163) (by exact rfl) (by exact rfl) (by rfl) (n_law_depth F.gh ⟨rfl, sArgsC (by exact rfl) (ofAny (wpAny_Name (wpAny_loadName_local rfl rfl hns hm ?_) (by decide)))⟩)
        refine sArgsN ⟨F.gh, ?_⟩
        refine hv F.gh (R'.mono (by omega)) hv' (pureL_all pu d hmem) (by have := spell_mem hmem; omega) (by have := deep_mem hmem; omega) fun h' t tk' st => ?_
        refine ⟨h', tk', rfl, ⟨F.stays st, vl.stays st, ?_⟩, Keep.stays st⟩
        rw [List.take_add_one, hd, Array.toList_push]
        simp only [Option.toList_some, List.map_append, List.map_cons, List.map_nil]
        exact hb.append (.cons _ _ .nil)
      · rintro C e s' h _
        exact h.elim
      · rintro h tk ys acc ⟨F, vl, hb⟩ ha nacc
        rw [List.take_of_length_le (by omega)] at hb
        have hyl := hb.length
        rw [List.length_map] at hyl
        refine ofAny (list_new ?_)
        walk_at "W"
        refine ⟨by show 1 ≤ 16777216; omega, fun h₇ c₇ n₇ st₇ l₇ => ?_⟩
        refine add_lst (vs := ys.toList) (by simpa using PlainList.isList (IsList.stays ha st₇)) l₇.isList (fun h₈ c₈ n₈ st₈ l₈ => ?_) (by rw [hyl]; show _ + 1 ≤ 16777216; omega)
        refine sArgsN (ofAny ?_)
        refine max_lst R'.hd l₈.isList (hb.append (.cons _ _ .nil)) (by simp) fun h₉ M t₉ k₉ st₉ h1 h2 => ?_
        rw [deepL_max h1 h2]
        refine add_int ?_
        have e : (1 : Int) + ((deepL dl : Nat) : Int) = ((1 + deepL dl : Nat) : Int) := by push_cast; rfl
        rw [e]
        exact hQ h₉ _ _ (((F.stays st₇).stays st₈).stays st₉).fr.keep
theorem spec_depth (w : World) (prog : Program) : ∀ n, LD w prog n
  | 0 => spec_law_depth fun n' e => absurd e (by omega)
  | n + 1 => spec_law_depth fun n' e => by
    obtain rfl : n = n' := by omega
    exact spec_depth w prog n
/-- how many octets from 128 on stand ahead -/
noncomputable def lead : List UInt8 → Nat
  | [] => 0
  | b :: r => if b.toNat < 128 then 0 else lead r + 1
/-- the value of the first k + 1 figures -/
noncomputable def valk : Nat → List UInt8 → Nat
  | 0, d => (d.getD 0 0).toNat % 128
  | k + 1, d => (d.getD 0 0).toNat % 128 + 128 * valk k (d.drop 1)
theorem lead_le : ∀ d : List UInt8, lead d ≤ d.length
  | [] => Nat.le_refl _
  | b :: r => by
    have := lead_le r
    rw [lead, List.length_cons]
    split <;> omega
theorem lead_at : ∀ (d : List UInt8) (i : Nat), i ≤ lead d → ((i < d.length ∧ ¬ (d.getD i 0).toNat < 128) ↔ i < lead d)
  | [], i, h => by rw [lead] at h; simp [lead]
  | b :: r, i, h => by
    rw [lead] at h ⊢
    split
    · rename_i hb
      rw [if_pos hb] at h
      obtain rfl : i = 0 := by omega
      simp [hb]
    · rename_i hb
      rw [if_neg hb] at h
      cases i with
      | zero => simp; omega
      | succ i =>
        have := lead_at r i (by omega)
        simp only [List.length_cons, List.getD_cons_succ]
        omega
theorem numG_lead : ∀ (d : List UInt8) (f : Bool), numG f d = if lead d = d.length then none else if (d.getD (lead d) 0).toNat = 0 ∧ (f = false ∨ 0 < lead d) then none else some (valk (lead d) d, d.drop (lead d + 1))
  | [], f => by simp [numG, lead]
  | b :: r, f => by
    have hlt := UInt8.toNat_lt b
    by_cases hb : b.toNat < 128
    · have h1 : lead (b :: r) = 0 := by rw [lead, if_pos hb]
      rw [numG, if_pos hb, h1, if_neg (show ¬ (0 = (b :: r).length) by simp)]
      simp [valk, Nat.mod_eq_of_lt hb]
    · have h1 : lead (b :: r) = lead r + 1 := by rw [lead, if_neg hb]
      rw [numG, if_neg hb, h1, numG_lead r false, valk]
      simp only [List.length_cons, Nat.add_right_cancel_iff]
      by_cases h2 : lead r = r.length
      · rw [if_pos h2, if_pos h2]
      · rw [if_neg h2, if_neg h2]
        by_cases h3 : (r.getD (lead r) 0).toNat = 0
        · rw [if_pos ⟨h3, by simp⟩, if_pos ⟨by simpa using h3, .inr (Nat.succ_pos _)⟩]
        · rw [if_neg fun z => h3 z.1, if_neg fun z => h3 (by simpa using z.1)]
          simp only [List.getD_cons_zero, List.drop_succ_cons, List.drop_zero]
          rw [show b.toNat % 128 = b.toNat - 128 by omega]
theorem valk_sum : ∀ (k : Nat) (d : List UInt8), ((List.range (k + 1)).map fun i => ((d.getD i 0).toNat % 128) * 128 ^ i).sum = valk k d
  | 0, d => by simp [valk]
  | k + 1, d => by
    rw [List.range_succ_eq_map, List.map_cons, List.sum_cons, List.map_map, valk, ← valk_sum k (d.drop 1)]
    have e : (List.range (k + 1)).map ((fun i => ((d.getD i 0).toNat % 128) * 128 ^ i) ∘ Nat.succ) = ((List.range (k + 1)).map fun i => (((d.drop 1).getD i 0).toNat % 128) * 128 ^ i).map (128 * ·) := by
      rw [List.map_map]
      refine List.map_congr_left fun i _ => ?_
      have : (d.drop 1).getD i 0 = d.getD (i + 1) 0 := by cases d <;> simp
      simp only [Function.comp, this, Nat.succ_eq_add_one]
      rw [Nat.pow_succ, Nat.mul_comm (128 ^ i) 128, Nat.mul_left_comm]
    rw [e]
    have hs : ∀ l : List Nat, (l.map (128 * ·)).sum = 128 * l.sum := fun l => by
      induction l with
      | nil => rfl
      | cons a l ih => rw [List.map_cons, List.sum_cons, List.sum_cons, ih, Nat.mul_add]
    rw [hs]
    simp
theorem natI_sum (l : List Nat) : (natI l).sum = ((l.sum : Nat) : Int) := by
  induction l with
  | nil => rfl
  | cons a l ih => rw [natI, List.map_cons, List.sum_cons, List.sum_cons, show (List.map (fun (x : Nat) => (x : Int)) l).sum = _ from ih]; push_cast; rfl

theorem sTup {M : Model} {A : Around} {E : Value → Shared → Prop} {s : Shared} {env : Env} {elts : List Expr} {k : Nat} {pos : Pos} {Q : Value → Shared → Prop}
    (h : wpS M A (spliced (backTo pos (starEach elts env))) (fun vs s₁ => vs.length ≤ sizeLine ∧ ∀ h' c, s₁.heap.get? c = none → s₁.heap.StaysIn h' → IsTup h' c vs.toArray → Q (.ref c) { s₁ with heap := h' }) E s) :
    wpS M A (eval (.Tuple elts k pos) env) Q E s := by
  rw [arm_eval_Tuple]
  exact sAt (sBind (sMono h (fun vs s₁ h₁ => ofAny (wpAny_newObj_type (h₁.2 _ _ (Heap.get?_none_of_le (Nat.le_refl _)) (fun b o e => Heap.get?_push_of_some _ e) ⟨_, Heap.get?_push_size _ rfl, rfl, _, rfl⟩) (by show vs.toArray.size ≤ sizeLine; rw [List.size_toArray]; exact h₁.1))) fun _ _ x => x))

inductive WhA (w : World) (s : Shared) (L : Addr) (h₁ : Heap) (d : List UInt8) (m : Nat) (s' : Shared) : Prop where
  | mk (i : Nat) (h' : Heap) (tk' : Nat) (ti : Tok) (hi : i ≤ lead d) (hm : m = lead d - i) (e : s' = { s with heap := h', toks := tk' }) (F : FS w s.heap L [(Str.ofString "count", .int (i : Nat) ti)] h₁ h') : WhA w s L h₁ d m s'
inductive WhB (w : World) (s : Shared) (L : Addr) (h₁ : Heap) (d : List UInt8) (s' : Shared) : Prop where
  | mk (h' : Heap) (tk' : Nat) (ti : Tok) (e : s' = { s with heap := h', toks := tk' }) (F : FS w s.heap L [(Str.ofString "count", .int (lead d : Nat) ti)] h₁ h') : WhB w s L h₁ d s'
theorem spec_law_number {w : World} {prog : Program} {A : Around} {E : Value → Shared → Prop} {s : Shared} {Q : Value → Shared → Prop} {d : List UInt8} {t : Tok}
    (G : G0 w s.heap) (R : Room A 5) (hz : d.length ≤ 100000)
    (hN : num d = none → ∀ h' tk', s.heap.StaysIn h' → Q .none { s with heap := h', toks := tk' })
    (hS : ∀ n r, num d = some (n, r) → ∀ h' q t1 t2 tk', s.heap.StaysIn h' → IsTup h' q #[.int (n : Nat) t1, .bytes r.toArray t2] → Q (.ref q) { s with heap := h', toks := tk' }) :
    wpS (model prog w) A (call (.ref 178) [.bytes d.toArray t]) Q E s := by
  refine callCS [(Str.ofString "octets", .bytes d.toArray t)] [] G R (by exact rfl) (by exact rfl) (by kernel_rfl) (by exact rfl) (fun L x hx => ?_) (fun L => ?_) fun L h₁ tk A' F cs k R' => ?_
  · rcases List.mem_cons.mp hx with rfl | hx
    · exact .inr ⟨rfl, rfl⟩
    · cases hx
  · exact rfl
  have c1 : h₁.IsCell (L + 1) (some (.bytes d.toArray t)) := (cs (Str.ofString "octets") (L + 1) rfl).1
  have ce : ∀ {h : Heap} {lo : List (Str × Value)}, FS w s.heap L lo h₁ h → h.IsCell (L + 1) (some (.bytes d.toArray t)) := fun F => by
    obtain ⟨o, ho, hd⟩ := c1
    exact ⟨o, F.ext _ _ (Nat.succ_ne_self L) ho, hd⟩
  clear cs
  have hsz : d.toArray.size ≤ 1099511627776 := by simp; omega
  have hle := lead_le d
  have hnum : num d = if lead d = d.length then none else if (d.getD (lead d) 0).toNat = 0 ∧ 0 < lead d then none else some (valk (lead d) d, d.drop (lead d + 1)) := by
    have := numG_lead d true
    simpa using this
  refine sCons (sAsg (by rfl) (ofAny ?_))
  walk_at "W"
  walk_at "st"
  intro h₂ k₂ F₂ b₂
  clear F b₂
  refine sCons (sMono (Q := fun f s' => f = .next ∧ WhB w s L h₁ d s')
    (ofAny (wpAny_While (codeAny_whileLoop (fun m s' => WhA w s L h₁ d m s') (fun m s' hI => ?_) (lead d)
      ⟨0, h₂, _, _, Nat.zero_le _, rfl, rfl, F₂⟩))) (fun f s' hx => ?_) fun _ _ x => x)
  · obtain ⟨i, h', tk', ti, hi, rfl, rfl, F⟩ := hI
    have hat := lead_at d i hi
    walk_at "bool"
    walk_at "bool"
    walk_at "W"
    refine callM (f := .builtin "len") (by rfl) (by rfl) (nb_len F.gh ⟨rfl, argsC (by rfl) (wpAny_Name (wpAny_loadName_cell rfl rfl (c := L + 1) rfl (ce F) ?_) (by decide))⟩)
    walk_at "W"
    refine len_bytes hsz ?_
    walk_at "W"
    refine wIteT (fun hlt => ?_) (fun hlt => ?_)
    · have hlt : i < d.length := by have := of_decide_eq_true hlt; simp at this; omega
      walk_at "bool"
      refine wTst (by rfl) (Subscript_ (wpAny_Name (wpAny_loadName_cell rfl rfl (c := L + 1) rfl (ce F) ?_) (by decide)))
      walk_at "W"
      refine KBy.item_N (by omega) (by omega) (by omega) ?_
      rw [Int.toNat_natCast]
      walk_at "W"
      refine wIteT (fun hb => ?_) (fun hb => ?_)
      · have hb : ¬ (d.getD i 0).toNat < 128 := by have := of_decide_eq_true hb; omega
        walk_at "bool"
        refine wIteT (fun _ => ?_) (fun z => nomatch z)
        walk_at "W"
        walk_at "st"
        intro h₃ k₃ F₃ b₃
        walk_at "W"
        have e3 : (i : Int) + 1 = ((i + 1 : Nat) : Int) := by push_cast; rfl
        rw [e3] at F₃
        have := hat.mp ⟨hlt, hb⟩
        exact ⟨lead d - (i + 1), by omega, i + 1, h₃, _, _, by omega, rfl, rfl, F₃⟩
      · have hb : (d.getD i 0).toNat < 128 := by have := of_decide_eq_false hb; omega
        refine wIteT (fun z => nomatch z) (fun _ => ?_)
        walk_at "W"
        obtain rfl : i = lead d := by
          have : ¬ i < lead d := fun z => (hat.mpr z).2 hb
          omega
        exact ⟨rfl, h', _, _, rfl, F⟩
    · have hlt : ¬ i < d.length := by have := of_decide_eq_false hlt; simp at this; omega
      refine wIteT (fun z => nomatch z) (fun _ => ?_)
      walk_at "W"
      obtain rfl : i = lead d := by
        have : ¬ i < lead d := fun z => hlt (hat.mpr z).1
        omega
      exact ⟨rfl, h', _, _, rfl, F⟩
  · obtain ⟨rfl, h', tk', ti, rfl, F⟩ := hx
    clear F₂
    refine sCons (sMono (Q := fun f s' => (f = .ret .none ∧ num d = none ∧ ∃ tk, s' = { s with heap := h', toks := tk }) ∨ (f = .next ∧ (∃ tk, s' = { s with heap := h', toks := tk }) ∧ lead d < d.length ∧ num d = some (valk (lead d) d, d.drop (lead d + 1)))) (ofAny (wpAny_If ?_)) (fun f s' hx => ?_) fun _ _ x => x)
    · walk_at "bool"
      walk_at "bool"
      walk_at "W"
      refine callM (f := .builtin "len") (by rfl) (by rfl) (nb_len F.gh ⟨rfl, argsC (by rfl) (wpAny_Name (wpAny_loadName_cell rfl rfl (c := L + 1) rfl (ce F) ?_) (by decide))⟩)
      walk_at "W"
      refine len_bytes hsz ?_
      walk_at "W"
      refine wIteT (fun hlt => ?_) (fun hlt => ?_)
      · have hn : lead d = d.length := by have := of_decide_eq_true hlt; simp at this; omega
        refine wIteT (fun _ => ?_) (fun z => nomatch z)
        walk_at "W"
        exact .inl ⟨rfl, by rw [hnum, if_pos hn], _, rfl⟩
      · have hn : ¬ lead d = d.length := by have := of_decide_eq_false hlt; simp at this; omega
        rw [if_neg hn] at hnum
        walk_at "bool"
        walk_at "bool"
        walk_at "bool"
        walk_at "W"
        refine wIteT (fun h0 => ?_) (fun h0 => ?_)
        · have h0 : 0 < lead d := by have := of_decide_eq_true h0; omega
          walk_at "bool"
          refine wTst (by rfl) (Subscript_ (wpAny_Name (wpAny_loadName_cell rfl rfl (c := L + 1) rfl (ce F) ?_) (by decide)))
          walk_at "W"
          refine KBy.item_N (by omega) (by omega) (by omega) ?_
          rw [Int.toNat_natCast]
          walk_at "W"
          refine wIteT (fun hb => ?_) (fun hb => ?_)
          · have hb : (d.getD (lead d) 0).toNat = 0 := by simpa using hb
            walk_at "bool"
            refine wIteT (fun _ => ?_) (fun z => nomatch z)
            refine wIteT (fun _ => ?_) (fun z => nomatch z)
            walk_at "W"
            exact .inl ⟨rfl, by rw [hnum, if_pos ⟨hb, h0⟩], _, rfl⟩
          · have hb : ¬ (d.getD (lead d) 0).toNat = 0 := by simpa using hb
            refine wIteT (fun z => nomatch z) (fun _ => ?_)
            walk_at "bool"
            refine wIteT (fun z => nomatch z) (fun _ => ?_)
            walk_at "W"
            exact .inr ⟨rfl, ⟨_, rfl⟩, by omega, by rw [hnum, if_neg fun z => hb z.1]⟩
        · have h0 : ¬ 0 < lead d := by have := of_decide_eq_false h0; omega
          refine wIteT (fun z => nomatch z) (fun _ => ?_)
          walk_at "bool"
          refine wIteT (fun z => nomatch z) (fun _ => ?_)
          walk_at "W"
          exact .inr ⟨rfl, ⟨_, rfl⟩, by omega, by rw [hnum, if_neg fun z => h0 z.2]⟩
    · rcases hx with ⟨rfl, hno, tk, rfl⟩ | ⟨rfl, ⟨tk, rfl⟩, hlt, hsome⟩
      · exact hN hno h' tk F.fr.keep
      · refine sCons (sRet (sTup (sArgsC (by exact rfl) ?_)))
        refine sCallM (f := .builtin "sum") (by rfl) (by rfl) (nb_sum F.gh ⟨rfl, sArgsC (by exact rfl) ?_⟩)
        refine sComp s (cl := [(Str.ofString "octets", L + 1)]) (fun _ _ _ => False) (by intro _; rfl) (by rfl) (by rfl) (by decide) (by decide) (fun C => by rfl) (by intro _ _; rfl) R'.hd (ofAny ?_)
        refine callM (f := .type "range") (by rfl) (by rfl) (nb_range F.gh ⟨rfl, argsC (by rfl) ?_⟩)
        walk_at "W"
        have e1 : ((lead d : Nat) : Int) + 1 = ((lead d + 1 : Nat) : Int) := by push_cast; rfl
        rw [e1]
        refine iter_range_nat (by omega) fun h₅ k₅ it nit st₅ hit => ?_
        have F₅ := F.stays st₅
        have itL : it ≠ L := ns_ne F.fr.ns nit
        have noneE : ∀ b, b = it ∨ h₅.get? b = none → s.heap.get? b = none ∧ h₁.get? b = none := fun b hb => by
          have hb : h'.get? b = none := by
            rcases hb with rfl | hb
            · exact nit
            · exact get_none_of_stays st₅ hb
          refine ⟨get_none_of_stays F.fr.keep hb, ?_⟩
          cases q : h₁.get? b with
          | none => rfl
          | some o => exact absurd (F.ext _ _ (ns_ne F.fr.ns hb) q) (by rw [hb]; simp)
        refine ⟨_, _, it, _, _, fun i h ys => FS w s.heap L [(Str.ofString "count", .int (lead d : Nat) ti)] h₁ h ∧ IntsAre ys.toList (natI ((List.range i).map fun i => ((d.getD i 0).toNat % 128) * 128 ^ i)),
          walker_range prog w (lead d + 1) it, rfl, by omega, fun hi hq => wpAny_pyIter_rangeiter hi hq, rfl, hit, ?_, ?_, ?_, ?_, ?_, ?_, ?_⟩
        · intro b hb
          obtain rfl : b = it := by simpa using hb
          exact ⟨_, hit⟩
        · rintro i h its hi
          exact noTup_cls hi (by simp) its
        · intro h' st
          exact ⟨F₅.stays st, by simpa [natI] using IntsAre.nil⟩
        · rintro i h h' ys b ⟨F, hb⟩ hbn nt ke
          exact ⟨F.ebut (noneE b hbn).1 (noneE b hbn).2 (.inr ke), hb⟩
        · rintro i v h tk ys acc C m hi ⟨tv, rfl⟩ hti ⟨F, hb⟩ nacc nC ha hns hm hys
          refine ofAny (wpAny_BinOp (wpAny_BinOp (Subscript_ (wpAny_Name (wpAny_loadName_cell rfl rfl (c := L + 1) rfl (ce F) (wpAny_Name (wpAny_loadName_local rfl rfl hns hm ?_) (by decide))) (by decide)))))
          refine KBy.item_N (by omega) (by omega) (by omega) ?_
          rw [Int.toNat_natCast]
          walk_at "W"
          walk_at "modc"
          have hmm : Int.fmod (((d.getD i 0).toNat : Nat) : Int) 128 = (((d.getD i 0).toNat % 128 : Nat) : Int) := by rw [Int.fmod_eq_emod_of_nonneg _ (by omega)]; omega
          rw [hmm]
          walk_at "W"
          refine wpAny_Name (wpAny_loadName_local rfl rfl hns hm ?_) (by decide)
          refine pow_int_small (by omega) (by omega) (by decide) ?_
          rw [Int.toNat_natCast]
          ((with_reducible refine mul_int ?_ ?hm); (case hm => exact .of_left (natAbs_small (by rw [Int.natAbs_natCast]; omega))))
          have e2 : (((d.getD i 0).toNat % 128 : Nat) : Int) * (128 : Int) ^ i = ((((d.getD i 0).toNat % 128) * 128 ^ i : Nat) : Int) := by norm_cast
          rw [e2]
          refine ⟨h, _, rfl, ⟨F, ?_⟩, Keep.stays fun _ _ e => e⟩
          rw [List.range_succ, List.map_append, natI_append, Array.toList_push]
          exact hb.append (.cons _ _ .nil)
        · rintro C e s' h _
          exact h.elim
        · rintro h tk ys acc ⟨F, hb⟩ ha nacc
          refine sArgsN (ofAny ?_)
          refine sum_lst (vs := ys.toList) R'.hd (by simpa using PlainList.isList ha) hb fun h₇ t₇ k₇ st₇ => ?_
          have F₇ := F.stays st₇
          rw [natI_sum, valk_sum]
          refine sArgsC (by exact rfl) (ofAny (Subscript_ (wpAny_Name (wpAny_loadName_cell rfl rfl (c := L + 1) rfl (ce F₇) ?_) (by decide))))
          refine wpAny_Slice ?_
          simp only [evalPart_some, evalPart_none]
          walk_at "W"
          refine wpAny_pure ?_
          refine wpAny_pure ?_
          rw [e1]
          refine slice_bytes (.int _ _) .none (by omega) (fun h₈ t₈ k₈ st₈ => ?_) (by rfl) (by intro _; rfl)
          rw [pick_from]
          refine sArgsN ⟨by show 2 ≤ 16777216; omega, fun h₉ c₉ n₉ st₉ t₉ => ?_⟩
          exact hS _ _ hsome h₉ c₉ _ _ _ ((F₇.stays st₈).stays st₉).fr.keep t₉
section
open PySem.SeqAt
section
variable {A : Around} {s : Shared}
theorem by_eq_no (a : Array UInt8) (t : Tok) (x : Value) (T : String) (hsub : isSubtype (.type T) (.type "bytes") = pure false) :
    Meets (Builtin.«bytes.__eq__» ⟨[.bytes a t, x], []⟩) (fun _ R s => s.TypeIs x T ∧ R (.ok (.ret .notImplemented)) s) :=
  .of_wp fun prog w A R s h => by
    obtain ⟨h1, h2⟩ := h
    show wpAny _ _ (isInstance x (.type "bytes") >>= fun r => _) _ _ s
    refine wpAny_bind (wpAny_isInstance h1 hsub ?_)
    obtain ⟨hp, g, d, tk, os⟩ := s
    wp_walk
    exact ⟨_, rfl, h2⟩
theorem in_eq_byt (a : Int) (t : Tok) (b : Array UInt8) (u : Tok) : Gives (Builtin.«int.__eq__» ⟨[.int a t, .bytes b u], []⟩) (.val (Value.notImplemented)) :=
  .of_wp fun M A E s Q h => by obtain ⟨hp, g, d, tk, os⟩ := s; wp_walk; exact ⟨_, rfl, h⟩
theorem st_eq_byt (a : Str) (t : Tok) (b : Array UInt8) (u : Tok) : Gives (Builtin.«str.__eq__» ⟨[.str a t, .bytes b u], []⟩) (.val (Value.notImplemented)) :=
  .of_wp fun M A E s Q h => by obtain ⟨hp, g, d, tk, os⟩ := s; wp_walk; exact ⟨_, rfl, h⟩
theorem tu_eq_byt (l : Addr) (items : Array Value) (n : Nat) (dd : Option Addr) (sl : Array (Option Value)) (b : Array UInt8) (u : Tok) :
    Meets (Builtin.«tuple.__eq__» ⟨[.ref l, .bytes b u], []⟩) (fun _ R s => s.heap.get? l = some { cls := .type "tuple", dict := dd, data := .seq items n, slots := sl } ∧ R (.ok (.ret .notImplemented)) s) :=
  .of_wp fun prog w A R s h => by obtain ⟨hp, g, d, tk, os⟩ := s; obtain ⟨hl, h⟩ := h; have f1 := PySem.F.sub_bytes_tuple; wp_walk using PySem.AutoSeq1.wpAny_loadPart' hl; exact ⟨_, rfl, h⟩
theorem by_slot_refl : Slot "bytes" (cmpInfo .Eq).2.2 "bytes.__eq__" := FB.slot_bytes_eq

theorem rc_byt_byt (a : Array UInt8) (t : Tok) (b : Array UInt8) (u : Tok) : RcAt A s (.bytes a t) (.bytes b u) (a.toList == b.toList) := fun prog w E Q h =>
  richCompare_gives (PySem.W.typeIs_bytes s a t) (PySem.W.typeIs_bytes s b u) FB.slot_bytes_eq FB.entry_bytes_eq (FB.args_bytes_eq_2 _ _) (gives_bytes_eq a b t u) (fun x => nomatch x) h
theorem rc_byt_int (a : Array UInt8) (t : Tok) (b : Int) (u : Tok) : RcAt A s (.bytes a t) (.int b u) false := fun prog w E Q h =>
  rc_eq_decline_or (k := false) (PySem.W.typeIs_bytes s a t) (typeIs_int s b u) (by decide) PySem.F.sub_int_bytes FB.slot_bytes_eq PySem.F.slot_int_eq_refl
    (fun _ hq => call_meets FB.slot_bytes_eq (PySem.W.typeIs_bytes s a t) FB.entry_bytes_eq (FB.args_bytes_eq_2 _ _) (by_eq_no a t _ _ PySem.F.sub_int_bytes) ⟨typeIs_int s b u, hq⟩)
    (fun _ hq => call_gives PySem.F.slot_int_eq_refl (typeIs_int s b u) PySem.F.entry_int_eq (PySem.F.args_int_eq_2 _ _) (in_eq_byt b u a t) hq)
    (fun _ hq => wpAny_of_eq (rfl : isSame (.bytes a t) (.int b u) = pure false) hq) (.inl rfl) h
theorem rc_int_byt (b : Int) (u : Tok) (a : Array UInt8) (t : Tok) : RcAt A s (.int b u) (.bytes a t) false := fun prog w E Q h =>
  rc_eq_decline_or (k := false) (typeIs_int s b u) (PySem.W.typeIs_bytes s a t) (by decide) PySem.F.sub_bytes_int PySem.F.slot_int_eq by_slot_refl
    (fun _ hq => call_gives PySem.F.slot_int_eq (typeIs_int s b u) PySem.F.entry_int_eq (PySem.F.args_int_eq_2 _ _) (in_eq_byt b u a t) hq)
    (fun _ hq => call_meets by_slot_refl (PySem.W.typeIs_bytes s a t) FB.entry_bytes_eq (FB.args_bytes_eq_2 _ _) (by_eq_no a t _ _ PySem.F.sub_int_bytes) ⟨typeIs_int s b u, hq⟩)
    (fun _ hq => wpAny_of_eq (rfl : isSame (.int b u) (.bytes a t) = pure false) hq) (.inl rfl) h
theorem rc_byt_str (a : Array UInt8) (t : Tok) (b : Str) (u : Tok) : RcAt A s (.bytes a t) (.str b u) false := fun prog w E Q h =>
  rc_eq_decline_or (k := false) (PySem.W.typeIs_bytes s a t) (typeIs_str s b u) (by decide) PySem.F.sub_str_bytes FB.slot_bytes_eq PySem.F.slot_str_eq_refl
    (fun _ hq => call_meets FB.slot_bytes_eq (PySem.W.typeIs_bytes s a t) FB.entry_bytes_eq (FB.args_bytes_eq_2 _ _) (by_eq_no a t _ _ PySem.F.sub_str_bytes) ⟨typeIs_str s b u, hq⟩)
    (fun _ hq => call_gives PySem.F.slot_str_eq_refl (typeIs_str s b u) PySem.F.entry_str_eq (PySem.F.args_str_eq_2 _ _) (st_eq_byt b u a t) hq)
    (fun _ hq => wpAny_of_eq (rfl : isSame (.bytes a t) (.str b u) = pure false) hq) (.inl rfl) h
theorem rc_str_byt (b : Str) (u : Tok) (a : Array UInt8) (t : Tok) : RcAt A s (.str b u) (.bytes a t) false := fun prog w E Q h =>
  rc_eq_decline_or (k := false) (typeIs_str s b u) (PySem.W.typeIs_bytes s a t) (by decide) PySem.F.sub_bytes_str PySem.F.slot_str_eq by_slot_refl
    (fun _ hq => call_gives PySem.F.slot_str_eq (typeIs_str s b u) PySem.F.entry_str_eq (PySem.F.args_str_eq_2 _ _) (st_eq_byt b u a t) hq)
    (fun _ hq => call_meets by_slot_refl (PySem.W.typeIs_bytes s a t) FB.entry_bytes_eq (FB.args_bytes_eq_2 _ _) (by_eq_no a t _ _ PySem.F.sub_str_bytes) ⟨typeIs_str s b u, hq⟩)
    (fun _ hq => wpAny_of_eq (rfl : isSame (.str b u) (.bytes a t) = pure false) hq) (.inl rfl) h
theorem rc_tup_byt {l : Addr} {items : Array Value} (b : Array UInt8) (u : Tok) (hl : s.heap.IsTuple l items) (hu : A.units < cLine) : RcAt A s (.ref l) (.bytes b u) false := fun prog w E Q h => by
  obtain ⟨⟨cls, dd, data, sl⟩, ho, hc, n, hd⟩ := id hl
  simp only at hc hd
  subst hc hd
  exact rc_eq_decline_or (k := false) ⟨_, ho, rfl⟩ (PySem.W.typeIs_bytes s b u) (by decide) PySem.F.sub_bytes_tuple PySem.F.slot_tuple_eq by_slot_refl
    (fun _ hq => call_meets PySem.F.slot_tuple_eq ⟨_, ho, rfl⟩ PySem.F.entry_tuple_eq (PySem.F.args_tuple_eq_2 _ _) (tu_eq_byt l items n dd sl b u) ⟨ho, hq⟩)
    (fun _ hq => call_meets by_slot_refl (PySem.W.typeIs_bytes s b u) FB.entry_bytes_eq (FB.args_bytes_eq_2 _ _) (by_eq_no b u (.ref l) "tuple" PySem.F.sub_tuple_bytes) ⟨⟨_, ho, rfl⟩, hq⟩)
    (fun _ hq => wpAny_of_eq (rfl : isSame (.ref l) (.bytes b u) = pure false) hq) (.inr hu) h
theorem rc_byt_tup {l : Addr} {items : Array Value} (b : Array UInt8) (u : Tok) (hl : s.heap.IsTuple l items) (hu : A.units < cLine) : RcAt A s (.bytes b u) (.ref l) false := fun prog w E Q h => by
  obtain ⟨⟨cls, dd, data, sl⟩, ho, hc, n, hd⟩ := id hl
  simp only at hc hd
  subst hc hd
  exact rc_eq_decline_or (k := false) (PySem.W.typeIs_bytes s b u) ⟨_, ho, rfl⟩ (by decide) PySem.F.sub_tuple_bytes FB.slot_bytes_eq PySem.F.slot_tuple_eq_refl
    (fun _ hq => call_meets FB.slot_bytes_eq (PySem.W.typeIs_bytes s b u) FB.entry_bytes_eq (FB.args_bytes_eq_2 _ _) (by_eq_no b u (.ref l) "tuple" PySem.F.sub_tuple_bytes) ⟨⟨_, ho, rfl⟩, hq⟩)
    (fun _ hq => call_meets PySem.F.slot_tuple_eq_refl ⟨_, ho, rfl⟩ PySem.F.entry_tuple_eq (PySem.F.args_tuple_eq_2 _ _) (tu_eq_byt l items n dd sl b u) ⟨ho, hq⟩)
    (fun _ hq => wpAny_of_eq (rfl : isSame (.bytes b u) (.ref l) = pure false) hq) (.inr hu) h

theorem eq_byt_int (a : Array UInt8) (t : Tok) (b : Int) (u : Tok) : EqAt A s (.bytes a t) (.int b u) false := fun prog w E Q h => by
  unfold eqBool
  refine wpAny_holding ?_
  refine wpAny_ite_split (fun hab => absurd (eq_of_beq hab) nofun) (fun _ => ?_)
  exact wpAny_bind (rc_byt_int a t b u prog w E _ (wpAny_truthy_bool h))
theorem eq_int_byt (b : Int) (u : Tok) (a : Array UInt8) (t : Tok) : EqAt A s (.int b u) (.bytes a t) false := fun prog w E Q h => by
  unfold eqBool
  refine wpAny_holding ?_
  refine wpAny_ite_split (fun hab => absurd (eq_of_beq hab) nofun) (fun _ => ?_)
  exact wpAny_bind (rc_int_byt b u a t prog w E _ (wpAny_truthy_bool h))
theorem eq_byt_str (a : Array UInt8) (t : Tok) (b : Str) (u : Tok) : EqAt A s (.bytes a t) (.str b u) false := fun prog w E Q h => by
  unfold eqBool
  refine wpAny_holding ?_
  refine wpAny_ite_split (fun hab => absurd (eq_of_beq hab) nofun) (fun _ => ?_)
  exact wpAny_bind (rc_byt_str a t b u prog w E _ (wpAny_truthy_bool h))
theorem eq_str_byt (b : Str) (u : Tok) (a : Array UInt8) (t : Tok) : EqAt A s (.str b u) (.bytes a t) false := fun prog w E Q h => by
  unfold eqBool
  refine wpAny_holding ?_
  refine wpAny_ite_split (fun hab => absurd (eq_of_beq hab) nofun) (fun _ => ?_)
  exact wpAny_bind (rc_str_byt b u a t prog w E _ (wpAny_truthy_bool h))
theorem eq_tup_byt {l : Addr} {items : Array Value} (b : Array UInt8) (u : Tok) (hl : s.heap.IsTuple l items) (hu : A.units < cLine) : EqAt A s (.ref l) (.bytes b u) false := fun prog w E Q h => by
  unfold eqBool
  refine wpAny_holding ?_
  refine wpAny_ite_split (fun hab => absurd (eq_of_beq hab) nofun) (fun _ => ?_)
  exact wpAny_bind (rc_tup_byt b u hl hu prog w E _ (wpAny_truthy_bool h))
theorem eq_byt_tup {l : Addr} {items : Array Value} (b : Array UInt8) (u : Tok) (hl : s.heap.IsTuple l items) (hu : A.units < cLine) : EqAt A s (.bytes b u) (.ref l) false := fun prog w E Q h => by
  unfold eqBool
  refine wpAny_holding ?_
  refine wpAny_ite_split (fun hab => absurd (eq_of_beq hab) nofun) (fun _ => ?_)
  exact wpAny_bind (rc_byt_tup b u hl hu prog w E _ (wpAny_truthy_bool h))
theorem eq_byt_byt (a : Array UInt8) (t : Tok) (b : Array UInt8) (u : Tok) : EqAt A s (.bytes a t) (.bytes b u) (a.toList == b.toList) := fun prog w E Q h => by
  unfold eqBool
  refine wpAny_holding ?_
  refine wpAny_ite_split (fun hab => ?_) (fun _ => ?_)
  · obtain ⟨rfl, rfl⟩ := Value.bytes.inj (eq_of_beq hab)
    exact wpAny_bind (wpAny_rule (wpAny_pure (by simpa using h)))
  · exact wpAny_bind (rc_byt_byt a t b u prog w E _ (wpAny_truthy_bool h))
end
mutual
/-- a value is one datum alone -/
theorem IsV.fn {h : Heap} : ∀ {d d' : Dat} {v : Value}, IsV h d v → IsV h d' v → pureD d → pureD d' → d = d'
  | .bad, _, _, _, _, p, _ => by rw [pureD] at p; exact p.elim
  | .int _, .bad, _, _, _, _, p => by rw [pureD] at p; exact p.elim
  | .str _, .bad, _, _, _, _, p => by rw [pureD] at p; exact p.elim
  | .byt _, .bad, _, _, _, _, p => by rw [pureD] at p; exact p.elim
  | .tup _, .bad, _, _, _, _, p => by rw [pureD] at p; exact p.elim
  | .int i, .int j, v, x, y, _, _ => by
    rw [IsV] at x y; obtain ⟨t, rfl⟩ := x; obtain ⟨u, e⟩ := y; cases e; rfl
  | .str i, .str j, v, x, y, _, _ => by
    rw [IsV] at x y; obtain ⟨t, rfl⟩ := x; obtain ⟨u, e⟩ := y
    obtain ⟨e, _⟩ := Value.str.inj e
    have := congrArg (fun (x : Str) => x.cps.toList) e
    rw [show i = j from this]
  | .byt i, .byt j, v, x, y, _, _ => by
    rw [IsV] at x y; obtain ⟨t, rfl⟩ := x; obtain ⟨u, e⟩ := y
    obtain ⟨e, _⟩ := Value.bytes.inj e
    have := congrArg Array.toList e
    rw [show i = j from this]
  | .tup l, .tup l', v, x, y, p, p' => by
    rw [IsV] at x y
    obtain ⟨a, items, rfl, t1, v1⟩ := x
    obtain ⟨a', items', e, t2, v2⟩ := y
    cases e
    obtain ⟨o, ho, _, n, hd⟩ := t1
    obtain ⟨o', ho', _, n', hd'⟩ := t2
    rw [ho] at ho'; cases ho'
    rw [hd] at hd'
    cases hd'
    rw [pureD] at p p'
    rw [IsVL.fn v1 v2 p p']
  | .int _, .str _, _, x, y, _, _ => by rw [IsV] at x; rw [IsV] at y; obtain ⟨t, rfl⟩ := x; obtain ⟨u, e⟩ := y; cases e
  | .int _, .byt _, _, x, y, _, _ => by rw [IsV] at x; rw [IsV] at y; obtain ⟨t, rfl⟩ := x; obtain ⟨u, e⟩ := y; cases e
  | .str _, .int _, _, x, y, _, _ => by rw [IsV] at x; rw [IsV] at y; obtain ⟨t, rfl⟩ := x; obtain ⟨u, e⟩ := y; cases e
  | .str _, .byt _, _, x, y, _, _ => by rw [IsV] at x; rw [IsV] at y; obtain ⟨t, rfl⟩ := x; obtain ⟨u, e⟩ := y; cases e
  | .byt _, .int _, _, x, y, _, _ => by rw [IsV] at x; rw [IsV] at y; obtain ⟨t, rfl⟩ := x; obtain ⟨u, e⟩ := y; cases e
  | .byt _, .str _, _, x, y, _, _ => by rw [IsV] at x; rw [IsV] at y; obtain ⟨t, rfl⟩ := x; obtain ⟨u, e⟩ := y; cases e
  | .int _, .tup _, _, x, y, _, _ => by rw [IsV] at x; rw [IsV] at y; obtain ⟨t, rfl⟩ := x; obtain ⟨a, it, e, _⟩ := y; cases e
  | .tup _, .int _, _, x, y, _, _ => by rw [IsV] at x; rw [IsV] at y; obtain ⟨t, rfl⟩ := y; obtain ⟨a, it, e, _⟩ := x; cases e
  | .str _, .tup _, _, x, y, _, _ => by rw [IsV] at x; rw [IsV] at y; obtain ⟨t, rfl⟩ := x; obtain ⟨a, it, e, _⟩ := y; cases e
  | .tup _, .str _, _, x, y, _, _ => by rw [IsV] at x; rw [IsV] at y; obtain ⟨t, rfl⟩ := y; obtain ⟨a, it, e, _⟩ := x; cases e
  | .byt _, .tup _, _, x, y, _, _ => by rw [IsV] at x; rw [IsV] at y; obtain ⟨t, rfl⟩ := x; obtain ⟨a, it, e, _⟩ := y; cases e
  | .tup _, .byt _, _, x, y, _, _ => by rw [IsV] at x; rw [IsV] at y; obtain ⟨t, rfl⟩ := y; obtain ⟨a, it, e, _⟩ := x; cases e
theorem IsVL.fn {h : Heap} : ∀ {l l' : List Dat} {vs : List Value}, IsVL h l vs → IsVL h l' vs → pureL l → pureL l' → l = l'
  | [], [], _, _, _, _, _ => rfl
  | [], _ :: _, _, x, y, _, _ => by rw [IsVL] at x; rw [IsVL] at y; subst x; obtain ⟨_, _, e, _⟩ := y; cases e
  | _ :: _, [], _, x, y, _, _ => by rw [IsVL] at x; rw [IsVL] at y; subst y; obtain ⟨_, _, e, _⟩ := x; cases e
  | d :: l, d' :: l', vs, x, y, p, p' => by
    rw [IsVL] at x y
    obtain ⟨v, vs', rfl, x1, x2⟩ := x
    obtain ⟨v', vs'', e, y1, y2⟩ := y
    cases e
    rw [pureL] at p p'
    rw [IsV.fn x1 y1 p.1 p'.1, IsVL.fn x2 y2 p.2 p'.2]
end
theorem IsVL.at {h : Heap} : ∀ {l : List Dat} {vs : List Value} {j : Nat} {v : Value}, IsVL h l vs → vs[j]? = some v → ∃ d, l[j]? = some d ∧ IsV h d v := fun x e => IsVL.get x e
open Classical in
/-- two data compared -/
theorem eqV {h : Heap} : ∀ (k : Nat) {A : Around} {s : Shared} {d d' : Dat} {v v' : Value}, deep d ≤ k → s.heap = h → IsV h d v → IsV h d' v' → pureD d → pureD d' → A.units + k < cLine →
    EqAt A s v v' (decide (d = d')) := by
  intro k
  induction k with
  | zero =>
    intro A s d d' v v' hk hs x y p p' hu
    subst hs
    cases d with
    | tup l => rw [deep] at hk; omega
    | bad => rw [pureD] at p; exact p.elim
    | int i =>
      rw [IsV] at x; obtain ⟨t, rfl⟩ := x
      cases d' with
      | bad => rw [pureD] at p'; exact p'.elim
      | int j =>
        rw [IsV] at y; obtain ⟨u, rfl⟩ := y
        have e : (i == j) = decide (Dat.int i = .int j) := by
          rw [Bool.eq_iff_iff, beq_iff_eq, decide_eq_true_iff]
          exact ⟨fun e => by rw [e], fun e => by cases e; rfl⟩
        rw [← e]
        exact EqAt.int_int i t j u
      | str j => rw [IsV] at y; obtain ⟨u, rfl⟩ := y; simpa using EqAt.int_str (A := A) (s := s) i t _ u
      | byt j => rw [IsV] at y; obtain ⟨u, rfl⟩ := y; simpa using eq_int_byt (A := A) (s := s) i t _ u
      | tup j => rw [IsV] at y; obtain ⟨a, it, rfl, tu, _⟩ := y; simpa using EqAt.int_tuple (A := A) (s := s) i t tu (by omega)
    | str i =>
      rw [IsV] at x; obtain ⟨t, rfl⟩ := x
      cases d' with
      | bad => rw [pureD] at p'; exact p'.elim
      | int j => rw [IsV] at y; obtain ⟨u, rfl⟩ := y; simpa using EqAt.str_int (A := A) (s := s) _ t j u
      | str j =>
        rw [IsV] at y; obtain ⟨u, rfl⟩ := y
        have e : ((⟨i.toArray⟩ : Str) == ⟨j.toArray⟩) = decide (Dat.str i = .str j) := by
          rw [Bool.eq_iff_iff, beq_iff_eq, decide_eq_true_iff]
          exact ⟨fun e => by have := congrArg (fun (x : Str) => x.cps.toList) e; rw [show i = j from this], fun e => by cases e; rfl⟩
        rw [← e]
        exact EqAt.str_str _ t _ u
      | byt j => rw [IsV] at y; obtain ⟨u, rfl⟩ := y; simpa using eq_str_byt (A := A) (s := s) _ t _ u
      | tup j => rw [IsV] at y; obtain ⟨a, it, rfl, tu, _⟩ := y; simpa using EqAt.str_tuple (A := A) (s := s) _ t tu (by omega)
    | byt i =>
      rw [IsV] at x; obtain ⟨t, rfl⟩ := x
      cases d' with
      | bad => rw [pureD] at p'; exact p'.elim
      | int j => rw [IsV] at y; obtain ⟨u, rfl⟩ := y; simpa using eq_byt_int (A := A) (s := s) _ t j u
      | str j => rw [IsV] at y; obtain ⟨u, rfl⟩ := y; simpa using eq_byt_str (A := A) (s := s) _ t _ u
      | byt j =>
        rw [IsV] at y; obtain ⟨u, rfl⟩ := y
        have e : (i.toArray.toList == j.toArray.toList) = decide (Dat.byt i = .byt j) := by
          rw [Bool.eq_iff_iff, beq_iff_eq, decide_eq_true_iff]
          exact ⟨fun e => by rw [show i = j from e], fun e => by cases e; rfl⟩
        rw [← e]
        exact eq_byt_byt _ t _ u
      | tup j => rw [IsV] at y; obtain ⟨a, it, rfl, tu, _⟩ := y; simpa using eq_byt_tup (A := A) (s := s) _ t tu (by omega)
  | succ k ih =>
    intro A s d d' v v' hk hs x y p p' hu
    by_cases hd : deep d ≤ k
    · exact ih hd hs x y p p' (by omega)
    subst hs
    cases d with
    | bad => rw [pureD] at p; exact p.elim
    | int i => exact absurd (by simp [deep]) hd
    | str i => exact absurd (by simp [deep]) hd
    | byt i => exact absurd (by simp [deep]) hd
    | tup l =>
      have x0 := x
      rw [IsV] at x; obtain ⟨a, items, rfl, t1, v1⟩ := x
      cases d' with
      | bad => rw [pureD] at p'; exact p'.elim
      | int j => rw [IsV] at y; obtain ⟨u, rfl⟩ := y; simpa using EqAt.tuple_int (A := A) (s := s) j u t1 (by omega)
      | str j => rw [IsV] at y; obtain ⟨u, rfl⟩ := y; simpa using EqAt.tuple_str (A := A) (s := s) _ u t1 (by omega)
      | byt j => rw [IsV] at y; obtain ⟨u, rfl⟩ := y; simpa using eq_tup_byt (A := A) (s := s) _ u t1 (by omega)
      | tup l' =>
        have y0 := y
        rw [IsV] at y; obtain ⟨a', items', rfl, t2, v2⟩ := y
        by_cases ea : a = a'
        · subst ea
          rw [IsV.fn x0 y0 p p']
          simpa using EqAt.same (A := A) (s := s) (.ref a)
        · refine EqAt.of_refs ea ?_
          rw [pureD] at p p'
          rw [deep] at hk
          have n1 := v1.len
          have n2 := v2.len
          rw [Array.length_toList] at n1 n2
          have key := RcAt.tuples (A := A) (s := s) (e := fun j => decide (l[j]? = l'[j]?)) t1 t2 (by omega) (fun j h1 h2 => ?_)
          · have e : ((List.range (min items.size items'.size)).all (fun j => decide (l[j]? = l'[j]?)) && items.size == items'.size) = decide (Dat.tup l = .tup l') := by
              rw [Bool.eq_iff_iff, Bool.and_eq_true, List.all_eq_true, beq_iff_eq, decide_eq_true_iff, n1, n2]
              constructor
              · rintro ⟨e1, e2⟩
                rw [show l = l' from List.ext_getElem? fun j => ?_]
                by_cases hj : j < l.length
                · have := e1 j (List.mem_range.mpr (by omega))
                  simpa using this
                · rw [List.getElem?_eq_none (by omega), List.getElem?_eq_none (by omega)]
              · intro e
                cases e
                exact ⟨fun j _ => by simp, rfl⟩
            rw [← e]
            exact key
          · obtain ⟨d1, e1, x1⟩ := v1.get (i := j) (v := items[j]) (by simp [h1])
            obtain ⟨d2, e2, x2⟩ := v2.get (i := j) (v := items'[j]) (by simp [h2])
            have m1 : d1 ∈ l := List.mem_of_getElem? e1
            have := ih (A := A.in1) (by have := deep_mem m1; omega) rfl x1 x2 (pureL_all p d1 m1) (pureL_all p' d2 (List.mem_of_getElem? e2)) (show A.units + 1 + k < cLine by omega)
            have e3 : decide (l[j]? = l'[j]?) = decide (d1 = d2) := by rw [e1, e2]; simp
            show EqAt A.in1 s items[j] items'[j] (decide (l[j]? = l'[j]?))
            rw [e3]
            exact this
open Classical in
theorem cmp_tup {A : Around} {s : Shared} {k : Nat} {l l' : List Dat} {v v' : Value} (x : IsV s.heap (.tup l) v) (y : IsV s.heap (.tup l') v') (p : pureD (.tup l)) (p' : pureD (.tup l')) (hk : deep (.tup l) ≤ k) (hu : A.units + k < cLine) :
    ∃ a b items items', v = .ref a ∧ v' = .ref b ∧ IsTup s.heap a items ∧ IsTup s.heap b items' ∧ (∀ j (h1 : j < items.size) (h2 : j < items'.size), EqAt A.in1 s items[j] items'[j] (decide (l[j]? = l'[j]?))) ∧
      ((List.range (min items.size items'.size)).all (fun j => decide (l[j]? = l'[j]?)) && items.size == items'.size) = decide (Dat.tup l = .tup l') := by
  rw [IsV] at x; obtain ⟨a, items, rfl, t1, v1⟩ := x
  rw [IsV] at y; obtain ⟨a', items', rfl, t2, v2⟩ := y
  rw [pureD] at p p'
  rw [deep] at hk
  have n1 := v1.len
  have n2 := v2.len
  rw [Array.length_toList] at n1 n2
  refine ⟨a, a', items, items', rfl, rfl, t1, t2, fun j h1 h2 => ?_, ?_⟩
  · obtain ⟨d1, e1, x1⟩ := v1.get (i := j) (v := items[j]) (by simp [h1])
    obtain ⟨d2, e2, x2⟩ := v2.get (i := j) (v := items'[j]) (by simp [h2])
    have m1 : d1 ∈ l := List.mem_of_getElem? e1
    have := eqV (k - 1) (A := A.in1) (by have := deep_mem m1; omega) rfl x1 x2 (pureL_all p d1 m1) (pureL_all p' d2 (List.mem_of_getElem? e2)) (show A.units + 1 + (k - 1) < cLine by omega)
    have e3 : decide (l[j]? = l'[j]?) = decide (d1 = d2) := by rw [e1, e2]; simp
    rw [e3]
    exact this
  · rw [Bool.eq_iff_iff, Bool.and_eq_true, List.all_eq_true, beq_iff_eq, decide_eq_true_iff, n1, n2]
    constructor
    · rintro ⟨e1, e2⟩
      rw [show l = l' from List.ext_getElem? fun j => ?_]
      by_cases hj : j < l.length
      · have := e1 j (List.mem_range.mpr (by omega))
        simpa using this
      · rw [List.getElem?_eq_none (by omega), List.getElem?_eq_none (by omega)]
    · intro e
      cases e
      exact ⟨fun j _ => by simp, rfl⟩
section
variable {prog : Program} {w : World} {A : Around} {E : Value → Shared → Prop} {s : Shared}
open Classical in
theorem eq_tups {k : Nat} {l l' : List Dat} {v v' : Value} {Q : Value → Shared → Prop} (x : IsV s.heap (.tup l) v) (y : IsV s.heap (.tup l') v') (p : pureD (.tup l)) (p' : pureD (.tup l')) (hk : deep (.tup l) ≤ k) (hu : A.units + k < cLine)
    (h : Q (.bool (decide (Dat.tup l = .tup l'))) s) : wpAny (model prog w) A (compareOp .Eq v v') Q E s := by
  obtain ⟨a, b, items, items', rfl, rfl, t1, t2, he, hb⟩ := cmp_tup x y p p' hk hu
  refine RcAt.tuples t1 t2 (by omega) he prog w E Q ?_
  rw [hb]
  exact h
open Classical in
theorem ne_tups {k : Nat} {l l' : List Dat} {v v' : Value} {Q : Value → Shared → Prop} (x : IsV s.heap (.tup l) v) (y : IsV s.heap (.tup l') v') (p : pureD (.tup l)) (p' : pureD (.tup l')) (hk : deep (.tup l) ≤ k) (hu : A.units + k < cLine)
    (h : Q (.bool (!decide (Dat.tup l = .tup l'))) s) : wpAny (model prog w) A (compareOp .NotEq v v') Q E s := by
  obtain ⟨a, b, items, items', rfl, rfl, t1, t2, he, hb⟩ := cmp_tup x y p p' hk hu
  refine RcNeAt.tuples t1 t2 (by omega) he prog w E Q ?_
  rw [hb]
  exact h
end
end
section
variable {prog : Program} {w : World} {A : Around} {E : Value → Shared → Prop} {s : Shared} {env : Env}
theorem first_is (s0 : Shared) {hE hR : Heap} {L : Addr} {lo : List (Str × Value)} {o x : List UInt8} {t : Tok} {p1 p2 p3 p4 p5 p6 : Pos} {whole : Sem Value} {Q : Bool → Shared → Prop}
    (F : FS w hE L lo hR s.heap) (hv : lo.lookup (Str.ofString "octets") = some (.bytes o.toArray t)) (hz : o.length ≤ 1000000) (hL : env.locals = L) (hk : env.scope.kind = .function) (hx : env.kindOf (Str.ofString "octets") = some .local)
    (hs : s = { s0 with heap := s.heap, toks := s.toks })
    (h : ∀ h' tk', s.heap.StaysIn h' → Q (o.take 1 == x) { s0 with heap := h', toks := tk' }) :
    wpAny (model prog w) A (isTrue (.Compare (.Subscript (.Name (Str.ofString "octets") p1) (.Slice none (some (.Constant (.int 1) 0 p2)) none p3) p4) [.Eq] [.Constant (.bytes x) 0 p5] p6) env whole) Q E s := by
  refine wTst (by rfl) (Subscript_ (FS.ld F hv ?_ hL hk hx (by decide)))
  refine wpAny_Slice ?_
  simp only [evalPart_some, evalPart_none]
  refine wpAny_pure ?_
  walk_at "W"
  refine wpAny_pure ?_
  refine slice_bytes .none (.int _ _) hz (fun h' t' k st => ?_) (by rfl) (by intro _; rfl)
  rw [show (1 : Int) = ((1 : Nat) : Int) from rfl, pick_to]
  refine Constant_bytes ?_
  refine eq_bytes ?_
  walk_at "W"
  rw [hs]
  exact h h' _ st
theorem sIfExp {test body orelse : Expr} {pos : Pos} {Q : Value → Shared → Prop} {M : Model}
    (h : wpS M A (isTrue test env (eval test env)) (fun b s₁ => if b then wpS M A (eval body env) Q E s₁ else wpS M A (eval orelse env) Q E s₁) E s) : wpS M A (eval (.IfExp test body orelse pos) env) Q E s := by
  rw [arm_eval_IfExp]
  refine sBind (sMono h (fun b s₁ h₁ => ?_) fun _ _ x => x)
  cases b <;> exact h₁
end
def LM (w : World) (prog : Program) (n : Nat) : Prop :=
  ∀ {A : Around} {E : Value → Shared → Prop} {s : Shared} {Q : Value → Shared → Prop} {o : List UInt8} {t td : Tok} {depth : Nat},
    G0 w s.heap → Room A (n + 8) → o.length ≤ 100000 → depth + n = 21 →
    (meant n o = none → ∀ h' tk', s.heap.StaysIn h' → Q .none { s with heap := h', toks := tk' }) →
    (∀ d r, meant n o = some (d, r) → ∀ h' q v t' tk', s.heap.StaysIn h' → IsTup h' q #[v, .bytes r.toArray t'] → IsV h' d v → Q (.ref q) { s with heap := h', toks := tk' }) →
    wpS (model prog w) A (call (.ref 185) [.bytes o.toArray t, .int (depth : Nat) td]) Q E s
theorem four_any {o : List UInt8} (a b c d : Tok) : ((#[Value.bytes [105].toArray a, .bytes [116].toArray b, .bytes [111].toArray c, .bytes [114].toArray d] : Array Value).any fun y => match y with | .bytes b _ => b.toList == o.take 1 | _ => false) = true ↔
    ∃ c o1, o = c :: o1 ∧ (c = 105 ∨ c = 116 ∨ c = 111 ∨ c = 114) := by
  cases o with
  | nil => simp
  | cons x o1 =>
    simp
    constructor
    · rintro (h | h | h | h) <;> subst h <;> simp
    · rintro (h | h | h | h) <;> subst h <;> simp
theorem meant_other {n : Nat} {o : List UInt8} (h : ¬ ∃ c o1, o = c :: o1 ∧ (c = 105 ∨ c = 116 ∨ c = 111 ∨ c = 114)) : meant n o = none := by
  cases o with
  | nil => unfold meant; rfl
  | cons c o1 =>
    have : c ≠ 105 ∧ c ≠ 116 ∧ c ≠ 111 ∧ c ≠ 114 := ⟨fun z => h ⟨c, o1, rfl, .inl z⟩, fun z => h ⟨c, o1, rfl, .inr (.inl z)⟩, fun z => h ⟨c, o1, rfl, .inr (.inr (.inl z))⟩, fun z => h ⟨c, o1, rfl, .inr (.inr (.inr z))⟩⟩
    unfold meant
    cases n <;> simp [this]
theorem meant_nonum {n : Nat} {c : UInt8} {o1 : List UInt8} (h : num o1 = none) : meant n (c :: o1) = none := by
  unfold meant
  rw [h]
  split <;> rfl
theorem meant_int {n many : Nat} {o1 rest : List UInt8} (h : num o1 = some (many, rest)) : meant n (105 :: o1) = some (.int (plain many), rest) := by
  unfold meant
  rw [h]
  rw [if_neg (by decide)]
  rfl
theorem meant_byt {n many : Nat} {o1 rest : List UInt8} (h : num o1 = some (many, rest)) : meant n (111 :: o1) = if many ≤ rest.length then some (.byt (rest.take many), rest.drop many) else none := by
  unfold meant
  rw [h]
  rw [if_neg (by decide)]
  rfl
inductive SigT (w : World) (hE hR : Heap) (L a : Addr) (rest o1 : List UInt8) (t : Tok) (i : Nat) (h : Heap) : Prop where
  | mk (sg : List Nat) (r : List UInt8) (items : Array Value) (lo : List (Str × Value)) (tr : Tok) (e1 : rep sign i rest = some (sg, r)) (e2 : r.length ≤ rest.length) (F : FS w hE L lo hR h)
      (li : h.PlainList a items) (e3 : items.size = i) (e4 : StrsAre items.toList (sg.map fun c => (⟨#[c]⟩ : Str)))
      (e5 : lo.lookup (Str.ofString "octets") = some (.bytes (116 :: o1).toArray t)) (e6 : lo.lookup (Str.ofString "found") = some (.ref a)) (e7 : lo.lookup (Str.ofString "rest") = some (.bytes r.toArray tr)) : SigT w hE hR L a rest o1 t i h
inductive RowT (w : World) (hE hR : Heap) (L a : Addr) (rest o1 : List UInt8) (t td : Tok) (n depth i : Nat) (h : Heap) : Prop where
  | mk (dl : List Dat) (r : List UInt8) (items : Array Value) (lo : List (Str × Value)) (tr : Tok) (e1 : rep (meant n) i rest = some (dl, r)) (e2 : r.length ≤ rest.length) (F : FS w hE L lo hR h)
      (li : h.PlainList a items) (e3 : items.size = i) (e4 : IsVL h dl items.toList)
      (e5 : lo.lookup (Str.ofString "octets") = some (.bytes (114 :: o1).toArray t)) (e5b : lo.lookup (Str.ofString "depth") = some (.int (depth : Nat) td)) (e6 : lo.lookup (Str.ofString "found") = some (.ref a)) (e7 : lo.lookup (Str.ofString "rest") = some (.bytes r.toArray tr)) : RowT w hE hR L a rest o1 t td n depth i h
inductive CutA (w : World) (s : Shared) (L : Addr) (h₁ : Heap) (n : Nat) (o : List UInt8) (t td : Tok) (depth : Nat) (f : Flow) (s' : Shared) : Prop where
  | no (h' : Heap) (tk : Nat) (hf : f = .ret .none) (e : s' = { s with heap := h', toks := tk }) (st : s.heap.StaysIn h') (hno : meant n o = none) : CutA w s L h₁ n o t td depth f s'
  | go (h' : Heap) (tk : Nat) (c : UInt8) (o1 : List UInt8) (hf : f = .next) (e : s' = { s with heap := h', toks := tk }) (F : FS w s.heap L [(Str.ofString "depth", .int (depth : Nat) td), (Str.ofString "octets", .bytes o.toArray t)] h₁ h')
      (e0 : o = c :: o1) (hc : c = 105 ∨ c = 116 ∨ c = 111 ∨ c = 114) : CutA w s L h₁ n o t td depth f s'
inductive CutB (w : World) (s : Shared) (L : Addr) (h₁ : Heap) (a q : Addr) (n : Nat) (o rest : List UInt8) (c : UInt8) (many : Nat) (t t1 t2 td : Tok) (depth : Nat) (f : Flow) (s' : Shared) : Prop where
  | no (h' : Heap) (tk : Nat) (hf : f = .ret .none) (e : s' = { s with heap := h', toks := tk }) (st : s.heap.StaysIn h') (hno : meant n o = none) : CutB w s L h₁ a q n o rest c many t t1 t2 td depth f s'
  | go (h' : Heap) (tk : Nat) (hf : f = .next) (e : s' = { s with heap := h', toks := tk }) (F : FS w s.heap L [(Str.ofString "depth", .int (depth : Nat) td), (Str.ofString "octets", .bytes o.toArray t), (Str.ofString "head", .ref q), (Str.ofString "many", .int (many : Nat) t1), (Str.ofString "rest", .bytes rest.toArray t2), (Str.ofString "found", .ref a)] h₁ h') (li : h'.PlainList a #[])
      (hmr : many ≤ rest.length) (hdeep : c = 114 → ∃ m, n = m + 1) : CutB w s L h₁ a q n o rest c many t t1 t2 td depth f s'
theorem spec_law_meant {w : World} {prog : Program} {n : Nat} (hv : ∀ n', n = n' + 1 → LM w prog n') : LM w prog n := by
  intro A E s Q o t td depth G R hz hdn hN hS
  refine callRS [(Str.ofString "octets", .bytes o.toArray t), (Str.ofString "depth", .int (depth : Nat) td)] G (R.mono (m := n + 7 + 1) (by omega)) (by exact rfl) (by exact rfl) (by kernel_rfl) (by exact rfl) (by exact rfl) (by decide) fun L h₁ tk A' F k R' => ?_
  refine sCons (sMono (Q := fun f s' => CutA w s L h₁ n o t td depth f s')
    (ofAny (wpAny_If (wTst (by rfl) (Subscript_ ?_)))) (fun f s' hx => ?_) fun _ _ x => x)
  · walk_at "W"
    refine wpAny_Slice ?_
    simp only [evalPart_some, evalPart_none]
    refine wpAny_pure ?_
    walk_at "W"
    refine wpAny_pure ?_
    refine slice_bytes .none (.int _ _) (by omega) (fun h₂ t₂ k₂ st₂ => ?_) (by rfl) (by intro _; rfl)
    rw [show (1 : Int) = ((1 : Nat) : Int) from rfl, pick_to]
    have F₂ := F.stays st₂
    refine tup_new (argsC (by rfl) (Constant_bytes (argsC (by rfl) (Constant_bytes (argsC (by rfl) (Constant_bytes (argsC (by rfl) (Constant_bytes (argsN ⟨by show 4 ≤ 16777216; omega, fun h₃ c₃ n₃ st₃ t₃ => ?_⟩)))))))))
    have F₃ := F₂.stays st₃
    refine SeqAt.notIn_tupleAt (fun y => match y with | .bytes b _ => b.toList == o.take 1 | _ => false) t₃ (fun y hy => ?_) ?_
    · rcases (by simpa using hy : y = _ ∨ y = _ ∨ y = _ ∨ y = _) with rfl | rfl | rfl | rfl <;> exact eq_byt_byt _ _ _ _
    walk_at "W"
    refine wIteT (fun hb => ?_) (fun hb => ?_)
    · walk_at "W"
      refine .no h₃ _ rfl rfl F₃.fr.keep (meant_other fun z => ?_)
      rw [Bool.not_eq_true'] at hb
      exact absurd hb (by rw [(four_any _ _ _ _).mpr z]; decide)
    · walk_at "W"
      rw [Bool.not_eq_false'] at hb
      obtain ⟨c, o1, e, hc⟩ := (four_any _ _ _ _).mp hb
      exact .go h₃ _ c o1 rfl rfl F₃ e hc
  rcases hx with ⟨h', tk, rfl, rfl, st, hno⟩ | ⟨h₂, tk₂, c, o1, rfl, rfl, F₂, rfl, hc⟩
  · exact hN hno h' tk st
  clear F
  have hz1 : o1.length < 100000 := by rw [List.length_cons] at hz; omega
  refine sCons (sAsg (by rfl) ?_)
  refine sCallN (f := 178) (by exact rfl) (by exact rfl) (by rfl) (n_law_number F₂.gh ⟨rfl, sArgsC (by exact rfl) (ofAny (Subscript_ ?_))⟩)
  walk_at "W"
  refine wpAny_Slice ?_
  simp only [evalPart_some, evalPart_none]
  walk_at "W"
  refine wpAny_pure ?_
  refine wpAny_pure ?_
  refine slice_bytes (.int _ _) .none (by omega) (fun h₃ t₃ k₃ st₃ => ?_) (by rfl) (by intro _; rfl)
  rw [show (1 : Int) = ((1 : Nat) : Int) from rfl, pick_from, show (c :: o1).drop 1 = o1 from rfl]
  have F₃ := F₂.stays st₃
  clear F₂
  refine sArgsN ⟨F₃.gh, ?_⟩
  refine spec_law_number F₃.gh (R'.mono (by omega)) (by omega) (fun hno h₄ k₄ st₄ => ?_) (fun many rest hnum h₄ q t1 t2 k₄ st₄ tq => ?_)
  · have F₄ := F₃.stays st₄
    walk_at "st"
    intro h₅ k₅ F₅ b₅
    refine sCons (sIf (ofAny ?_))
    walk_at "W"
    refine is_none_none ?_
    walk_at "W"
    refine wIteT (fun _ => ?_) (fun z => nomatch z)
    refine sCons (sRet (ofAny ?_))
    walk_at "W"
    exact hN (meant_nonum hno) _ _ F₅.fr.keep
  have F₄ := F₃.stays st₄
  have qL : q ≠ L := fun z => noTup_ns F₄.fr.ns _ (z ▸ tq)
  walk_at "st"
  intro h₅ k₅ F₅ b₅
  have tq₅ : IsTup h₅ q _ := tq.extBut b₅.extBut qL
  have hrl := num_lt hnum
  clear F₃ F₄ tq b₅
  refine sCons (sIf (ofAny ?_))
  walk_at "W"
  refine is_ref_none ?_
  walk_at "W"
  refine wIteT (fun z => nomatch z) (fun _ => sNil ?_)
  refine sCons (ofAny (Assign_Tuple ?_ (by rfl) (by rfl)))
  walk_at "W"
  refine unpackS R'.hd tq₅ (by rfl) (by rfl) fun h₆ st₆ => ?_
  have F₆ := F₅.stays st₆
  refine assignInOrder_cons (wpAny_assign_Name ?_)
  walk_at "st"
  intro h₇ k₇ F₇ b₇
  refine assignInOrder_cons (wpAny_assign_Name ?_)
  walk_at "st"
  intro h₈ k₈ F₈ b₈
  refine assignInOrder_nil ?_
  clear F₅ F₆ F₇ b₇ b₈ tq₅
  refine sCons (sIf (ofAny (first_is s F₈ rfl (by omega) rfl rfl rfl rfl fun h₉ k₉ st₉ => ?_)))
  have F₉ := F₈.stays st₉
  clear F₈
  refine wIteT (fun hi => ?_) (fun hi => sNil ?_)
  · have hc : c = 105 := by simpa using hi
    subst hc
    have hS := hS _ _ (meant_int hnum)
    refine sCons (sRet (ofAny (tup_new (argsC (by rfl) ?_))))
    walk_at "W"
    walk_at "modc"
    walk_at "W"
    refine wIteT (fun hb => ?_) (fun hb => ?_)
    · walk_at "W"
      walk_at "divc"
      have e : many % 2 = 0 := by
        have : Int.fmod many 2 = 0 := by simpa using hb
        rw [Int.fmod_eq_emod_of_nonneg _ (by omega)] at this
        omega
      have e2 : Int.fdiv many 2 = plain many := by unfold plain; rw [if_pos e, Int.fdiv_eq_ediv_of_nonneg _ (by omega)]; omega
      rw [e2]
      walk_at "W"
      refine ⟨by show 2 ≤ 16777216; omega, fun h₁₀ c₁₀ n₁₀ st₁₀ t₁₀ => ?_⟩
      exact hS h₁₀ c₁₀ _ _ _ (F₉.stays st₁₀).fr.keep t₁₀ (by rw [IsV]; exact ⟨_, rfl⟩)
    · walk_at "W"
      walk_at "divc"
      have e : ¬ many % 2 = 0 := by
        have : ¬ Int.fmod many 2 = 0 := by simpa using hb
        rw [Int.fmod_eq_emod_of_nonneg _ (by omega)] at this
        omega
      walk_at "W"
      have e2 : -1 - Int.fdiv many 2 = plain many := by unfold plain; rw [if_neg e, Int.fdiv_eq_ediv_of_nonneg _ (by omega)]; omega
      refine ⟨by show 2 ≤ 16777216; omega, fun h₁₀ c₁₀ n₁₀ st₁₀ t₁₀ => ?_⟩
      exact hS h₁₀ c₁₀ _ _ _ (F₉.stays st₁₀).fr.keep t₁₀ (by rw [IsV]; exact ⟨_, congrArg (fun x => Value.int x _) e2⟩)
  have hne1 : c ≠ 105 := fun z => by rw [z] at hi; simp at hi
  refine sCons (sIf (ofAny (first_is s F₉ rfl (by omega) rfl rfl rfl rfl fun h₁₀ k₁₀ st₁₀ => ?_)))
  have F₁₀ := F₉.stays st₁₀
  clear F₉
  refine wIteT (fun ho => ?_) (fun ho => sNil ?_)
  · have hc : c = 111 := by simpa using ho
    subst hc
    refine sCons (sRet (ofAny ?_))
    walk_at "W"
    walk_at "len"
    refine len_bytes (by rw [List.size_toArray]; omega) ?_
    walk_at "W"
    refine wIteT (fun hb => ?_) (fun hb => ?_)
    · have hb : many ≤ rest.length := by have := of_decide_eq_true hb; simp at this; omega
      refine tup_new (argsC (by rfl) (Subscript_ ?_))
      walk_at "W"
      refine wpAny_Slice ?_
      simp only [evalPart_some, evalPart_none]
      refine wpAny_pure ?_
      walk_at "W"
      refine wpAny_pure ?_
      refine slice_bytes .none (.int _ _) (by omega) (fun h₁₁ t₁₁ k₁₁ st₁₁ => ?_) (by rfl) (by intro _; rfl)
      rw [pick_to]
      have F₁₁ := F₁₀.stays st₁₁
      clear F₁₀
      refine argsC (by rfl) (Subscript_ ?_)
      walk_at "W"
      refine wpAny_Slice ?_
      simp only [evalPart_some, evalPart_none]
      walk_at "W"
      refine wpAny_pure ?_
      refine wpAny_pure ?_
      refine slice_bytes (.int _ _) .none (by omega) (fun h₁₂ t₁₂ k₁₂ st₁₂ => ?_) (by rfl) (by intro _; rfl)
      rw [pick_from]
      refine argsN ⟨by show 2 ≤ 16777216; omega, fun h₁₃ c₁₃ n₁₃ st₁₃ t₁₃ => ?_⟩
      exact hS _ _ ((meant_byt hnum).trans (if_pos hb)) h₁₃ c₁₃ _ _ _ ((F₁₁.stays st₁₂).stays st₁₃).fr.keep t₁₃ (by rw [IsV]; exact ⟨_, rfl⟩)
    · have hb : ¬ many ≤ rest.length := by have := of_decide_eq_false hb; simp at this; omega
      walk_at "W"
      exact hN ((meant_byt hnum).trans (if_neg hb)) _ _ F₁₀.fr.keep
  have hne2 : c ≠ 111 := fun z => by rw [z] at ho; simp at ho
  have hc : c = 116 ∨ c = 114 := by
    rcases hc with h | h | h | h
    · exact absurd h hne1
    · exact .inl h
    · exact absurd h hne2
    · exact .inr h
  clear hi ho
  refine sCons (sAsg (by rfl) (ofAny (list_new (argsN ⟨by show 0 ≤ 16777216; omega, fun h₁₁ a n₁₁ st₁₁ la => ?_⟩))))
  have F₁₁ := F₁₀.stays st₁₁
  have aL := ns_ne F₁₀.fr.ns n₁₁
  have aE : s.heap.get? a = none ∧ h₁.get? a = none := by
    refine ⟨get_none_of_stays F₁₀.fr.keep n₁₁, ?_⟩
    cases q : h₁.get? a with
    | none => rfl
    | some o => exact absurd (F₁₀.ext _ _ aL q) (by rw [n₁₁]; simp)
  clear F₁₀
  walk_at "st"
  intro h₁₂ k₁₂ F₁₂ b₁₂
  have la₁₂ := IsList.but la aL b₁₂
  clear F₁₁ la b₁₂
  -- too many, or too deep
  refine sCons (sMono (Q := fun f s' => CutB w s L h₁ a q n (c :: o1) rest c many t t1 t2 td depth f s')
    (ofAny (wpAny_If ?_)) (fun f s' hx => ?_) fun _ _ x => x)
  · walk_at "bool"
    walk_at "bool"
    walk_at "W"
    walk_at "len"
    refine len_bytes (by rw [List.size_toArray]; omega) ?_
    walk_at "W"
    refine wIteT (fun hb => ?_) (fun hb => ?_)
    · have hb : rest.length < many := by have := of_decide_eq_true hb; simp at this; omega
      refine wIteT (fun _ => ?_) (fun z => nomatch z)
      walk_at "W"
      refine .no _ _ rfl rfl F₁₂.fr.keep ?_
      rcases hc with rfl | rfl
      · rw [meant_str hnum, rep_long (fun _ _ _ => sign_lt) _ _ hb]
      · rw [meant_row hnum]
        cases n with
        | zero => rfl
        | succ n =>
          show (match rep (meant n) many rest with | none => none | some (s, r) => some (Dat.tup s, r)) = none
          rw [rep_long (fun _ _ _ => meant_lt) _ _ hb]
    · have hb : many ≤ rest.length := by have := of_decide_eq_false hb; simp at this; omega
      walk_at "bool"
      walk_at "bool"
      walk_at "bool"
      refine first_is s F₁₂ rfl (by omega) rfl rfl rfl rfl fun h₁₃ k₁₃ st₁₃ => ?_
      have F₁₃ := F₁₂.stays st₁₃
      refine wIteT (fun hr => ?_) (fun hr => ?_)
      · have hr : c = 114 := by simpa using hr
        subst hr
        walk_at "bool"
        walk_at "W"
        refine wIteT (fun hd => ?_) (fun hd => ?_)
        · have hd : n = 0 := by have := of_decide_eq_true hd; omega
          subst hd
          walk_at "bool"
          refine wIteT (fun _ => ?_) (fun z => nomatch z)
          refine wIteT (fun _ => ?_) (fun z => nomatch z)
          walk_at "W"
          exact .no _ _ rfl rfl F₁₃.fr.keep (by rw [meant_row hnum]; rfl)
        · have hd : ∃ m, n = m + 1 := ⟨n - 1, by have := of_decide_eq_false hd; omega⟩
          refine wIteT (fun z => nomatch z) (fun _ => ?_)
          walk_at "bool"
          refine wIteT (fun z => nomatch z) (fun _ => ?_)
          walk_at "W"
          exact .go _ _ rfl rfl F₁₃ (IsList.stays la₁₂ st₁₃) hb fun _ => hd
      · have hr : c ≠ 114 := fun z => by rw [z] at hr; simp at hr
        refine wIteT (fun z => nomatch z) (fun _ => ?_)
        walk_at "bool"
        refine wIteT (fun z => nomatch z) (fun _ => ?_)
        walk_at "W"
        exact .go _ _ rfl rfl F₁₃ (IsList.stays la₁₂ st₁₃) hb fun z => absurd z hr
  rcases hx with ⟨h', tk, rfl, rfl, st, hno⟩ | ⟨h₁₄, k₁₄, rfl, rfl, F₁₄, la₁₄, hmr, hdeep⟩
  · exact hN hno h' tk st
  clear F₁₂ la₁₂
  refine sCons (sForW s R'.hd PassesOwn.never (by intro _; rfl) (by intro _ _; rfl) (ofAny ?_))
  refine callM (f := .type "range") (by rfl) (by rfl) (nb_range F₁₄.gh ⟨rfl, ?_⟩)
  walk_at "W"
  refine iter_range_nat (by omega) fun h₁₅ k₁₅ it nit st₁₅ hit => ?_
  have F₁₅ := F₁₄.stays st₁₅
  have la₁₅ := IsList.stays la₁₄ st₁₅
  have itL : it ≠ L := ns_ne F₁₄.fr.ns nit
  have ita : a ≠ it := fun e => by obtain ⟨o, ho⟩ := la₁₄; rw [e, nit] at ho; cases ho
  have itE : s.heap.get? it = none ∧ h₁.get? it = none := by
    refine ⟨get_none_of_stays F₁₄.fr.keep nit, ?_⟩
    cases q : h₁.get? it with
    | none => rfl
    | some o => exact absurd (F₁₄.ext _ _ itL q) (by rw [nit]; simp)
  have nnL : L ∉ [it] := by simpa using itL.symm
  have nna : a ∉ [it] := by simpa using ita
  clear F₁₄ la₁₄
  rcases hc with rfl | rfl
  · refine ⟨_, _, it, _, _, fun i h => SigT w s.heap h₁ L a rest o1 t i h,
      walker_range prog w many it, rfl, rfl, hit, ⟨[], rest, #[], _, t2, rfl, Nat.le_refl _, F₁₅, la₁₅, rfl, .nil, rfl, rfl, rfl⟩, ?_, ?_, ?_⟩
    · rintro i h h' _ _ ⟨sg, r, items, lo, tr, e1, e2, F, li, e3, e4, e5, e6, e7⟩ kk
      exact ⟨sg, r, items, lo, tr, e1, e2, F.ebut itE.1 itE.2 kk, IsList.ebut li ita kk, e3, e4, e5, e6, e7⟩
    · rintro i v h tk hin _ hit' ⟨sg, r, items, lo, tr, e1, e2, F, li, e3, e4, e5, e6, e7⟩
      clear F₁₅ la₁₅
      have tt : ∀ {P R : Prop}, P → if ((116 :: o1 : List UInt8).take 1 == [116]) = true then P else R := fun h => by rw [if_pos (by simp)]; exact h
      walk_at "st"
      intro h₁₆ k₁₆ F₁₆ b₁₆
      have li₁₆ := IsList.but li aL b₁₆
      have kp₁₆ : Keep [it] h h₁₆ := Keep.but b₁₆ nnL
      clear F li b₁₆
      refine sCons (sAsg (by rfl) (sIfExp (ofAny (first_is s F₁₆ (by walk_at "hv") (by omega) rfl rfl rfl rfl fun h₁₇ k₁₇ st₁₇ => tt ?_))))
      have F₁₇ := F₁₆.stays st₁₇
      have li₁₇ := IsList.stays li₁₆ st₁₇
      have kp₁₇ : Keep [it] h h₁₇ := kp₁₆.trans (Keep.stays st₁₇)
      clear F₁₆ li₁₆
      refine sCallN (f := 178) (by exact rfl) (by exact rfl) (by rfl) (n_law_number F₁₇.gh ⟨rfl, sArgsC (by exact rfl) (ofAny ?_)⟩)
      walk_at "X"
      refine sArgsN ⟨F₁₇.gh, ?_⟩
      refine spec_law_number F₁₇.gh (R'.mono (by omega)) (by omega) (fun hno h₁₈ k₁₈ st₁₈ => ?_) (fun cd r' hsome h₁₈ q₁ ta tb k₁₈ st₁₈ tq => ?_)
      · have F₁₈ := F₁₇.stays st₁₈
        walk_at "st"
        intro h₁₉ k₁₉ F₁₉ b₁₉
        refine sCons (sIf (ofAny ?_))
        walk_at "bool"
        walk_at "bool"
        walk_at "X"
        refine is_none_none ?_
        walk_at "X"
        refine wIteT (fun _ => ?_) (fun z => nomatch z)
        refine wIteT (fun _ => ?_) (fun z => nomatch z)
        refine sCons (sRet (ofAny ?_))
        walk_at "X"
        refine hN ?_ _ _ F₁₉.fr.keep
        rw [meant_str hnum, rep_prefix_none e1 hin (by unfold sign; rw [hno])]
      have F₁₈ := F₁₇.stays st₁₈
      have li₁₈ := IsList.stays li₁₇ st₁₈
      have kp₁₈ : Keep [it] h h₁₈ := kp₁₇.trans (Keep.stays st₁₈)
      have q₁L : q₁ ≠ L := fun z => noTup_ns F₁₈.fr.ns _ (z ▸ tq)
      have q₁a : q₁ ≠ a := fun z => noTup_list li₁₈ _ (z ▸ tq)
      have hrl' := num_lt hsome
      clear F₁₇ li₁₇
      walk_at "st"
      intro h₁₉ k₁₉ F₁₉ b₁₉
      have li₁₉ := IsList.but li₁₈ aL b₁₉
      have kp₁₉ : Keep [it] h h₁₉ := kp₁₈.trans (Keep.but b₁₉ nnL)
      have tq₁₉ : IsTup h₁₉ q₁ _ := tq.extBut b₁₉.extBut q₁L
      clear F₁₈ li₁₈ b₁₉ tq
      refine sCons (sIf (ofAny ?_))
      walk_at "bool"
      walk_at "bool"
      walk_at "X"
      refine is_ref_none ?_
      walk_at "X"
      refine wIteT (fun z => nomatch z) (fun _ => ?_)
      walk_at "bool"
      walk_at "bool"
      walk_at "bool"
      refine first_is s F₁₉ (by walk_at "hv") (by omega) rfl rfl rfl rfl fun h₂₀ k₂₀ st₂₀ => tt ?_
      have F₂₀ := F₁₉.stays st₂₀
      have li₂₀ := IsList.stays li₁₉ st₂₀
      have kp₂₀ : Keep [it] h h₂₀ := kp₁₉.trans (Keep.stays st₂₀)
      have tq₂₀ := IsTup.keeps tq₁₉ st₂₀
      clear F₁₉ li₁₉ tq₁₉
      walk_at "bool"
      refine wTst (by rfl) (Subscript_ ?_)
      walk_at "X"
      refine item_tuple (j := 0) tq₂₀ (by omega) (by omega) (seq_nat (i := 0) (by simp)) (x := .int (cd : Nat) ta) rfl ?_
      walk_at "X"
      refine wIteT (fun hb => ?_) (fun hb => ?_)
      · have hb : 1114111 < cd := by have := of_decide_eq_true hb; omega
        walk_at "bool"
        refine wIteT (fun _ => ?_) (fun z => nomatch z)
        refine wIteT (fun _ => ?_) (fun z => nomatch z)
        refine sCons (sRet (ofAny ?_))
        walk_at "X"
        refine hN ?_ _ _ F₂₀.fr.keep
        rw [meant_str hnum, rep_prefix_none e1 hin (by unfold sign; rw [hsome]; dsimp only; rw [if_pos hb])]
      · have hb : ¬ 1114111 < cd := by have := of_decide_eq_false hb; omega
        refine wIteT (fun z => nomatch z) (fun _ => ?_)
        walk_at "bool"
        refine wIteT (fun z => nomatch z) (fun _ => sNil ?_)
        refine sCons (ofAny (wExpr rfl rfl (methC (by exact rfl) ?_)))
        walk_at "X"
        refine list_get_append li₂₀ (callWith_builtin rfl (evalArgs_ok rfl (argsC (by exact rfl) (wpAny_IfExp (first_is s F₂₀ (by walk_at "hv") (by omega) rfl rfl rfl rfl fun h₂₁ k₂₁ st₂₁ => tt ?_)))))
        have F₂₁ := F₂₀.stays st₂₁
        have li₂₁ := IsList.stays li₂₀ st₂₁
        have kp₂₁ : Keep [it] h h₂₁ := kp₂₀.trans (Keep.stays st₂₁)
        have tq₂₁ := IsTup.keeps tq₂₀ st₂₁
        clear F₂₀ li₂₀ tq₂₀
        refine callM (f := .builtin "chr") (by rfl) (by rfl) (nb_chr F₂₁.gh ⟨rfl, argsC (by rfl) (Subscript_ ?_)⟩)
        walk_at "X"
        refine item_tuple (j := 0) tq₂₁ (by omega) (by omega) (seq_nat (i := 0) (by simp)) (x := .int (cd : Nat) ta) rfl ?_
        walk_at "X"
        refine PySem.P.chr_of_int (by simp; omega) ?_
        walk_at "X"
        refine wpAny_list_append_plain li₂₁ (fun h₂₂ li₂₂ b₂₂ => ?_) (by show _ ≤ 16777216; omega)
        have F₂₂ := F₂₁.but aE.1 aE.2 b₂₂
        have kp₂₂ : Keep [it] h h₂₂ := kp₂₁.trans (Keep.but b₂₂ nna)
        have tq₂₂ : IsTup h₂₂ q₁ _ := tq₂₁.extBut b₂₂.extBut q₁a
        clear F₂₁ li₂₁ tq₂₁
        refine sCons (sAsg (by rfl) (ofAny (Subscript_ ?_)))
        walk_at "X"
        refine item_tuple (j := 1) tq₂₂ (by omega) (by omega) (seq_nat (i := 1) (by simp)) (x := .bytes r'.toArray tb) rfl ?_
        walk_at "st"
        intro h₂₃ k₂₃ F₂₃ b₂₃
        refine sNil ⟨h₂₃, _, rfl, ⟨sg ++ [cd], r', _, _, tb, rep_snoc e1 (by unfold sign; rw [hsome]; dsimp only; rw [if_neg hb]), by omega, F₂₃, IsList.but li₂₂ aL b₂₃, by simp [e3], ?_, ?_, ?_, ?_⟩, kp₂₂.trans (Keep.but b₂₃ nnL)⟩
        · rw [List.map_append, Array.toList_push]
          rw [Int.toNat_natCast]
          exact StrsAre.snoc e4 _ _
        · walk_at "hv"
        · walk_at "hv"
        · walk_at "hv"
    · rintro h tk ⟨sg, r, items, lo, tr, e1, e2, F, li, e3, e4, e5, e6, e7⟩
      have hlen := (rep_le (fun _ _ _ => sign_lt) _ _ _ _ e1).2
      refine sCons (sRet (ofAny (tup_new (argsC (by rfl) (wpAny_IfExp (first_is s F (by walk_at "hv") (by omega) rfl rfl rfl rfl fun h₂₁ k₂₁ st₂₁ => ?_))))))
      refine wIteT (fun _ => ?_) (fun z => absurd z (by simp))
      have F₂₁ := F.stays st₂₁
      have li₂₁ := IsList.stays li st₂₁
      refine methC (by exact rfl) ?_
      walk_at "X"
      refine getMethod_builtin (typeIs_str _ _ _) PySem.F.plainAttrs_str PySem.F.slot_str_join PySem.F.type_str_join (fun _ e => nomatch e) ?_
      refine callWith_builtin rfl (evalArgs_ok rfl ?_)
      walk_at "X"
      refine join_list (PlainList.isList li₂₁) e4 ?_ fun t' k => ?_
      · have hl1 : ∀ l : List Nat, ((l.map fun c => (⟨#[c]⟩ : Str)).map (·.length)).sum = l.length := fun l => by
          induction l with
          | nil => rfl
          | cons c l ih => simp only [List.map_cons, List.sum_cons, List.length_cons, ih]; show 1 + _ = _; omega
        rw [hl1, List.length_map]
        show _ + _ * 0 ≤ _
        omega
      · walk_at "X"
        refine ⟨by show 2 ≤ 16777216; omega, fun h₂₂ c₂₂ n₂₂ st₂₂ t₂₂ => ?_⟩
        refine hS (.str sg) r (by rw [meant_str hnum, e1]) h₂₂ c₂₂ _ _ _ (F₂₁.stays st₂₂).fr.keep t₂₂ ?_
        rw [IsV]
        exact ⟨_, congrArg (fun x => Value.str x _) (join_signs sg)⟩
  · obtain ⟨n, rfl⟩ := hdeep rfl
    have hv : LM w prog n := @hv n rfl
    have hmr0 : meant (n + 1) (114 :: o1) = match rep (meant n) many rest with | none => none | some (s, r) => some (.tup s, r) := meant_row hnum
    refine ⟨_, _, it, _, _, fun i h => RowT w s.heap h₁ L a rest o1 t td n depth i h,
      walker_range prog w many it, rfl, rfl, hit, ⟨[], rest, #[], _, t2, rfl, Nat.le_refl _, F₁₅, la₁₅, rfl, by simp [IsVL], rfl, rfl, rfl, rfl⟩, ?_, ?_, ?_⟩
    · rintro i h h' _ hit' ⟨dl, r, items, lo, tr, e1, e2, F, li, e3, e4, e5, e5b, e6, e7⟩ kk
      exact ⟨dl, r, items, lo, tr, e1, e2, F.ebut itE.1 itE.2 kk, IsList.ebut li ita kk, e3, IsVL.ebut (kk.elim (·.extBut) id) (noTup_cls hit' (by simp)) e4, e5, e5b, e6, e7⟩
    · rintro i v h tk hin _ hit' ⟨dl, r, items, lo, tr, e1, e2, F, li, e3, e4, e5, e5b, e6, e7⟩
      clear F₁₅ la₁₅
      have tt : ∀ {P R : Prop}, R → if ((114 :: o1 : List UInt8).take 1 == [116]) = true then P else R := fun h => by rw [if_neg (by simp)]; exact h
      have noL : ∀ {h : Heap} {lo : List (Str × Value)}, FS w s.heap L lo h₁ h → ∀ items, ¬ IsTup h L items := fun F => noTup_ns F.fr.ns
      walk_at "st"
      intro h₁₆ k₁₆ F₁₆ b₁₆
      have li₁₆ := IsList.but li aL b₁₆
      have v₁₆ := IsVL.ebut b₁₆.extBut (noL F) e4
      have kp₁₆ : Keep [it] h h₁₆ := Keep.but b₁₆ nnL
      clear F li b₁₆
      refine sCons (sAsg (by rfl) (sIfExp (ofAny (first_is s F₁₆ (by walk_at "hv") (by omega) rfl rfl rfl rfl fun h₁₇ k₁₇ st₁₇ => tt ?_))))
      have F₁₇ := F₁₆.stays st₁₇
      have li₁₇ := IsList.stays li₁₆ st₁₇
      have v₁₇ := v₁₆.stays st₁₇
      have kp₁₇ : Keep [it] h h₁₇ := kp₁₆.trans (Keep.stays st₁₇)
      clear F₁₆ li₁₆
      refine sCallN (f := 185) (by exact rfl) (by exact rfl) (by rfl) (n_law_meant F₁₇.gh ⟨rfl, sArgsC (by exact rfl) (ofAny ?_)⟩)
      walk_at "X"
      refine sArgsC (by exact rfl) (ofAny ?_)
      walk_at "X"
      refine sArgsN ⟨F₁₇.gh, ?_⟩
      refine hv (depth := depth + 1) F₁₇.gh (R'.mono (by omega)) (by omega) (by omega) (fun hno h₁₈ k₁₈ st₁₈ => ?_) (fun dd r' hsome h₁₈ q₁ vd tb k₁₈ st₁₈ tq hvd => ?_)
      · have F₁₈ := F₁₇.stays st₁₈
        walk_at "st"
        intro h₁₉ k₁₉ F₁₉ b₁₉
        refine sCons (sIf (ofAny ?_))
        walk_at "bool"
        walk_at "bool"
        walk_at "X"
        refine is_none_none ?_
        walk_at "X"
        refine wIteT (fun _ => ?_) (fun z => nomatch z)
        refine wIteT (fun _ => ?_) (fun z => nomatch z)
        refine sCons (sRet (ofAny ?_))
        walk_at "X"
        refine hN ?_ _ _ F₁₉.fr.keep
        rw [hmr0, rep_prefix_none e1 hin hno]
      have F₁₈ := F₁₇.stays st₁₈
      have li₁₈ := IsList.stays li₁₇ st₁₈
      have v₁₈ := v₁₇.stays st₁₈
      have kp₁₈ : Keep [it] h h₁₈ := kp₁₇.trans (Keep.stays st₁₈)
      have q₁L : q₁ ≠ L := fun z => noTup_ns F₁₈.fr.ns _ (z ▸ tq)
      have q₁a : q₁ ≠ a := fun z => noTup_list li₁₈ _ (z ▸ tq)
      have hrl' := meant_lt hsome
      clear F₁₇ li₁₇
      walk_at "st"
      intro h₁₉ k₁₉ F₁₉ b₁₉
      have li₁₉ := IsList.but li₁₈ aL b₁₉
      have v₁₉ := IsVL.ebut b₁₉.extBut (noL F₁₈) v₁₈
      have hvd₁₉ := hvd.ebut b₁₉.extBut (noL F₁₈)
      have kp₁₉ : Keep [it] h h₁₉ := kp₁₈.trans (Keep.but b₁₉ nnL)
      have tq₁₉ : IsTup h₁₉ q₁ _ := tq.extBut b₁₉.extBut q₁L
      clear F₁₈ li₁₈ b₁₉ tq
      refine sCons (sIf (ofAny ?_))
      walk_at "bool"
      walk_at "bool"
      walk_at "X"
      refine is_ref_none ?_
      walk_at "X"
      refine wIteT (fun z => nomatch z) (fun _ => ?_)
      walk_at "bool"
      walk_at "bool"
      walk_at "bool"
      refine first_is s F₁₉ (by walk_at "hv") (by omega) rfl rfl rfl rfl fun h₂₀ k₂₀ st₂₀ => tt ?_
      have F₂₀ := F₁₉.stays st₂₀
      have li₂₀ := IsList.stays li₁₉ st₂₀
      have v₂₀ := v₁₉.stays st₂₀
      have hvd₂₀ := hvd₁₉.stays st₂₀
      have kp₂₀ : Keep [it] h h₂₀ := kp₁₉.trans (Keep.stays st₂₀)
      have tq₂₀ := IsTup.keeps tq₁₉ st₂₀
      clear F₁₉ li₁₉ tq₁₉
      · refine wIteT (fun z => nomatch z) (fun _ => ?_)
        walk_at "bool"
        refine wIteT (fun z => nomatch z) (fun _ => sNil ?_)
        refine sCons (ofAny (wExpr rfl rfl (methC (by exact rfl) ?_)))
        walk_at "X"
        refine list_get_append li₂₀ (callWith_builtin rfl (evalArgs_ok rfl (argsC (by exact rfl) (wpAny_IfExp (first_is s F₂₀ (by walk_at "hv") (by omega) rfl rfl rfl rfl fun h₂₁ k₂₁ st₂₁ => tt ?_)))))
        have F₂₁ := F₂₀.stays st₂₁
        have li₂₁ := IsList.stays li₂₀ st₂₁
        have v₂₁ := v₂₀.stays st₂₁
        have hvd₂₁ := hvd₂₀.stays st₂₁
        have kp₂₁ : Keep [it] h h₂₁ := kp₂₀.trans (Keep.stays st₂₁)
        have tq₂₁ := IsTup.keeps tq₂₀ st₂₁
        clear F₂₀ li₂₀ tq₂₀
        refine Subscript_ ?_
        walk_at "X"
        refine item_tuple (j := 0) tq₂₁ (by omega) (by omega) (seq_nat (i := 0) (by simp)) (x := vd) rfl ?_
        walk_at "X"
        refine wpAny_list_append_plain li₂₁ (fun h₂₂ li₂₂ b₂₂ => ?_) (by show _ ≤ 16777216; omega)
        have F₂₂ := F₂₁.but aE.1 aE.2 b₂₂
        have v₂₂ := IsVL.ebut b₂₂.extBut (noTup_list li₂₁) v₂₁
        have hvd₂₂ := hvd₂₁.ebut b₂₂.extBut (noTup_list li₂₁)
        have kp₂₂ : Keep [it] h h₂₂ := kp₂₁.trans (Keep.but b₂₂ nna)
        have tq₂₂ : IsTup h₂₂ q₁ _ := tq₂₁.extBut b₂₂.extBut q₁a
        clear F₂₁ li₂₁ tq₂₁
        refine sCons (sAsg (by rfl) (ofAny (Subscript_ ?_)))
        walk_at "X"
        refine item_tuple (j := 1) tq₂₂ (by omega) (by omega) (seq_nat (i := 1) (by simp)) (x := .bytes r'.toArray tb) rfl ?_
        walk_at "st"
        intro h₂₃ k₂₃ F₂₃ b₂₃
        refine sNil ⟨h₂₃, _, rfl, ⟨dl ++ [dd], r', _, _, tb, rep_snoc e1 hsome, by omega, F₂₃, IsList.but li₂₂ aL b₂₃, by simp [e3], ?_, ?_, ?_, ?_, ?_⟩, kp₂₂.trans (Keep.but b₂₃ nnL)⟩
        · rw [Array.toList_push]
          exact IsVL.snoc (IsVL.ebut b₂₃.extBut (noL F₂₂) v₂₂) (hvd₂₂.ebut b₂₃.extBut (noL F₂₂))
        · walk_at "hv"
        · walk_at "hv"
        · walk_at "hv"
        · walk_at "hv"
    · rintro h tk ⟨dl, r, items, lo, tr, e1, e2, F, li, e3, e4, e5, e5b, e6, e7⟩
      have hlen := (rep_le (fun _ _ _ => meant_lt) _ _ _ _ e1).2
      refine sCons (sRet (ofAny (tup_new (argsC (by rfl) (wpAny_IfExp (first_is s F (by walk_at "hv") (by omega) rfl rfl rfl rfl fun h₂₁ k₂₁ st₂₁ => ?_))))))
      refine wIteT (fun z => absurd z (by simp)) (fun _ => ?_)
      have F₂₁ := F.stays st₂₁
      have li₂₁ := IsList.stays li st₂₁
      refine callM (f := .type "tuple") (by rfl) (by rfl) (nb_tuple F₂₁.gh ⟨rfl, ?_⟩)
      walk_at "X"
      refine tup_of_lst (PlainList.isList li₂₁) (fun h₂₂ c₂₂ n₂₂ st₂₂ t₂₂ => ?_) (by rw [e3]; show _ ≤ 16777216; omega)
      have F₂₂ := F₂₁.stays st₂₂
      walk_at "X"
      refine ⟨by show 2 ≤ 16777216; omega, fun h₂₃ c₂₃ n₂₃ st₂₃ t₂₃ => ?_⟩
      refine hS (.tup dl) r (by rw [hmr0, e1]) h₂₃ c₂₃ _ _ _ (F₂₂.stays st₂₃).fr.keep t₂₃ ?_
      rw [IsV]
      exact ⟨c₂₂, items, rfl, IsTup.keeps t₂₂ st₂₃, ((e4.stays st₂₁).stays st₂₂).stays st₂₃⟩
theorem spec_meant_of (w : World) (prog : Program) : ∀ n, LM w prog n
  | 0 => spec_law_meant fun n' e => absurd e (by omega)
  | n + 1 => spec_law_meant fun n' e => by
    obtain rfl : n = n' := by omega
    exact spec_meant_of w prog n
theorem item_tupT {prog : Program} {w : World} {A : Around} {E : Value → Shared → Prop} {s : Shared} {value slice : Expr} {l : Addr} {items : Array Value} {k : Nat} {u : Tok} {x : Value} {Q : Value → Shared → Prop} (hl : IsTup s.heap l items) (hk : k < items.size) (hz : items.size < 1000000) (hx : items[k]? = some x) (h : Q x s)
    (hs : subscripted slice false (.ref l) (.int (k : Nat) u) = operate [.ref l, .int (k : Nat) u] (getItem (.ref l) (.int (k : Nat) u))) :
    wpAny (model prog w) A (subscriptTail value slice (.ref l) (.int (k : Nat) u)) Q E s := by
  have hT : s.TypeIs (.ref l) "tuple" := hl.typeIs
  unfold subscriptTail
  refine wpAny_bind ?_
  rw [getitemInPython_of_ne hT.not_modules]
  refine wpAny_bind (wpAny_specialOf hT slot_tuple_getitem.lookup ?_)
  have fin : wpAny (model prog w) A (subscripted slice false (.ref l) (.int (k : Nat) u)) (fun r s₃ => wpAny (model prog w) A (letTemporaryGo value (.ref l) r >>= fun _ => pure r) Q E s₃) E s := by
    rw [hs]
    exact wpAny_operating (wpAny_mono (getItem_tuple (Q := Q) hl (by omega) (by omega) (seq_nat hk) hx h) (fun r s₃ h₃ => wpAny_bind (wpAny_letTemporaryGo (wpAny_pure h₃))) fun _ _ x => x)
  first
    | exact wpAny_pure (wpAny_bind fin)
    | exact wpAny_bind (wpAny_pure (wpAny_bind fin))
    | exact wpAny_bind fin
inductive CutH (w : World) (s : Shared) (L : Addr) (h₁ : Heap) (o r : List UInt8) (q : Addr) (d : Dat) (v : Value) (t t₂ : Tok) (f : Flow) (s' : Shared) : Prop where
  | no (h' : Heap) (tk : Nat) (hf : f = .ret .none) (e : s' = { s with heap := h', toks := tk }) (st : s.heap.StaysIn h') (hno : heard o = none) : CutH w s L h₁ o r q d v t t₂ f s'
  | go (h' : Heap) (tk : Nat) (hf : f = .next) (e : s' = { s with heap := h', toks := tk }) (F : FS w s.heap L [(Str.ofString "octets", .bytes o.toArray t), (Str.ofString "told", .ref q)] h₁ h')
      (tq : IsTup h' q #[v, .bytes r.toArray t₂]) (hv : IsV h' d v) (hh : heard o = some d) : CutH w s L h₁ o r q d v t t₂ f s'
theorem spec_law_due {w : World} {prog : Program} {A : Around} {E : Value → Shared → Prop} {s : Shared} {Q : Value → Shared → Prop} {o : List UInt8} {t : Tok}
    (G : G0 w s.heap) (R : Room A 32) (hz : o.length ≤ 100000)
    (hQ : ∀ h' v tk', s.heap.StaysIn h' → (match heard o with | some d => IsV h' d v | none => v = .none) → Q v { s with heap := h', toks := tk' }) :
    wpS (model prog w) A (call (.ref 192) [.bytes o.toArray t]) Q E s := by
  refine callRS [(Str.ofString "octets", .bytes o.toArray t)] G (R.mono (m := 31 + 1) (by omega)) (by exact rfl) (by exact rfl) (by kernel_rfl) (by exact rfl) (by exact rfl) (by decide) fun L h₁ tk A' F k R' => ?_
  have hN : heard o = none → ∀ h' tk', s.heap.StaysIn h' → Q .none { s with heap := h', toks := tk' } := fun e h' tk' st => hQ h' _ _ st (by rw [e])
  have hu : A'.units + 21 < cLine := by have := R'.un; show _ < 9900; omega
  refine sCons (sAsg (by rfl) ?_)
  refine sCallN (f := 185) (by exact rfl) (by exact rfl) (by rfl) (n_law_meant F.gh ⟨rfl, sArgsC (by exact rfl) (ofAny ?_)⟩)
  walk_at "W"
  refine sArgsC (by exact rfl) (ofAny ?_)
  walk_at "W"
  refine sArgsN ⟨F.gh, ?_⟩
  refine spec_meant_of w prog 20 (depth := 1) F.gh (R'.mono (by omega)) hz (by omega) (fun hno h₂ k₂ st₂ => ?_) (fun d r hsome h₂ q v t₂ k₂ st₂ tq hv => ?_)
  · have F₂ := F.stays st₂
    walk_at "st"
    intro h₃ k₃ F₃ b₃
    refine sCons (sIf (ofAny ?_))
    walk_at "bool"
    walk_at "bool"
    walk_at "W"
    refine is_none_none ?_
    walk_at "W"
    refine wIteT (fun _ => ?_) (fun z => nomatch z)
    refine wIteT (fun _ => ?_) (fun z => nomatch z)
    refine sCons (sRet (ofAny ?_))
    walk_at "W"
    exact hN (by unfold heard; rw [hno]) _ _ F₃.fr.keep
  have F₂ := F.stays st₂
  obtain ⟨_, hfit, hok⟩ := spell_meant _ _ _ hsome
  have pu := pure_fits hfit
  have hdp := (deep_fits pu).mp hfit
  have nb := pure_nb pu
  have qL : q ≠ L := fun z => noTup_ns F₂.fr.ns _ (z ▸ tq)
  have hhd : heard o = if r = [] ∧ isRow d = true then some d else none := by unfold heard; rw [hsome]
  have hdlen : ∀ l, d = .tup l → l.length ≤ 100000 := fun l e => by
    obtain ⟨e1, _, _⟩ := spell_meant _ _ _ hsome
    have := congrArg List.length e1
    rw [List.length_append, e, spell, List.length_cons, List.length_append] at this
    have := spellL_lenB l
    omega
  walk_at "st"
  intro h₃ k₃ F₃ b₃
  have tq₃ : IsTup h₃ q _ := tq.extBut b₃.extBut qL
  have hv₃ := hv.ebut b₃.extBut (noTup_ns F₂.fr.ns)
  clear F F₂ tq hv b₃
  refine sCons (sMono (Q := fun f s' => CutH w s L h₁ o r q d v t t₂ f s') (ofAny (wpAny_If ?_)) (fun f s' hx => ?_) fun _ _ x => x)
  · walk_at "bool"
    walk_at "bool"
    walk_at "W"
    refine is_ref_none ?_
    walk_at "W"
    refine wIteT (fun z => nomatch z) (fun _ => ?_)
    walk_at "bool"
    refine wTst (by rfl) (Subscript_ ?_)
    walk_at "W"
    refine item_tuple (j := 1) tq₃ (by omega) (by omega) (seq_nat (i := 1) (by simp)) (x := .bytes r.toArray t₂) rfl ?_
    refine Constant_bytes ?_
    refine ne_bytes ?_
    walk_at "W"
    refine wIteT (fun hr => ?_) (fun hr => ?_)
    · have hr : r ≠ [] := by simpa using hr
      refine wIteT (fun _ => ?_) (fun z => nomatch z)
      walk_at "W"
      exact .no _ _ rfl rfl F₃.fr.keep (by rw [hhd, if_neg fun z => hr z.1])
    have hr : r = [] := by simpa using hr
    walk_at "bool"
    walk_at "bool"
    refine wpAny_isTrue_value ?_ (by rfl)
    refine callM (f := .builtin "isinstance") (by rfl) (by rfl) (nb_isinstance F₃.gh ⟨rfl, argsC (by rfl) (Subscript_ ?_)⟩)
    walk_at "W"
    refine item_tuple (j := 0) tq₃ (by omega) (by omega) (seq_nat (i := 0) (by simp)) (x := v) rfl ?_
    walk_at "W"
    refine nb_tuple F₃.gh ?_
    walk_at "W"
    refine isi_tuple hv₃ nb fun k₄ => ?_
    walk_at "W"
    refine wIteT (fun hk => ?_) (fun hk => ?_)
    · have hk : kTup d = false := by simpa using hk
      refine wIteT (fun _ => ?_) (fun z => nomatch z)
      walk_at "W"
      exact .no _ _ rfl rfl F₃.fr.keep (by rw [hhd, if_neg fun z => by cases d <;> first | (cases z.2) | (cases hk)])
    obtain ⟨l, rfl⟩ : ∃ l, d = .tup l := by cases d <;> first | exact ⟨_, rfl⟩ | (simp [kTup] at hk)
    walk_at "bool"
    refine wTst (by rfl) (Subscript_ ?_)
    walk_at "W"
    refine item_tuple (j := 0) tq₃ (by omega) (by omega) (seq_nat (i := 0) (by simp)) (x := v) rfl ?_
    refine tup_new (argsN ⟨by show 0 ≤ 16777216; omega, fun h₄ c₄ n₄ st₄ t₄ => ?_⟩)
    have F₄ := F₃.stays st₄
    have tq₄ := IsTup.keeps tq₃ st₄
    have hv₄ := hv₃.stays st₄
    clear F₃ tq₃ hv₃
    refine eq_tups (k := 21) hv₄ (l' := []) (by rw [IsV]; exact ⟨c₄, _, rfl, t₄, by simp [IsVL]⟩) pu (by simp [pureD, pureL]) (by omega) hu ?_
    walk_at "W"
    refine wIteT (fun he => ?_) (fun he => ?_)
    · have he : l = [] := by simpa using he
      subst he
      refine wIteT (fun _ => ?_) (fun z => nomatch z)
      walk_at "W"
      exact .no _ _ rfl rfl F₄.fr.keep (by rw [hhd, if_neg fun z => by cases z.2])
    have he : l ≠ [] := fun z => by rw [z] at he; simp at he
    cases l with
    | nil => exact absurd rfl he
    | cons d0 l =>
      rw [IsV] at hv₄
      obtain ⟨a, items, rfl, ta, vl⟩ := hv₄
      have hvl := vl
      rw [IsVL] at vl
      obtain ⟨v0, vs, ev, hv0, hvs⟩ := vl
      have hl0 := hdlen _ rfl
      have hlen := hvl.len
      rw [Array.length_toList, List.length_cons] at hlen
      rw [List.length_cons] at hl0
      walk_at "bool"
      walk_at "bool"
      refine wpAny_isTrue_value ?_ (by rfl)
      refine callM (f := .builtin "isinstance") (by rfl) (by rfl) (nb_isinstance F₄.gh ⟨rfl, argsC (by rfl) (Subscript_ (Subscript_ ?_))⟩)
      walk_at "W"
      refine item_tuple (j := 0) tq₄ (by omega) (by omega) (seq_nat (i := 0) (by simp)) (x := .ref a) rfl ?_
      walk_at "W"
      refine item_tupT (k := 0) (x := v0) ta (by omega) (by omega) (by rw [← Array.getElem?_toList, ev]; rfl) ?_ (by rfl)
      walk_at "W"
      refine nb_str F₄.gh ?_
      walk_at "W"
      refine isi_strB hv0 fun k₅ => ?_
      walk_at "W"
      refine wIteT (fun hk => ?_) (fun hk => ?_)
      · have hk : kStr d0 = false := by simpa using hk
        refine wIteT (fun _ => ?_) (fun z => nomatch z)
        walk_at "W"
        exact .no _ _ rfl rfl F₄.fr.keep (by rw [hhd, if_neg fun z => by cases d0 <;> first | (cases hk; done) | (cases z.2; done)])
      · have hk : kStr d0 = true := by simpa using hk
        walk_at "bool"
        refine wIteT (fun z => nomatch z) (fun _ => ?_)
        walk_at "W"
        refine .go _ _ rfl rfl F₄ tq₄ ?_ ?_
        · rw [IsV]
          exact ⟨a, items, rfl, ta, hvl⟩
        · rw [hhd, if_pos ⟨hr, by cases d0 <;> first | rfl | (cases hk)⟩]
  · rcases hx with ⟨h', tk, rfl, rfl, st, hno⟩ | ⟨h', tk', rfl, rfl, F, tq, hv, hh⟩
    · exact hN hno h' tk st
    · refine sCons (sRet (ofAny (Subscript_ ?_)))
      walk_at "W"
      refine item_tuple (j := 0) tq (by omega) (by omega) (seq_nat (i := 0) (by simp)) (x := v) rfl ?_
      exact hQ h' v _ F.fr.keep (by rw [hh]; exact hv)
section
variable {M : Model} {A : Around} {E : Value → Shared → Prop} {s : Shared} {env : Env}
theorem sBOne {op : BoolOp} {e : Expr} {pos : Pos} {Q : Value → Shared → Prop} (h : wpS M A (eval e env) Q E s) : wpS M A (eval (.BoolOp op [e] pos) env) Q E s := h
theorem sBAnd {e₁ e₂ : Expr} {rest : List Expr} {pos : Pos} {Q : Value → Shared → Prop}
    (h : wpS M A (eval e₁ env) (fun v s₁ => wpAny M A (truthy v) (fun c s₂ => if c then wpS M A (eval (.BoolOp .And (e₂ :: rest) pos) env) Q E s₂ else Q v s₂) E s₁) E s) :
    wpS M A (eval (.BoolOp .And (e₁ :: e₂ :: rest) pos) env) Q E s := by
  show wpS M A (do
    let v ← eval e₁ env
    standAt pos
    let c ← holding [v] (truthy v)
    match BoolOp.And, c with
    | .And, false | .Or, true => pure v
    | _, _ => eval (.BoolOp .And (e₂ :: rest) pos) env) Q E s
  refine sBind (sMono h (fun v s₁ h₁ => sAt (sBind (sHold (ofAny (wpAny_mono h₁ (fun c s₂ h₂ => ?_) fun _ _ x => x)))) ) fun _ _ x => x)
  cases c
  · exact sPure h₂
  · exact h₂
theorem sBOr {e₁ e₂ : Expr} {rest : List Expr} {pos : Pos} {Q : Value → Shared → Prop}
    (h : wpS M A (eval e₁ env) (fun v s₁ => wpAny M A (truthy v) (fun c s₂ => if c then Q v s₂ else wpS M A (eval (.BoolOp .Or (e₂ :: rest) pos) env) Q E s₂) E s₁) E s) :
    wpS M A (eval (.BoolOp .Or (e₁ :: e₂ :: rest) pos) env) Q E s := by
  show wpS M A (do
    let v ← eval e₁ env
    standAt pos
    let c ← holding [v] (truthy v)
    match BoolOp.Or, c with
    | .And, false | .Or, true => pure v
    | _, _ => eval (.BoolOp .Or (e₂ :: rest) pos) env) Q E s
  refine sBind (sMono h (fun v s₁ h₁ => sAt (sBind (sHold (ofAny (wpAny_mono h₁ (fun c s₂ h₂ => ?_) fun _ _ x => x)))) ) fun _ _ x => x)
  cases c
  · exact h₂
  · exact sPure h₂
end

/-- what stands of the law's own in a heap: its frame, the box, some data -/
structure LS (w : World) (hE hR : Heap) (L B c : Addr) (P : Nat) (vs : List (Dat × Value)) (lo : List (Str × Value)) (h : Heap) : Prop where
  F : FS w hE L lo hR h
  bx : Box h B c P
  dv : ∀ x ∈ vs, IsV h x.1 x.2
  nE : hE.get? B = none
  nR : hR.get? B = none
  BL : B ≠ L
  cL : c ≠ L
section
variable {w : World} {hE hR h h' : Heap} {L B c : Addr} {P P' : Nat} {vs : List (Dat × Value)} {lo lo' : List (Str × Value)}
theorem LS.stays (S : LS w hE hR L B c P vs lo h) (k : h.StaysIn h') : LS w hE hR L B c P vs lo h' :=
  ⟨S.F.stays k, S.bx.stays k, fun x hx => (S.dv x hx).stays k, S.nE, S.nR, S.BL, S.cL⟩
theorem LS.draw (S : LS w hE hR L B c P vs lo h) (ke : Heap.ExtBut B h h') (bx : Box h' B c P') : LS w hE hR L B c P' vs lo h' :=
  ⟨S.F.ebut S.nE S.nR (.inr ke), bx, fun x hx => (S.dv x hx).ebut ke S.bx.noTup, S.nE, S.nR, S.BL, S.cL⟩
theorem LS.sto (S : LS w hE hR L B c P vs lo h) (F : FS w hE L lo' hR h') (k : Heap.SameBut L h h') : LS w hE hR L B c P vs lo' h' :=
  ⟨F, S.bx.ebut k.extBut S.BL S.cL, fun x hx => (S.dv x hx).ebut k.extBut (noTup_ns S.F.fr.ns), S.nE, S.nR, S.BL, S.cL⟩
theorem LS.call (S : LS w hE hR L B c P vs lo h) (up : h.UpToSlots h') (st : (hid h L).StaysIn h') : LS w hE hR L B c P vs lo h' := by
  have ke : Heap.ExtBut L h h' := fun b o hb e => st b o (hid_get hb e)
  have nL := S.F.new
  exact ⟨⟨S.F.g, ⟨up.ns S.F.fr.ns, fun b o e => ke b o (fun z => by rw [z, nL] at e; cases e) (S.F.fr.keep b o e), S.F.fr.above⟩, fun b o hb e => ke b o hb (S.F.ext b o hb e), S.F.nsR⟩,
    S.bx.ebut ke S.BL S.cL, fun x hx => (S.dv x hx).ebut ke (noTup_ns S.F.fr.ns), S.nE, S.nR, S.BL, S.cL⟩
theorem LS.but (S : LS w hE hR L B c P vs lo h) {b : Addr} (ke : Heap.ExtBut b h h') (n1 : hE.get? b = none) (n2 : hR.get? b = none) (n3 : B ≠ b) (n4 : c ≠ b) (n5 : ∀ items, ¬ IsTup h b items) : LS w hE hR L B c P vs lo h' :=
  ⟨S.F.ebut n1 n2 (.inr ke), S.bx.ebut ke n3 n4, fun x hx => (S.dv x hx).ebut ke n5, S.nE, S.nR, S.BL, S.cL⟩
theorem LS.more (S : LS w hE hR L B c P vs lo h) {d : Dat} {v : Value} (x : IsV h d v) : LS w hE hR L B c P ((d, v) :: vs) lo h :=
  ⟨S.F, S.bx, fun y hy => by rcases List.mem_cons.mp hy with rfl | hy; exact x; exact S.dv y hy, S.nE, S.nR, S.BL, S.cL⟩
theorem LS.base (S : LS w hE hR L B c P vs lo h) {env : Env} (hf : env.frame = some L) : Base w [env] (hid h L) h := by
  have nL := S.F.new
  refine ⟨S.F.g.keeps fun b o e => hid_get (fun z => by rw [z, nL] at e; cases e) (S.F.fr.keep b o e), fun b o e => of_hideAll _ e, fun a ha => ?_⟩
  obtain ⟨env', he, hfe⟩ := List.mem_filterMap.mp ha
  obtain rfl : env' = env := by simpa using he
  rw [hf] at hfe; cases hfe
  exact hid_none
theorem LS.fok (S : LS w hE hR L B c P vs lo h) {A : Around} {env : Env} (O : Fok A [] hE) (hf : env.frame = some L) (hk : env.scope.kind = .function) : Fok (A.deeper env) [env] h :=
  frames_in hf hk O S.F.fr.keep S.F.fr.ns S.F.new
end
/-- a false end of a list of bad values: what is no row, or bears what is no value, is not written -/
theorem is_row_list {w : World} {prog : Program} {A : Around} {E : Value → Shared → Prop} {s : Shared} {Q : Value → Shared → Prop} {a : Addr} {items : Array Value}
    (G : G0 w s.heap) (R : Room A 1) (x : s.heap.IsList a items) (hQ : ∀ h' tk', s.heap.StaysIn h' → Q (.bool false) { s with heap := h', toks := tk' }) :
    wpAny (model prog w) A (call (.ref 122) [.ref a]) Q E s := by
  refine callR [(Str.ofString "value", .ref a)] G R (by exact rfl) (by exact rfl) (by kernel_rfl) (by exact rfl) (by exact rfl) (by decide) fun L h₁ tk A' F k R' => ?_
  obtain ⟨o, ho, hc, _⟩ := x
  walk_at "W"
  refine BoolOp_and ?_
  refine callM (f := .builtin "isinstance") (by rfl) (by rfl) (nb_isinstance F.gh ⟨rfl, ?_⟩)
  walk_at "W"
  refine nb_tuple F.gh ?_
  walk_at "W"
  refine IsiPair.list_tuple (k _ _ ho) hc ?_
  walk_at "W"
  refine wIteT (fun z => nomatch z) (fun _ => ?_)
  exact hQ _ _ k
section
variable {w : World} {prog : Program} {A : Around} {E : Value → Shared → Prop} {s : Shared} {hE hR h : Heap} {L B c : Addr} {P tk : Nat} {vs : List (Dat × Value)} {lo : List (Str × Value)} {env : Env} {Q : Value → Shared → Prop}
theorem ls_written {d : Dat} {v : Value} {b : Bool} (S : LS w hE hR L B c P vs lo h) (O : Fok A [] hE) (hf : env.frame = some L) (hk : env.scope.kind = .function) (R : Room (A.deeper env) 36)
    (his : ∀ {A : Around} {E : Value → Shared → Prop} {s' : Shared} {Q : Value → Shared → Prop}, h.StaysIn s'.heap → Room A 1 → (∀ h' tk', s'.heap.StaysIn h' → Q (.bool b) { s' with heap := h', toks := tk' }) → wpAny (model prog w) A (call (.ref 122) [v]) Q E s')
    (hb : b = true → IsV h d v ∧ okD d ∧ (spell d).length ≤ 200000)
    (hQ : ∀ h' r tk', LS w hE hR L B c P vs lo h' → Heap.ExtBut L h h' → ((b = true ∧ fits 20 d ∧ ∃ t, r = .bytes (spell d).toArray t) ∨ (¬ (b = true ∧ fits 20 d) ∧ r = .none)) → Q r { s with heap := h', toks := tk' }) :
    wpS (model prog w) (A.deeper env) (call (.ref 206) [v]) Q E { s with heap := h, toks := tk } :=
  spec_written (l := [env]) (S.base hf) R (S.fok O hf hk) his hb fun h' r tk' up st hr => hQ h' r tk' (S.call up st) (fun b o hb e => st b o (hid_get hb e)) hr
theorem ls_heard {o : List UInt8} {t : Tok} (S : LS w hE hR L B c P vs lo h) (O : Fok A [] hE) (hf : env.frame = some L) (hk : env.scope.kind = .function) (R : Room (A.deeper env) 62) (hz : o.length ≤ 1000000)
    (hQ : ∀ h' v tk', LS w hE hR L B c P vs lo h' → Heap.ExtBut L h h' → (match heard o with | some dv => IsV h' dv v | none => v = .none) → Q v { s with heap := h', toks := tk' }) :
    wpAny (model prog w) (A.deeper env) (call (.ref 199) [.bytes o.toArray t]) Q E { s with heap := h, toks := tk } :=
  spec_heard (l := [env]) (S.base hf) R (S.fok O hf hk) hz fun h' v tk' up st hr => hQ h' v tk' (S.call up st) (fun b o hb e => st b o (hid_get hb e)) hr
/-- what is_row answers of a value -/
def RowAns (w : World) (prog : Program) (h : Heap) (v : Value) (b : Bool) : Prop :=
  ∀ {A : Around} {E : Value → Shared → Prop} {s' : Shared} {Q : Value → Shared → Prop}, h.StaysIn s'.heap → Room A 1 → (∀ h' tk', s'.heap.StaysIn h' → Q (.bool b) { s' with heap := h', toks := tk' }) → wpAny (model prog w) A (call (.ref 122) [v]) Q E s'
/-- a value that is not written -/
def Refused (w : World) (prog : Program) (h : Heap) (v : Value) : Prop :=
  ∃ d b, RowAns w prog h v b ∧ (b = true → IsV h d v ∧ okD d ∧ (spell d).length ≤ 200000) ∧ ¬ (b = true ∧ fits 20 d)
theorem refused_bad {v : Value} (G : G0 w h) (x : IsV h (.tup [.str [100, 101, 101, 100], .bad]) v) : Refused w prog h v := by
  refine ⟨.tup [.str [100, 101, 101, 100], .bad], true, fun {A E s' Q} st R hQ => ?_, fun _ => ⟨x, by simp [okD, okL], by decide +kernel⟩, fun z => by simp [fits, fitsL] at z⟩
  exact spec_is_row (G.keeps st) R (x.stays st) (fun z => nomatch z) (fun l e => by cases e; simp) hQ
theorem refused_no {d : Dat} {v : Value} (G : G0 w h) (x : IsV h d v) (hb : d ≠ .bad) (hr : isRow d = false) (hz : ∀ l, d = .tup l → l.length ≤ 1000000) : Refused w prog h v := by
  refine ⟨d, false, fun {A E s' Q} st R hQ => ?_, (fun z => nomatch z), fun z => nomatch z.1⟩
  refine spec_is_row (G.keeps st) R (x.stays st) hb hz fun h' tk' st' => ?_
  rw [hr]
  exact hQ h' tk' st'
theorem refused_list {a : Addr} {items : Array Value} (G : G0 w h) (x : h.IsList a items) : Refused w prog h (.ref a) := by
  refine ⟨.bad, false, fun {A E s' Q} st R hQ => ?_, (fun z => nomatch z), fun z => nomatch z.1⟩
  exact is_row_list (G.keeps st) R (let ⟨o, ho, r⟩ := x; ⟨o, st _ _ ho, r⟩) hQ
theorem LS.less {ws : List (Dat × Value)} (S : LS w hE hR L B c P vs lo h) (k : ∀ x ∈ ws, x ∈ vs) : LS w hE hR L B c P ws lo h :=
  ⟨S.F, S.bx, fun x hx => S.dv x (k x hx), S.nE, S.nR, S.BL, S.cL⟩
/-- a row that is one: whether it is written hangs on its depth alone -/
theorem row_is {d : Dat} {v : Value} (G : G0 w h) (x : IsV h d v) (hr : isRow d = true) (hz : (spell d).length ≤ 200000) :
    ∀ {A : Around} {E : Value → Shared → Prop} {s' : Shared} {Q : Value → Shared → Prop}, h.StaysIn s'.heap → Room A 1 → (∀ h' tk', s'.heap.StaysIn h' → Q (.bool true) { s' with heap := h', toks := tk' }) → wpAny (model prog w) A (call (.ref 122) [v]) Q E s' := by
  intro A E s' Q st R hQ
  refine spec_is_row (G.keeps st) R (x.stays st) (fun z => by rw [z] at hr; cases hr) (fun l e => ?_) fun h' tk' st' => ?_
  · rw [e, spell, List.length_cons, List.length_append] at hz
    have := spellL_lenB l
    omega
  · rw [hr]
    exact hQ h' tk' st'
end
theorem len_small {n : Nat} (h : n ≤ 900) : n ≤ 10 ^ 100 := Nat.le_trans h (by decide +kernel)
theorem menu8 {r : Nat} (hr : r < 8) (a b c d e f g h : Tok) : ∃ x t, [Value.int 0 a, .int 1 b, .int 105 c, .int 111 d, .int 114 e, .int 116 f, .int 128 g, .int 255 h][r]? = some (.int (x : Nat) t) ∧ x < 256 := by
  revert r
  refine @below_succ _ _ (below_succ (below_succ (below_succ (below_succ (below_succ (below_succ (below_succ below_zero ?_) ?_) ?_) ?_) ?_) ?_) ?_) ?_
  · exact ⟨0, _, rfl, by omega⟩
  · exact ⟨1, _, rfl, by omega⟩
  · exact ⟨105, _, rfl, by omega⟩
  · exact ⟨111, _, rfl, by omega⟩
  · exact ⟨114, _, rfl, by omega⟩
  · exact ⟨116, _, rfl, by omega⟩
  · exact ⟨128, _, rfl, by omega⟩
  · exact ⟨255, _, rfl, by omega⟩
theorem heard_some {o : List UInt8} {d : Dat} (h : heard o = some d) : spell d = o ∧ fits 20 d ∧ okD d ∧ isRow d = true := by
  unfold heard at h
  split at h
  · cases h
  · rename_i dv r e
    split at h
    · rename_i hc
      cases h
      obtain ⟨e1, e2, e3⟩ := spell_meant _ _ _ e
      exact ⟨by rw [e1, hc.1, List.append_nil], e2, e3, hc.2⟩
    · cases h
theorem row_ref {h : Heap} {d : Dat} {v : Value} (x : IsV h d v) (hr : isRow d = true) : v ≠ .none := by
  cases d with
  | tup l => rw [IsV] at x; obtain ⟨a, it, rfl, _⟩ := x; exact fun z => nomatch z
  | _ => cases hr
theorem eq_same {prog : Program} {w : World} {A : Around} {E : Value → Shared → Prop} {s : Shared} {k : Nat} {d : Dat} {v v' : Value} {Q : Value → Shared → Prop} (x : IsV s.heap d v) (y : IsV s.heap d v') (hr : isRow d = true) (p : pureD d) (hk : deep d ≤ k) (hu : A.units + k < cLine)
    (h : Q (.bool true) s) : wpAny (model prog w) A (compareOp .Eq v v') Q E s := by
  cases d with
  | tup l => exact eq_tups x y p p hk hu (by simpa using h)
  | _ => cases hr
theorem item_menu8 {prog : Program} {w : World} {A : Around} {E : Value → Shared → Prop} {s : Shared} {value slice : Expr} {l : Addr} {r : Nat} {u a b c d e f g h : Tok} {Q : Value → Shared → Prop}
    (hl : s.heap.IsList l (List.toArray [.int 0 a, .int 1 b, .int 105 c, .int 111 d, .int 114 e, .int 116 f, .int 128 g, .int 255 h])) (hr : r < 8) (k : ∀ (x : Nat) (t : Tok), x < 256 → Q (.int (x : Nat) t) s)
    (hs : subscripted slice false (.ref l) (.int (r : Nat) u) = operate [.ref l, .int (r : Nat) u] (getItem (.ref l) (.int (r : Nat) u))) :
    wpAny (model prog w) A (subscriptTail value slice (.ref l) (.int (r : Nat) u)) Q E s := by
  obtain ⟨x, tx, hx, hx2⟩ := menu8 hr a b c d e f g h
  exact item_lstT (k := r) hl (by omega) (by simpa using hx) (k x tx hx2) hs
theorem cut_int {M : Model} {A : Around} {t : Sem Value} {Q : Value → Shared → Prop} {E : Value → Shared → Prop} {s : Shared} (s0 : Shared) {h : Heap} (hx : wpAny M A t (fun v s' => ∃ (m : Nat) (tm : Tok) (tk' : Nat), v = .int (m : Nat) tm ∧ s' = { s0 with heap := h, toks := tk' }) E s)
    (k : ∀ (m : Nat) (tm : Tok) (tk' : Nat), Q (.int (m : Nat) tm) { s0 with heap := h, toks := tk' }) : wpAny M A t Q E s :=
  wpAny_mono hx (fun v s' ⟨m, tm, tk', e1, e2⟩ => by subst e1 e2; exact k m tm tk') fun _ _ x => x
theorem cut_code {M : Model} {w : World} {A : Around} {t : Sem Value} {Q : Value → Shared → Prop} {E : Value → Shared → Prop} {s : Shared} (s0 : Shared) {hE hR : Heap} {L B c : Addr} {vs : List (Dat × Value)} (C : List (Str × Value) → Prop)
    (hx : wpAny M A t (fun v s' => ∃ (cb : List UInt8) (tc : Tok) (h' : Heap) (tk' P' : Nat) (lo' : List (Str × Value)), v = .bytes (List.toArray cb) tc ∧ cb.length ≤ 1 ∧ s' = { s0 with heap := h', toks := tk' } ∧ LS w hE hR L B c P' vs lo' h' ∧ C lo') E s)
    (k : ∀ (cb : List UInt8) (tc : Tok) (h' : Heap) (tk' P' : Nat) (lo' : List (Str × Value)), cb.length ≤ 1 → LS w hE hR L B c P' vs lo' h' → C lo' → Q (.bytes (List.toArray cb) tc) { s0 with heap := h', toks := tk' }) : wpAny M A t Q E s :=
  wpAny_mono hx (fun v s' ⟨cb, tc, h', tk', P', lo', e1, e2, e3, e4, e5⟩ => by subst e1 e3; exact k cb tc h' tk' P' lo' e2 e4 e5) fun _ _ x => x
inductive S5I (w : World) (hE h₁ : Heap) (L B c sc : Addr) (d d' : Dat) (v₄ v₆ : Value) (t₈ : Tok) (h' : Heap) : Prop where
  | mk (S : LS w hE h₁ L B c (0 + 80 + 80) [(d', v₆), (d, v₄)] [(Str.ofString "script", .ref sc), (Str.ofString "box", .ref B), (Str.ofString "row", v₄), (Str.ofString "other", v₆), (Str.ofString "octets", .bytes (spell d).toArray t₈)] h') : S5I w hE h₁ L B c sc d d' v₄ v₆ t₈ h'
inductive LpI (w : World) (hE h₁ : Heap) (L B c a0 a1 a2 a3 a4 : Addr) (d d' : Dat) (v₄ v₆ : Value) (t₈ : Tok) (xs : Array Value) (h : Heap) : Prop where
  | mk (lo : List (Str × Value)) (S : LS w hE h₁ L B c (0 + 80 + 80) [(Dat.tup [.str [100, 101, 101, 100], .bad], .ref a4), (.tup [], .ref a2), (.tup [.int 7, .str [100, 101, 101, 100]], .ref a1), (.tup [.str [100, 101, 101, 100], .bad], .ref a0), (d', v₆), (d, v₄)] lo h)
      (l : h.PlainList a3 xs) (e1 : lo.lookup (Str.ofString "box") = some (.ref B)) (e2 : lo.lookup (Str.ofString "octets") = some (.bytes (spell d).toArray t₈)) : LpI w hE h₁ L B c a0 a1 a2 a3 a4 d d' v₄ v₆ t₈ xs h
theorem spec_law {w : World} {prog : Program} {A : Around} {E : Value → Shared → Prop} {s : Shared} {Q : Value → Shared → Prop} {sc : Addr} {vs : List Value} {ns : List Int}
    (G : G0 w s.heap) (R : Room A 70) (O : Fok A [] s.heap) (hl : s.heap.IsList sc vs.toArray) (hi : IntsAre vs ns) (hz : ns.length ≤ 63)
    (hQ : ∀ h' tk', s.heap.StaysIn h' → Q (.bool true) { s with heap := h', toks := tk' }) :
    wpS (model prog w) A (call (.ref 213) [.ref sc]) Q E s := by
  refine callFS [(Str.ofString "script", .ref sc)] G (R.mono (m := 69 + 1) (by omega)) (by exact rfl) (by exact rfl) (by kernel_rfl) (by exact rfl) (by exact rfl) (by decide) fun L h₁ tk F k R' => sMono (Q := fun fl s' => Q (match fl with | .ret v => v | _ => .none) s') (E := fun _ _ => False) ?_ (fun _ _ x => x) fun _ _ x => x.elim
  have hl₁ : h₁.IsList sc vs.toArray := let ⟨o, ho, r⟩ := hl; ⟨o, k _ _ ho, r⟩
  refine sCons (sAsg (by rfl) (sCallN (f := 141) (by exact rfl) (by exact rfl) (by rfl) (n_law_box F.gh ⟨rfl, sArgsC (by exact rfl) (ofAny ?_)⟩)))
  walk_at "W"
  refine sArgsN ⟨F.gh, spec_law_box F.gh (R'.mono (by omega)) hl₁ hi hz fun h₂ B c tk₂ st₂ nB bx => ?_⟩
  have F₂ := F.stays st₂
  have S₂ : LS w s.heap h₁ L B c 0 [] _ h₂ := ⟨F₂, bx, (fun _ hx => nomatch hx), get_none_of_stays k nB, nB, ns_ne F.fr.ns nB, fun z => by
    obtain ⟨vs, cells, g, tg, st, ts, p, tp, _, h2, _⟩ := bx
    exact noList_ns F₂.fr.ns _ (z ▸ h2)⟩
  clear F bx st₂ hl hl₁ hi
  walk_at "st"
  intro h₃ k₃ F₃ b₃
  have S₃ := S₂.sto F₃ b₃
  clear F₂ S₂ b₃
  refine sCons (sAsg (by rfl) (sCallN (f := 158) (by exact rfl) (by exact rfl) (by rfl) (n_law_row F₃.gh ⟨rfl, sArgsC (by exact rfl) (ofAny ?_)⟩)))
  walk_at "W"
  refine sArgsN ⟨F₃.gh, spec_law_row G F₃.fr.keep S₃.nE (R'.mono (by omega)) S₃.bx (by omega) fun h₄ v₄ tk₄ sg dl ke bx₄ hv g => ?_⟩
  have S₄ := (S₃.draw ke bx₄).more hv
  have F₄ := S₄.F
  clear F₃ S₃ ke bx₄ hv
  walk_at "st"
  intro h₅ k₅ F₅ b₅
  have S₅ := S₄.sto F₅ b₅
  clear F₄ S₄ b₅
  refine sCons (sAsg (by rfl) (sCallN (f := 158) (by exact rfl) (by exact rfl) (by rfl) (n_law_row F₅.gh ⟨rfl, sArgsC (by exact rfl) (ofAny ?_)⟩)))
  walk_at "W"
  refine sArgsN ⟨F₅.gh, spec_law_row G F₅.fr.keep S₅.nE (R'.mono (by omega)) S₅.bx (by omega) fun h₆ v₆ tk₆ sg' dl' ke bx₆ hv g' => ?_⟩
  have S₆ := (S₅.draw ke bx₆).more hv
  have F₆ := S₆.F
  clear F₅ S₅ ke bx₆ hv
  walk_at "st"
  intro h₇ k₇ F₇ b₇
  have S₇ := S₆.sto F₇ b₇
  clear F₆ S₆ b₇
  have hr1 : isRow (.tup (.str sg :: dl)) = true := rfl
  have hr2 : isRow (.tup (.str sg' :: dl')) = true := rfl
  generalize hd1 : Dat.tup (.str sg :: dl) = d at S₇ g hr1
  generalize hd2 : Dat.tup (.str sg' :: dl') = d' at S₇ g' hr2
  have sz := g.sz
  have sz' := g'.sz
  have df := deep_fits g.pu (n := 20)
  have df' := deep_fits g'.pu (n := 20)
  refine sCons (sAsg (by rfl) (sCallN (f := 173) (by exact rfl) (by exact rfl) (by rfl) (n_law_spelled F₇.gh ⟨rfl, sArgsC (by exact rfl) (ofAny ?_)⟩)))
  walk_at "W"
  refine sArgsN ⟨F₇.gh, spec_spelled w prog 24 F₇.gh (R'.mono (by omega)) (show IsV h₇ d v₄ from S₇.dv _ (.tail _ (.head _))) g.pu g.ok (by omega) g.dp fun h₈ t₈ tk₈ st₈ => ?_⟩
  have S₈ := S₇.stays st₈
  have F₈ := S₈.F
  clear F₇ S₇
  walk_at "st"
  intro h₉ k₉ F₉ b₉
  have S₉ := S₈.sto F₉ b₉
  clear F₈ S₈ b₉ st₈
  have dvR : ∀ {h : Heap} {P : Nat} {lo : List (Str × Value)}, LS w s.heap h₁ L B c P [(d', v₆), (d, v₄)] lo h → IsV h d v₄ := fun S => S.dv (d, v₄) (.tail _ (.head _))
  have dvO : ∀ {h : Heap} {P : Nat} {lo : List (Str × Value)}, LS w s.heap h₁ L B c P [(d', v₆), (d, v₄)] lo h → IsV h d' v₆ := fun S => S.dv (d', v₆) (.head _)
  -- the row: written and read back, unless it is too deep
  refine sCons (sMono (Q := fun f s' => f = .next ∧ ∃ h' tk', s' = { s with heap := h', toks := tk' } ∧ S5I w s.heap h₁ L B c sc d d' v₄ v₆ t₈ h')
    (sIf (sTst (by rfl) (sCallN (f := 163) (by exact rfl) (by exact rfl) (by rfl) (n_law_depth F₉.gh ⟨rfl, sArgsC (by exact rfl) (ofAny ?_)⟩)))) (fun f s' hx => ?_) fun _ _ x => x)
  · walk_at "W"
    refine sArgsN ⟨F₉.gh, spec_depth w prog 24 F₉.gh (R'.mono (by omega)) (dvR S₉) g.pu (by omega) g.dp fun h₁₀ t₁₀ tk₁₀ st₁₀ => ?_⟩
    have S₁₀ := S₉.stays st₁₀
    have F₁₀ := S₁₀.F
    clear S₉ F₉
    refine ofAny ?_
    walk_at "W"
    refine wIteT (fun hd => ?_) (fun hd => ?_)
    · have hnf : ¬ fits 20 d := fun z => by have := of_decide_eq_true hd; have := df.mp z; omega
      have hh : heard (spell d) = none := by
        have := unmeant (n := 20) (r := []) g.pu g.ok hnf
        rw [List.append_nil] at this
        unfold heard
        rw [this]
      refine sCons (sIf (sTBool (sOrC (sTst (by rfl) (sCallN (f := 206) (by exact rfl) (by exact rfl) (by rfl) (n_law_written F₁₀.gh ⟨rfl, sArgsC (by exact rfl) (ofAny ?_)⟩))))))
      walk_at "W"
      refine sArgsN ⟨F₁₀.gh, ?_⟩
      refine ls_written (s := s) (d := d) (b := true) S₁₀ O rfl rfl (R'.mono (by omega)) (row_is F₁₀.gh (dvR S₁₀) hr1 (by omega)) (fun _ => ⟨dvR S₁₀, g.ok, by omega⟩) fun h₁₁ r tk₁₁ S₁₁ _ hr => ?_
      have F₁₁ := S₁₁.F
      clear S₁₀ F₁₀
      rcases hr with ⟨_, hf, _⟩ | ⟨_, rfl⟩
      · exact absurd hf hnf
      refine ofAny ?_
      walk_at "W"
      refine isnot_none_none ?_
      walk_at "W"
      refine wIteT (fun z => nomatch z) (fun _ => ?_)
      refine sOrC (sTst (by rfl) (ofAny ?_))
      refine callN (f := 199) (by exact rfl) (by exact rfl) (by rfl) (n_law_heard F₁₁.gh ⟨rfl, ?_⟩)
      walk_at "W"
      refine ⟨F₁₁.gh, ?_⟩
      refine ls_heard (s := s) S₁₁ O rfl rfl (R'.mono (by omega)) (by omega) fun h₁₂ v₁₂ tk₁₂ S₁₂ _ hv => ?_
      rw [hh] at hv
      subst hv
      refine ofAny ?_
      walk_at "W"
      refine isnot_none_none ?_
      walk_at "W"
      refine wIteT (fun z => nomatch z) (fun _ => ?_)
      refine sAllNil ?_
      refine wIteT (fun z => nomatch z) (fun _ => sNil (sNil ?_))
      exact ⟨rfl, h₁₂, _, rfl, ⟨S₁₂⟩⟩
    · have hf : fits 20 d := df.mpr (by have := of_decide_eq_false hd; omega)
      have hh : heard (spell d) = some d := by
        have := meant_spell d 20 [] hf g.ok
        rw [List.append_nil] at this
        unfold heard
        rw [this]
        exact if_pos ⟨rfl, hr1⟩
      refine sCons (sIf (sTBool (sOrC (sTst (by rfl) (sCallN (f := 206) (by exact rfl) (by exact rfl) (by rfl) (n_law_written F₁₀.gh ⟨rfl, sArgsC (by exact rfl) (ofAny ?_)⟩))))))
      walk_at "W"
      refine sArgsN ⟨F₁₀.gh, ?_⟩
      refine ls_written (s := s) (d := d) (b := true) S₁₀ O rfl rfl (R'.mono (by omega)) (row_is F₁₀.gh (dvR S₁₀) hr1 (by omega)) (fun _ => ⟨dvR S₁₀, g.ok, by omega⟩) fun h₁₁ r tk₁₁ S₁₁ _ hr => ?_
      have F₁₁ := S₁₁.F
      clear S₁₀ F₁₀
      rcases hr with ⟨_, _, tr, rfl⟩ | ⟨hn, _⟩
      case inr => exact absurd ⟨rfl, hf⟩ hn
      refine ofAny ?_
      walk_at "W"
      refine ne_bytes ?_
      walk_at "W"
      refine wIteT (fun z => absurd z (by simp)) (fun _ => ?_)
      refine sOrC (sTst (by rfl) (ofAny ?_))
      refine callN (f := 199) (by exact rfl) (by exact rfl) (by rfl) (n_law_heard F₁₁.gh ⟨rfl, ?_⟩)
      walk_at "W"
      refine ⟨F₁₁.gh, ?_⟩
      refine ls_heard (s := s) S₁₁ O rfl rfl (R'.mono (by omega)) (by omega) fun h₁₂ v₁₂ tk₁₂ S₁₂ _ hv => ?_
      have F₁₂ := S₁₂.F
      rw [hh] at hv
      refine ofAny ?_
      walk_at "W"
      have vr := dvR S₁₂
      have pu := g.pu
      subst hd1
      refine ne_tups (k := 24) hv vr pu pu (by have := g.dp; omega) (by have := R'.un; show _ < 9900; omega) ?_
      walk_at "W"
      refine wIteT (fun z => absurd z (by simp)) (fun _ => ?_)
      refine sAllNil ?_
      refine wIteT (fun z => nomatch z) (fun _ => sNil (sNil ?_))
      exact ⟨rfl, h₁₂, _, rfl, ⟨S₁₂⟩⟩
  obtain ⟨rfl, h₁₃, k₁₃, rfl, ⟨S₁₃⟩⟩ := hx
  clear S₉ F₉
  have F₁₃ := S₁₃.F
  -- unlike rows have unlike octets
  refine sCons (sMono (Q := fun f s' => f = .next ∧ ∃ h' tk', s' = { s with heap := h', toks := tk' } ∧ S5I w s.heap h₁ L B c sc d d' v₄ v₆ t₈ h')
    (sIf (sTBool (sAndC (sTst (by rfl) (sCallN (f := 163) (by exact rfl) (by exact rfl) (by rfl) (n_law_depth F₁₃.gh ⟨rfl, sArgsC (by exact rfl) (ofAny ?_)⟩)))))) (fun f s' hx => ?_) fun _ _ x => x)
  · walk_at "W"
    refine sArgsN ⟨F₁₃.gh, spec_depth w prog 24 F₁₃.gh (R'.mono (by omega)) (dvO S₁₃) g'.pu (by omega) g'.dp fun h₁₄ t₁₄ tk₁₄ st₁₄ => ?_⟩
    have S₁₄ := S₁₃.stays st₁₄
    have F₁₄ := S₁₄.F
    clear S₁₃ F₁₃
    refine ofAny ?_
    walk_at "W"
    refine wIteT (fun hd => ?_) (fun hd => ?_)
    · have hf : fits 20 d' := df'.mpr (by have := of_decide_eq_true hd; omega)
      refine sAndC (sTst (by rfl) (sCmp (by rfl) (sCallN (f := 206) (by exact rfl) (by exact rfl) (by rfl) (n_law_written F₁₄.gh ⟨rfl, sArgsC (by exact rfl) (ofAny ?_)⟩))))
      walk_at "W"
      refine sArgsN ⟨F₁₄.gh, ?_⟩
      refine ls_written (s := s) (d := d') (b := true) S₁₄ O rfl rfl (R'.mono (by omega)) (row_is F₁₄.gh (dvO S₁₄) hr2 (by omega)) (fun _ => ⟨dvO S₁₄, g'.ok, by omega⟩) fun h₁₅ r tk₁₅ S₁₅ _ hr => ?_
      have F₁₅ := S₁₅.F
      clear S₁₄ F₁₄
      rcases hr with ⟨_, _, tr, rfl⟩ | ⟨hn, _⟩
      case inr => exact absurd ⟨rfl, hf⟩ hn
      refine ofAny ?_
      walk_at "W"
      refine eq_bytes ?_
      refine ofAny ?_
      walk_at "W"
      have vr := dvR S₁₅
      have vo := dvO S₁₅
      have pu := g.pu
      have pu' := g'.pu
      have inj : spell d' = spell d ↔ d = d' := ⟨fun e => (spell_inj (r := []) (r' := []) pu pu' g.ok g'.ok (by rw [e])).1, fun e => by rw [e]⟩
      subst hd1 hd2
      refine eq_tups (k := 24) vr vo pu pu' (by have := g.dp; omega) (by have := R'.un; show _ < 9900; omega) ?_
      refine ne_bool ?_
      walk_at "W"
      refine wIteT (fun z => absurd z ?_) (fun _ => ?_)
      · simp only [List.toList_toArray, bne_iff_ne, ne_eq, Bool.not_eq_true, Decidable.not_not]
        rw [Bool.eq_iff_iff, beq_iff_eq]
        simp only [decide_eq_true_eq]
        exact inj
      refine wIteT (fun z => nomatch z) (fun _ => sNil ?_)
      exact ⟨rfl, h₁₅, _, rfl, ⟨S₁₅⟩⟩
    · refine wIteT (fun z => nomatch z) (fun _ => sNil ?_)
      exact ⟨rfl, h₁₄, _, rfl, ⟨S₁₄⟩⟩
  obtain ⟨rfl, h₁₆, k₁₆, rfl, ⟨S₁₆⟩⟩ := hx
  clear S₁₃ F₁₃
  have F₁₆ := S₁₆.F
  -- what is no row is refused
  with_reducible refine sCons ?_
  with_reducible refine sMono (E := fun _ _ => False) (Q := fun f s' => f = .next ∧ ∃ lo h' tk', s' = { s with heap := h', toks := tk' } ∧ LS w s.heap h₁ L B c (0 + 80 + 80) [(d', v₆), (d, v₄)] lo h' ∧
      lo.lookup (Str.ofString "box") = some (.ref B) ∧ lo.lookup (Str.ofString "octets") = some (.bytes (spell d).toArray t₈)) ?loop ?after ?no
  case no => exact fun _ _ x => x
  case loop =>
    with_reducible refine sForW s ?f1 ?f2 ?f3 ?f4 (ofAny ?f5)
    case f1 => exact R'.hd
    case f2 => exact PassesOwn.never
    case f3 => intro _; rfl
    case f4 => intro _ _; rfl
    have deed : (Str.ofString "deed") = ⟨[100, 101, 101, 100].toArray⟩ := by rfl
    with_reducible refine tup_new ?_
    with_reducible refine argsC ?he (tup_new ?_)
    case he => rfl
    walk_at "W"
    refine ⟨by show 2 ≤ 16777216; omega, fun h₁₇ a0 n₁₇ st₁₇ t0 => ?_⟩
    have S₁₇ := (S₁₆.stays st₁₇).more (d := .tup [.str [100, 101, 101, 100], .bad]) (v := .ref a0) (by rw [IsV]; exact ⟨_, _, rfl, t0, by simp only [IsVL, IsV]; exact ⟨_, _, rfl, ⟨_, rfl⟩, _, _, rfl, .inl ⟨_, rfl⟩, rfl⟩⟩)
    clear S₁₆ F₁₆ t0
    with_reducible refine argsC ?he (tup_new ?_)
    case he => rfl
    walk_at "W"
    refine ⟨by show 2 ≤ 16777216; omega, fun h₁₈ a1 n₁₈ st₁₈ t1 => ?_⟩
    have S₁₈ := (S₁₇.stays st₁₈).more (d := .tup [.int 7, .str [100, 101, 101, 100]]) (v := .ref a1) (by rw [IsV]; exact ⟨_, _, rfl, t1, by simp only [IsVL, IsV]; exact ⟨_, _, rfl, ⟨_, rfl⟩, _, _, rfl, ⟨_, rfl⟩, rfl⟩⟩)
    clear S₁₇ t1
    with_reducible refine argsC ?he (tup_new ?_)
    case he => rfl
    walk_at "W"
    refine ⟨by show 0 ≤ 16777216; omega, fun h₁₉ a2 n₁₉ st₁₉ t2 => ?_⟩
    have S₁₉ := (S₁₈.stays st₁₉).more (d := .tup []) (v := .ref a2) (by rw [IsV]; exact ⟨_, _, rfl, t2, by simp only [IsVL]⟩)
    clear S₁₈ t2
    with_reducible refine argsC ?he (list_new ?_)
    case he => rfl
    walk_at "W"
    refine ⟨by show 1 ≤ 16777216; omega, fun h₂₀ a3 n₂₀ st₂₀ l3 => ?_⟩
    have S₂₀ := S₁₉.stays st₂₀
    have a3L := ns_ne S₁₉.F.fr.ns n₂₀
    clear S₁₉
    with_reducible refine argsC ?he (tup_new ?_)
    case he => rfl
    walk_at "W"
    refine ⟨by show 2 ≤ 16777216; omega, fun h₂₁ a4 n₂₁ st₂₁ t4 => ?_⟩
    have S₂₁ := (S₂₀.stays st₂₁).more (d := .tup [.str [100, 101, 101, 100], .bad]) (v := .ref a4) (by rw [IsV]; exact ⟨_, _, rfl, t4, by simp only [IsVL, IsV]; exact ⟨_, _, rfl, ⟨_, rfl⟩, _, _, rfl, .inr rfl, rfl⟩⟩)
    have l3' := IsList.stays l3 st₂₁
    clear S₂₀ t4 l3
    walk_at "W"
    refine ⟨by show 6 ≤ 16777216; omega, fun h₂₂ a6 n₂₂ st₂₂ t6 => ?_⟩
    have S₂₂ := S₂₁.stays st₂₂
    have l3'' := IsList.stays l3' st₂₂
    have a6L := ns_ne S₂₁.F.fr.ns n₂₂
    clear S₂₁ l3'
    -- each of them is refused, as long as it stands
    have claim : ∀ {v : Value} {h : Heap} {lo : List (Str × Value)} {td : Tok} {its : Array Value}, v ∈ [Value.ref a0, .ref a1, .ref a2, .ref a3, .ref a4, .str (Str.ofString "deed") td] →
        LS w s.heap h₁ L B c (0 + 80 + 80) [(Dat.tup [.str [100, 101, 101, 100], .bad], .ref a4), (.tup [], .ref a2), (.tup [.int 7, .str [100, 101, 101, 100]], .ref a1), (.tup [.str [100, 101, 101, 100], .bad], .ref a0), (d', v₆), (d, v₄)] lo h → h.PlainList a3 its → Refused w prog h v := fun {v h lo td its} hv S l => by
      rcases (by simpa using hv : v = _ ∨ v = _ ∨ v = _ ∨ v = _ ∨ v = _ ∨ v = _) with rfl | rfl | rfl | rfl | rfl | rfl
      · exact refused_bad S.F.gh (S.dv (Dat.tup [.str [100, 101, 101, 100], .bad], .ref a0) (by simp))
      · exact refused_no S.F.gh (S.dv (Dat.tup [.int 7, .str [100, 101, 101, 100]], .ref a1) (by simp)) (fun z => nomatch z) rfl (fun l e => by cases e; simp)
      · exact refused_no S.F.gh (S.dv (Dat.tup [], .ref a2) (by simp)) (fun z => nomatch z) rfl (fun l e => by cases e; simp)
      · exact refused_list S.F.gh (PlainList.isList l)
      · exact refused_bad S.F.gh (S.dv (Dat.tup [.str [100, 101, 101, 100], .bad], .ref a4) (by simp))
      · exact refused_no (d := .str [100, 101, 101, 100]) S.F.gh (by rw [IsV]; exact ⟨_, rfl⟩) (fun z => nomatch z) rfl (fun l e => nomatch e)
    with_reducible refine iter_tup t6 fun h₂₃ it nit st₂₃ hit => ?_
    have S₂₃ := S₂₂.stays st₂₃
    have l3₂₃ := IsList.stays l3'' st₂₃
    have itL : it ≠ L := ns_ne S₂₂.F.fr.ns nit
    have ita3 : a3 ≠ it := fun e => by obtain ⟨o, ho⟩ := l3''; rw [e, nit] at ho; cases ho
    have ita6 : a6 ≠ it := fun e => by obtain ⟨o, ho, _⟩ := t6; rw [e, nit] at ho; cases ho
    have itB : B ≠ it := fun z => by obtain ⟨o, ho⟩ := S₂₂.bx.get; rw [z, nit] at ho; cases ho
    have itc : c ≠ it := fun z => by obtain ⟨o, ho⟩ := S₂₂.bx.getc; rw [z, nit] at ho; cases ho
    have itE : s.heap.get? it = none ∧ h₁.get? it = none := by
      refine ⟨get_none_of_stays S₂₂.F.fr.keep nit, ?_⟩
      cases q : h₁.get? it with
      | none => rfl
      | some o => exact absurd (S₂₂.F.ext _ _ itL q) (by rw [nit]; simp)
    clear S₂₂ l3''
    have t6' := IsTup.keeps t6 st₂₃
    refine ⟨_, _, it, _, _, fun i h => LpI w s.heap h₁ L B c a0 a1 a2 a3 a4 d d' v₄ v₆ t₈ _ h,
      walker_tup prog w _ it a6 ita6, rfl, rfl, ⟨hit, t6'⟩, ⟨_, S₂₃, l3₂₃, rfl, rfl⟩, ?_, ?_, ?_⟩
    · rintro i h h' _ ⟨⟨oi, hoi, hci, _⟩, _⟩ ⟨lo, S, l, e1, e2⟩ kk
      exact ⟨lo, S.but (kk.elim (·.extBut) id) itE.1 itE.2 itB itc (noTup_cls hoi (by rw [hci]; simp)), IsList.ebut l ita3 kk, e1, e2⟩
    · rintro i v h tk hin hx _ ⟨lo, S, l, e1, e2⟩
      have hmem := List.mem_of_getElem? (l := [Value.ref a0, .ref a1, .ref a2, .ref a3, .ref a4, .str (Str.ofString "deed") _]) (i := i) (a := v) (by simpa using hx)
      have F := S.F
      walk_at "st"
      intro h₂₄ k₂₄ F₂₄ b₂₄
      have S₂₄ := S.sto F₂₄ b₂₄
      have l₂₄ := IsList.but l a3L b₂₄
      have nnL : L ∉ [it, a6] := by simp only [List.mem_cons, List.not_mem_nil, or_false, not_or]; exact ⟨itL.symm, a6L.symm⟩
      obtain ⟨dd, bb, his, hb, hno⟩ := claim hmem S₂₄ l₂₄
      clear S F l
      refine sCons (sIf (sTst (by rfl) (sCallN (f := 206) (by exact rfl) (by exact rfl) (by rfl) (n_law_written F₂₄.gh ⟨rfl, sArgsC (by exact rfl) (ofAny ?_)⟩))))
      walk_at "X"
      refine sArgsN ⟨F₂₄.gh, ?_⟩
      refine ls_written (s := s) S₂₄ O rfl rfl (R'.mono (by omega)) his hb fun h₂₅ r tk₂₅ S₂₅ ke hr => ?_
      rcases hr with ⟨z1, z2, _⟩ | ⟨_, rfl⟩
      · exact absurd ⟨z1, z2⟩ hno
      refine ofAny ?_
      walk_at "X"
      refine isnot_none_none ?_
      walk_at "X"
      refine wIteT (fun z => nomatch z) (fun _ => sNil (sNil ?_))
      refine ⟨h₂₅, _, rfl, ⟨_, S₂₅, (let ⟨o, ho⟩ := l₂₄; ⟨o, ke _ _ a3L ho⟩), ?_, ?_⟩, Keep.trans (h' := h₂₄) (Keep.but b₂₄ nnL) fun b hb o e => ke b o (fun z => nnL (z ▸ hb)) e⟩
      · walk_at "hv"
      · walk_at "hv"
    · rintro h tk ⟨lo, S, l, e1, e2⟩
      exact ⟨rfl, lo, h, tk, rfl, S.less (fun x hx => by simp at hx ⊢; rcases hx with rfl | rfl <;> simp), e1, e2⟩
  case after =>
    intro f s' hx
    obtain ⟨rfl, lo, h₂₆, k₂₆, rfl, S₂₆, e1, e2⟩ := hx
    clear S₁₆ F₁₆
    have F₂₆ := S₂₆.F
    have hpos := spell_posB d
    refine sCons (sAsg (by rfl) (ofAny ?_))
    refine callN (f := 148) (by exact rfl) (by exact rfl) (by rfl) (n_law_draw F₂₆.gh ⟨rfl, ?_⟩)
    walk_at "X"
    refine callM (f := .builtin "len") (by rfl) (by rfl) (nb_len F₂₆.gh ⟨rfl, ?_⟩)
    walk_at "X"
    refine len_bytes (by rw [List.size_toArray]; omega) ?_
    rw [List.size_toArray]
    walk_at "X"
    refine ⟨F₂₆.gh, ?_⟩
    refine spec_law_draw G F₂₆.fr.keep S₂₆.nE (R'.mono (by omega)) S₂₆.bx (by omega) hpos (len_small sz) fun h₂₇ pl tp tk₂₇ hpl ke bx₂₇ => ?_
    have S₂₇ := S₂₆.draw ke bx₂₇
    have F₂₇ := S₂₇.F
    clear S₂₆ F₂₆ ke bx₂₇
    walk_at "st"
    intro h₂₈ k₂₈ F₂₈ b₂₈
    have S₂₈ := S₂₇.sto F₂₈ b₂₈
    clear S₂₇ F₂₇ b₂₈
    refine sCons (sAsg (by rfl) (ofAny ?_))
    refine callN (f := 148) (by exact rfl) (by exact rfl) (by rfl) (n_law_draw F₂₈.gh ⟨rfl, ?_⟩)
    walk_at "X"
    refine ⟨F₂₈.gh, ?_⟩
    refine spec_law_draw (lim := 3) G F₂₈.fr.keep S₂₈.nE (R'.mono (by omega)) S₂₈.bx (by omega) (by omega) (by decide +kernel) fun h₂₉ wy tw tk₂₉ hwy ke bx₂₉ => ?_
    have S₂₉ := S₂₈.draw ke bx₂₉
    have F₂₉ := S₂₉.F
    clear S₂₈ F₂₈ ke bx₂₉
    walk_at "st"
    intro h₃₀ k₃₀ F₃₀ b₃₀
    have S₃₀ := S₂₉.sto F₃₀ b₃₀
    clear S₂₉ F₂₉ b₃₀
    with_reducible refine sCons ?_
    with_reducible refine sAsg ?hs ?_
    case hs => rfl
    with_reducible refine ofAny ?_
    with_reducible refine cut_code s (w := w) (hE := s.heap) (hR := h₁) (L := L) (B := B) (c := c) (vs := [(d', v₆), (d, v₄)]) (fun lo' => lo'.lookup (Str.ofString "octets") = some (.bytes (spell d).toArray t₈) ∧ lo'.lookup (Str.ofString "place") = some (.int (pl : Nat) tp) ∧ lo'.lookup (Str.ofString "way") = some (.int (wy : Nat) tw)) ?m1 ?m2
    case m1 =>
      with_reducible refine wpAny_IfExp ?_
      walk_at "X"
      refine wIteT (fun hw => ?_) (fun hw => ?_)
      · refine callM (f := .type "bytes") (by rfl) (by rfl) (nb_bytes F₃₀.gh ⟨rfl, ?_⟩)
        with_reducible refine argsC ?he (list_new ?_)
        case he => rfl
        with_reducible refine argsC ?he (Subscript_ (list_new ?_))
        case he => rfl
        walk_at "X"
        refine ⟨by show 8 ≤ 16777216; omega, fun h₃₁ c₃₁ n₃₁ st₃₁ l₃₁ => ?_⟩
        have S₃₁ := S₃₀.stays st₃₁
        have F₃₁ := S₃₁.F
        have c₃₁B : c₃₁ ≠ B := fun z => by obtain ⟨o, ho⟩ := S₃₀.bx.get; rw [← z, n₃₁] at ho; cases ho
        clear S₃₀ F₃₀
        refine callN (f := 148) (by exact rfl) (by exact rfl) (by rfl) (n_law_draw F₃₁.gh ⟨rfl, ?_⟩)
        walk_at "X"
        refine ⟨F₃₁.gh, ?_⟩
        refine spec_law_draw (lim := 8) G F₃₁.fr.keep S₃₁.nE (R'.mono (by omega)) S₃₁.bx (by omega) (by omega) (by decide +kernel) fun h₃₂ r₈ t₃₂ tk₃₂ hr₈ ke bx₃₂ => ?_
        have S₃₂ := S₃₁.draw ke bx₃₂
        have l₃₂ := l₃₁.isList.extBut ke c₃₁B
        clear S₃₁ F₃₁ l₃₁
        with_reducible refine item_menu8 l₃₂ hr₈ (fun x tx hx2 => ?_) ?i3
        case i3 => rfl
        with_reducible refine argsN ?_
        refine ⟨by show 1 ≤ 16777216; omega, fun h₃₃ c₃₃ n₃₃ st₃₃ l₃₃ => ?_⟩
        have S₃₃ := S₃₂.stays st₃₃
        with_reducible refine argsN ?_
        with_reducible refine call_bytes_ints (ns := [(x : Int)]) l₃₃.isList ?c1 ?c2 ?c3 R'.hd fun h₃₄ t₃₄ k₃₄ st₃₄ => ?_
        case c1 => exact .cons _ _ .nil
        case c2 =>
          intro y hy
          obtain rfl : y = _ := by simpa using hy
          omega
        case c3 => show 1 ≤ 16777216; omega
        refine ⟨(byteArr [(x : Int)]).toList, _, h₃₄, _, _, _, rfl, ?_, rfl, S₃₃.stays st₃₄, ?_, ?_, ?_⟩
        · rw [Array.length_toList, byteArr_size]; simp
        · walk_at "hv"
        · walk_at "hv"
        · walk_at "hv"
      · refine Constant_bytes ?_
        refine ⟨[], _, h₃₀, _, _, _, rfl, by simp, rfl, S₃₀, ?_, ?_, ?_⟩
        · walk_at "hv"
        · walk_at "hv"
        · walk_at "hv"
    case m2 =>
    intro cb tc h₃₅ k₃₅ P' lo' hcb S₃₅ fff
    have f1 := fff.1
    have f2 := fff.2.1
    have f3 := fff.2.2
    clear fff
    clear S₃₀ F₃₀
    have F₃₅ := S₃₅.F
    walk_at "st"
    intro h₃₆ k₃₆ F₃₆ b₃₆
    have S₃₆ := S₃₅.sto F₃₆ b₃₆
    clear S₃₅ F₃₅ b₃₆
    with_reducible refine sCons ?_
    with_reducible refine sAsg ?hs ?_
    case hs => rfl
    with_reducible refine ofAny ?_
    with_reducible refine wpAny_BinOp ?_
    with_reducible refine wpAny_BinOp ?_
    with_reducible refine Subscript_ ?_
    walk_at "X"
    refine wpAny_Slice ?_
    simp only [evalPart_some, evalPart_none]
    refine wpAny_pure ?_
    walk_at "X"
    refine wpAny_pure ?_
    refine slice_bytes .none (.int _ _) (by omega) (fun h₃₇ t₃₇ k₃₇ st₃₇ => ?_) (by rfl) (by intro _; rfl)
    rw [pick_to]
    have S₃₇ := S₃₆.stays st₃₇
    have F₃₇ := S₃₇.F
    clear S₃₆ F₃₆
    walk_at "X"
    refine KBy.add_bytes (by rw [List.size_toArray, List.size_toArray, List.length_take]; show _ ≤ 16777216; omega) fun t₃₈ k₃₈ => ?_
    refine Subscript_ ?_
    walk_at "X"
    refine wpAny_Slice ?_
    simp only [evalPart_some, evalPart_none]
    -- the place behind: moved by one where the way is not nought
    with_reducible refine cut_int s (h := h₃₇) ?m1 ?m2
    case m1 =>
      walk_at "X"
      refine wIteT (fun _ => ?_) (fun _ => ?_)
      · walk_at "X"
        exact ⟨pl + 1, _, _, congrArg (fun z => Value.int z _) (by push_cast; rfl), rfl⟩
      · walk_at "X"
        exact ⟨pl, _, _, congrArg (fun z => Value.int z _) (by simp), rfl⟩
    case m2 =>
    intro m tm k₃₉
    refine wpAny_pure ?_
    refine wpAny_pure ?_
    refine slice_bytes (.int _ _) .none (by omega) (fun h₄₀ t₄₀ k₄₀ st₄₀ => ?_) (by rfl) (by intro _; rfl)
    rw [pick_from]
    have S₄₀ := S₃₇.stays st₄₀
    have F₄₀ := S₄₀.F
    clear S₃₇ F₃₇
    refine KBy.add_bytes (by rw [Array.size_append, List.size_toArray, List.size_toArray, List.size_toArray, List.length_take, List.length_drop]; show _ ≤ 16777216; omega) fun t₄₁ k₄₁ => ?_
    obtain ⟨bent, hbent⟩ : ∃ bent : List UInt8, bent = (spell d).take pl ++ cb ++ (spell d).drop m := ⟨_, rfl⟩
    have hbl : bent.length ≤ 1801 := by rw [hbent, List.length_append, List.length_append, List.length_take, List.length_drop]; omega
    rw [show ((spell d).take pl).toArray ++ cb.toArray ++ ((spell d).drop m).toArray = bent.toArray by rw [hbent]; simp]
    walk_at "st"
    intro h₄₂ k₄₂ F₄₂ b₄₂
    have S₄₂ := S₄₀.sto F₄₂ b₄₂
    clear S₄₀ F₄₀ b₄₂
    refine sCons (sAsg (by rfl) (ofAny ?_))
    refine callN (f := 199) (by exact rfl) (by exact rfl) (by rfl) (n_law_heard F₄₂.gh ⟨rfl, ?_⟩)
    walk_at "X"
    refine ⟨F₄₂.gh, ?_⟩
    refine ls_heard (s := s) S₄₂ O rfl rfl (R'.mono (by omega)) (by omega) fun h₄₃ v₄₃ k₄₃ S₄₃ _ hv => ?_
    have F₄₃ := S₄₃.F
    clear S₄₂ F₄₂
    have nL : ∀ {h : Heap} {lo : List (Str × Value)} {P : Nat}, LS w s.heap h₁ L B c P [(d', v₆), (d, v₄)] lo h → ∀ items, ¬ IsTup h L items := fun S => noTup_ns S.F.fr.ns
    cases hh : heard bent with
    | none =>
      rw [hh] at hv
      subst hv
      walk_at "st"
      intro h₄₄ k₄₄ F₄₄ b₄₄
      refine sCons (sRet (sBAnd (sCmp (by rfl) (ofAny ?_))))
      walk_at "X"
      refine sCallN (f := 192) (by exact rfl) (by exact rfl) (by rfl) (n_law_due F₄₄.gh ⟨rfl, sArgsC (by exact rfl) (ofAny ?_)⟩)
      walk_at "X"
      refine sArgsN ⟨F₄₄.gh, spec_law_due F₄₄.gh (R'.mono (by omega)) (by omega) fun h₄₅ v₄₅ k₄₅ st₄₅ hv => ?_⟩
      rw [hh] at hv
      subst hv
      have F₄₅ := F₄₄.stays st₄₅
      clear F₄₄
      refine EqNone.eq_none_none ?_
      walk_at "X"
      refine wIteT (fun _ => ?_) (fun z => nomatch z)
      refine sBOne (sBOr (sCmp (by rfl) (ofAny ?_)))
      walk_at "X"
      refine ofAny ?_
      walk_at "X"
      refine is_none_none ?_
      walk_at "X"
      refine wIteT (fun _ => ?_) (fun z => nomatch z)
      exact hQ _ _ F₄₅.fr.keep
    | some dh =>
      rw [hh] at hv
      have hs := heard_some hh
      have hsp := hs.1
      have hfit := hs.2.1
      have hrow := hs.2.2.2
      have hok := hs.2.2.1
      have hpu := pure_fits hfit
      have hdp := (deep_fits hpu).mp hfit
      have hvv : IsV h₄₃ dh v₄₃ := hv
      have hszl : (spell dh).length ≤ 200000 := by rw [hsp]; omega
      clear hv hs
      walk_at "st"
      intro h₄₄ k₄₄ F₄₄ b₄₄
      have S₄₄ := S₄₃.sto F₄₄ b₄₄
      have hv₄₄ := hvv.ebut b₄₄.extBut (nL S₄₃)
      clear S₄₃ F₄₃ hvv
      refine sCons (sRet (sBAnd (sCmp (by rfl) (ofAny ?_))))
      walk_at "X"
      refine sCallN (f := 192) (by exact rfl) (by exact rfl) (by rfl) (n_law_due F₄₄.gh ⟨rfl, sArgsC (by exact rfl) (ofAny ?_)⟩)
      walk_at "X"
      refine sArgsN ⟨F₄₄.gh, spec_law_due F₄₄.gh (R'.mono (by omega)) (by omega) fun h₄₅ v₄₅ k₄₅ st₄₅ hv2 => ?_⟩
      rw [hh] at hv2
      have F₄₅ := F₄₄.stays st₄₅
      have S₄₅ := S₄₄.stays st₄₅
      have hv₄₅ := hv₄₄.stays st₄₅
      clear F₄₄ S₄₄ hv₄₄
      refine eq_same (k := 20) hv₄₅ hv2 hrow hpu hdp (by have := R'.un; show _ < 9900; omega) ?_
      walk_at "X"
      refine wIteT (fun _ => ?_) (fun z => nomatch z)
      refine sBOne (sBOr (sCmp (by rfl) (ofAny ?_)))
      walk_at "X"
      refine ofAny ?_
      walk_at "X"
      refine is_none_ne (row_ref hv₄₅ hrow) ?_
      walk_at "X"
      refine wIteT (fun z => nomatch z) (fun _ => ?_)
      refine sBOne (sCmp (by rfl) (sCallN (f := 129) (by exact rfl) (by exact rfl) (by rfl) (n_row_octets F₄₅.gh ⟨rfl, sArgsC (by exact rfl) (ofAny ?_)⟩)))
      walk_at "X"
      refine sArgsN ⟨F₄₅.gh, ?_⟩
      refine spec_row_octets (d := dh) (b := true) F₄₅.gh (R'.mono (by omega)) (S₄₅.fok O rfl rfl) (row_is F₄₅.gh hv₄₅ hrow hszl) (fun _ => ⟨hv₄₅, hok, hszl⟩) (fun _ h₄₆ t₄₆ k₄₆ st₄₆ => ?_) (fun hn => absurd ⟨rfl, hfit⟩ hn)
      rw [hsp]
      refine ofAny ?_
      have F₄₆ := F₄₅.stays st₄₆
      clear F₄₅
      walk_at "X"
      refine eq_bytes ?_
      have e : (bent.toArray.toList == bent.toArray.toList) = true := by simp
      rw [e]
      exact hQ _ _ F₄₆.fr.keep
end Mine
namespace Mine
theorem nk_law (w : World) : nsIn (KK w) mainGlobals (Str.ofString "law") = some (some (.ref 213)) := by kernel_rfl
theorem room_caller : Room callerA 70 := ⟨rfl, by decide, by decide⟩
end Mine
theorem PySem.Challenge.cw_no0357_01_holds : PySem.Challenge.rw_no0357_01.Holds := by
  refine Mine.hd ?_
  intro w s₀ s₁ mg mb G Y fa o pm cd doc dV kV ho hfd hcd hD hmg hg args vals as hpre hlay hrd hwl hlo
  have KX := kIn_of Y
  have T := topRead_of G.T
  have hlaw := mg_of KX T.g (Mine.nk_law w)
  have G0 : Mine.G0 w s₁.heap := ⟨KX, mg, mb, T⟩
  clear ho hfd hcd hD
  wrow_args hpre hlay hrd hwl hlo
  rename_i ns h1 h2 h3 h4 h5 b1 b2 sc vs b3 hL ra w1 r0 hI hr hc1 hc2
  obtain rfl : fa = 213 := by
    have e := hmg.symm.trans hlaw
    exact Value.ref.inj (Option.some.inj e)
  refine Mine.spec_law G0 Mine.room_caller ⟨rfl, trivial⟩ hL hI (by omega) fun h' tk' st => ?_
  refine GoodW.toG ⟨.inl ⟨.bool true, .bool true, [], rfl, ?_, .bool true, ?_, unshared_nil⟩, st, rfl, hg⟩
  · intro cls
    rfl
  · first | kernel_rfl | with_unfolding_all rfl | simp [RowW.claim, OpenLaw.row]
