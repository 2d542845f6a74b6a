import PyProof.Rows.All
import Wide.All
import OpenK.AllK
import Wide.FinOn
import PySem.Challenge.RW_rg0271_01
open PySem PySem.W PySem.W.X PyProof.Rows PySem.Calls PyProof.V PySem.Spec
set_option linter.all false
set_option compiler.extract_closed false
set_option Elab.async false
set_option maxRecDepth 100000
set_option maxHeartbeats 0
namespace Mine
noncomputable def cleanC : Code → Bool
  | .builtin id _ => !Builtin.Bytes.decodersThatHold.contains id && !guardIds.contains id
  | _ => true
noncomputable def Clean (l : List (Code × Pos)) : Prop := ∀ x ∈ l, cleanC x.1 = true
noncomputable def wpC {α : Type} (M : Model) (A : Around) (t : Sem α) (Q : α → Shared → Prop) (E : Value → Shared → Prop) (s : Shared) : Prop :=
  ∀ Γ p, Γ.In A → cleanC Γ.code = true → Clean Γ.below → Sem.wp M Γ t (fun a _ s' => Q a s') (fun e _ s' => E e s') p s
noncomputable def codeC (M : Model) (A : Around) (c : Code) (R : Result → Shared → Prop) (s : Shared) : Prop :=
  ∀ Γ p, Γ.code = c → Γ.Below A → Clean Γ.below → wpCode M Γ R p s
section
variable {α β : Type} {M : Model} {A : Around} {E : Value → Shared → Prop} {s : Shared}
theorem wpC_any {t : Sem α} {Q : α → Shared → Prop} (h : wpAny M A t Q E s) : wpC M A t Q E s := fun Γ p hΓ _ _ => h Γ p hΓ
theorem wpC_pure {a : α} {Q : α → Shared → Prop} (h : Q a s) : wpC M A (pure a) Q E s := wpC_any (wpAny_pure h)
theorem wpC_mono {t : Sem α} {Q Q' : α → Shared → Prop} {E' : Value → Shared → Prop} (h : wpC M A t Q E s)
    (hQ : ∀ a s, Q a s → Q' a s) (hE : ∀ e s, E e s → E' e s) : wpC M A t Q' E' s :=
  fun Γ p hΓ c1 c2 => Sem.wp_mono M Γ t (fun a _ s => hQ a s) (fun e _ s => hE e s) p s (h Γ p hΓ c1 c2)
theorem wpC_bind {m : Sem α} {f : α → Sem β} {Q : β → Shared → Prop} (h : wpC M A m (fun a s' => wpC M A (f a) Q E s') E s) :
    wpC M A (m >>= f) Q E s := fun Γ p hΓ c1 c2 => by
  rw [Sem.wp_bind']
  exact Sem.wp_mono M Γ m (fun a p' s' h' => h' Γ p' hΓ c1 c2) (fun _ _ _ h' => h') p s (h Γ p hΓ c1 c2)
theorem wpC_bindA {m : Sem α} {f : α → Sem β} {Q : β → Shared → Prop} (h : wpAny M A m (fun a s' => wpC M A (f a) Q E s') E s) :
    wpC M A (m >>= f) Q E s := wpC_bind (wpC_any h)
theorem wpC_holding {vs : List Value} {m : Sem α} {Q : α → Shared → Prop} (h : wpC M A m Q E s) : wpC M A (holding vs m) Q E s :=
  fun Γ p hΓ c1 c2 => by rw [Sem.wp_holding]; exact h Γ p hΓ c1 c2
theorem codeC_mono {c : Code} {R R' : Result → Shared → Prop} (h : codeC M A c R s) (hR : ∀ r s, R r s → R' r s) : codeC M A c R' s :=
  fun Γ p hc hΓ c2 => wpCode_mono hR (h Γ p hc hΓ c2)
theorem clean_push {Γ : PySem.Ctx} {p : Pos} (c1 : cleanC Γ.code = true) (c2 : Clean Γ.below) : Clean ((Γ.code, p) :: Γ.below) := fun x hx => by
  rcases List.mem_cons.mp hx with rfl | hx
  · exact c1
  · exact c2 x hx
theorem wpC_runValue {c : Code} {Q : Value → Shared → Prop}
    (hc : codeC M A c (fun r s' => match r with | .ok (.ret v) => Q v s' | .ok _ => False | .error e => E e s') s) :
    wpC M A (runValue c) Q E s := fun Γ p hΓ c1 c2 => by rw [Sem.wp_runValue]; exact hc _ p rfl (hΓ.enter c none p (by intro x; cases x)) (clean_push c1 c2)
theorem wpC_call {f : Value} {pos : List Value} {kw : List (PySem.Str × Value)} {Q : Value → Shared → Prop}
    (hc : codeC M A (.call f ⟨pos, kw⟩) (fun r s' => match r with | .ok (.ret v) => Q v s' | .ok _ => False | .error e => E e s') s) :
    wpC M A (call f pos kw) Q E s := wpC_runValue hc
theorem codeC_of_tree {c : Code} {R : Result → Shared → Prop} (hcl : cleanC c = true)
    (h : wpC M (A.under c) (M.den c) (fun fin s' => match fin with | .done f => R (.ok f) s' | .again c' => c'.quiet = true ∧ codeC M A c' R s')
      (fun e s' => R (.error e) s') s) : codeC M A c R s := fun Γ p hc hΓ c2 => by
  rw [wpCode_iff_wp, hc]
  refine Sem.wp_mono M Γ _ (fun fin p' s' h' => ?_) (fun _ _ _ h' => h') p s (h Γ p (hc ▸ hΓ.in) (by rw [hc]; exact hcl) c2)
  cases fin with
  | done f => exact h'
  | again c' => exact ⟨h'.1, h'.2 (Γ.goto c') p' rfl (hΓ.goto c') c2⟩
theorem wpC_stackAny {f : Code × Pos → Bool} {Q : Bool → Shared → Prop} (hf : ∀ c p, cleanC c = true → f (c, p) = false) (h : Q false s) : wpC M A (do return (← stack).any f) Q E s := fun Γ p hΓ c1 c2 => by
  show Q (((Γ.code, p) :: Γ.below).any f) s
  rw [show ((Γ.code, p) :: Γ.below).any f = false from List.any_eq_false.mpr fun x hx => by
    rw [hf x.1 x.2 (clean_push (p := p) c1 c2 x hx)]; exact Bool.false_ne_true]
  exact h
theorem exported_clean {v : Value} {Q : Bool → Shared → Prop} (h : Q false s) : wpC M A (Builtin.Bytes.exported v) Q E s := by
  unfold Builtin.Bytes.exported
  refine wpC_stackAny (fun c p hc => ?_) h
  cases c with
  | builtin id args =>
    simp only [cleanC, Bool.and_eq_true, Bool.not_eq_true'] at hc
    obtain ⟨pos, kw⟩ := args
    have n : ∀ x, guardIds.contains x = true → ¬ id = x := fun x hx e => by rw [e, hx] at hc; exact Bool.noConfusion hc.2
    delta Builtin.Bytes.exported.match_1
    show (dite (id = "bytearray.__contains__") _ _ : Bool) = false
    refine Eq.trans (dif_neg (n "bytearray.__contains__" (by decide))) ?_
    refine Eq.trans (dif_neg (n "bytearray.__mod__" (by decide))) ?_
    refine Eq.trans (dif_neg (n "bytearray.__rmod__" (by decide))) ?_
    refine Eq.trans (dif_neg (n "_struct.pack_into.held" (by decide))) ?_
    refine Eq.trans (dif_neg (n "bytearray.find.held" (by decide))) ?_
    cases pos with
    | nil => exact rfl
    | cons v r => exact (congrArg (Builtin.Bytes.sameRef v _ && ·) hc.1).trans (Bool.and_false _)
  | _ => rfl
end
section
open PySem.Calls
theorem thread_ends_C {prog : Program} {w : PySem.World} {t : Sem PySem.Fin} {s : Shared} {R : Result → Shared → Prop} (hreg : s.asleep)
    (h : wpC (model prog w) callerA t (fun fin s' => ∃ f, fin = .done f ∧ (R (.ok f) s' ∧ leftWithCleanup s'.gens = false)) (fun e s' => R (.error e) s' ∧ leftWithCleanup s'.gens = false) s) :
    ∃ n r s' s'', runN (denote table) prog w n s ⟨t, .builtin "claim.caller" {}, default, []⟩ = .halted (outcomeOf r) s' ∧
      schedN (denote table) prog w n (.single s ⟨t, .builtin "claim.caller" {}, default, []⟩) = .halted (outcomeOf r) s' ∧ s'.forget = s''.forget ∧ R r s'' := by
  have h' : Sem.wp (model prog w) ⟨.builtin "claim.caller" {}, none, none, [], none⟩ t (Sem.finPost (model prog w) ⟨.builtin "claim.caller" {}, none, none, [], none⟩ fun r s' => R r s' ∧ leftWithCleanup s'.gens = false)
      (fun e _ s' => R (.error e) s' ∧ leftWithCleanup s'.gens = false) default s := by
    refine Sem.wp_mono _ _ t (fun fin p' s' h' => ?_) (fun _ _ _ h' => h') default s (h _ default caller_in (by kernel_rfl) fun x hx => nomatch hx)
    obtain ⟨f, rfl, hf⟩ := h'
    exact hf
  refine Classical.byContradiction fun nO => ?_
  obtain ⟨n, r, s₁, s₂, hs, hn, hfo, hR⟩ := wp_halts_full (M := model prog w) (R := R) hreg h'
  refine nO ?_
  exact ⟨n, r, s₂, s₁, hn, hs, hfo, hR⟩
theorem callFrom_C {c : ClaimW} {tree : List Value → Sem PySem.Fin} {w : PySem.World} {s : Shared} {free : Addr → Prop} {gens : Prop} {kept : Heap → Prop} (hz : s.asleep) (hgens : s.gens = #[])
    (hspec : ∀ args, c.pre args = true → WData.layableAll args = true →
      ∀ ord : List DictEntry → List DictEntry, (∀ l, (ord l).Perm l) →
      ∃ vs s₁, layAllW c.records (classAt s.heap) w.params ord args s = some (vs, s₁) ∧
        wpC (model c.prog w) callerA (tree vs) (fun fin s' => ∃ f, fin = .done f ∧ (c.Ends s args vs s₁ (.ok f) s' ∧ s'.os = s.os ∧ AllBare s'.gens ∧ kept s'.heap))
          (fun e s' => c.Ends s args vs s₁ (.error e) s' ∧ s'.os = s.os ∧ AllBare s'.gens ∧ kept s'.heap) s₁) :
    c.CallFrom (fun vs => ⟨tree vs, .builtin "claim.caller" {}, default, []⟩) w free gens kept s := by
  intro args hpre hlay ord hord
  refine Classical.byContradiction fun nO => ?_
  obtain ⟨vs, s₁, hlaid, hcode⟩ := hspec args hpre hlay ord hord
  refine nO ?_
  have hal := layAllW_rest _ _ _ hlaid
  refine Classical.byContradiction fun nO => ?_
  obtain ⟨k, r, s', s'', hrun, hsched, hfo, hcase, hos, hkp⟩ := thread_ends_C (prog := c.prog) (w := w) (t := tree vs) (s := s₁)
    (R := fun r s' => c.Ends s args vs s₁ r s' ∧ s'.os = s.os ∧ kept s'.heap)
    (Shared.asleep_of_life hal.2.2.2 hz)
    (wpC_mono hcode (by
      rintro fin s' ⟨f, e, h1, h2, h3, h4⟩
      exact ⟨f, e, ⟨h1, h2, h4⟩, leftWithCleanup_false_of_bare h3⟩) (by
      rintro e s' ⟨h1, h2, h3, h4⟩
      exact ⟨⟨h1, h2, h4⟩, leftWithCleanup_false_of_bare h3⟩))
  obtain ⟨eh, _, _, eo, _⟩ := Shared.forget_eq hfo
  have hcase := hcase.congr eh
  have hkp : kept s'.heap := by first | exact eh ▸ hkp | (rw [eh] at hkp; exact hkp) | (rw [← eh] at hkp; exact hkp)
  rw [← eo] at hos
  have hlife : s'.heap.life = s.heap.life := (runN_life _ _ _ hrun).trans hal.2.2.2
  refine nO ⟨vs, s₁, hlaid, k, _, s', hsched, ?_, (fun _ i x hx => by rw [hgens] at hx; simp at hx), hkp, by rw [hlife], Shared.rest_eq hos⟩
  clear nO
  exact hcase.imp (fun h => h.elim fun v h => ⟨v, congrArg outcomeOf h.1, h.2.1, h.2.2.1, h.2.2.2.1, fun b o y _ => h.2.2.2.2.1 b o y, h.2.2.2.2.2⟩) fun h => h.elim fun e h => h.elim fun ob h => h.elim fun cls h => ⟨e, ob, cls, congrArg outcomeOf h.1, h.2.1, h.2.2.1, h.2.2.2.1, h.2.2.2.2.1, fun b o y _ => h.2.2.2.2.2 b o y⟩
theorem open_any_C {r : RowW} {run : Value → List Value → Sem Value} {tree : List Value → Sem PySem.Fin} {q : Program} {loose defs kps : List PySem.Str} {writes : Bool} {Xt : Shared → Bool} {XP : (PySem.Str → Option Value) → Heap → Prop} {α : Type} {Yf : Shared → α} {Ya : PySem.World → α} {YP : PySem.World → Heap → Prop} {N : Nat}
    (left : LeftO r.prog q loose Xt Yf Ya N) (hY : ∀ w s, Yf s = Ya w → YP w s.heap) (hYk : ∀ w h h', YP w h → (∀ b o, h.get? b = some o → h'.get? b = some o) → YP w h') (hX : ∀ s, Xt s = true → XP (s.heap.nsMap mainGlobals) s.heap) (hXk : ∀ mg h h', XP mg h → (∀ b o, h.get? b = some o → h'.get? b = some o) → XP mg h')
    (hRf : ∀ s, Xt s = true → RecFacts r.records s.heap) (hwr : (!writes || r.records.isEmpty) = true) (ok : (chainsOk q && opensWell r.prog && (frees r && r.within.isEmpty)) = true) (hb : r.prog.bare) (hw : r.promised)
    (ht : ∀ vs (w : PySem.World) (s : Shared) mg f (Q : PySem.Fin → Shared → Prop) (E : Value → Shared → Prop), s.heap.Ns mainGlobals mg → mg r.name = some f → wpC (model r.prog w) callerA (run f vs) (fun v s' => Q (.done (.ret v)) s') E s → wpC (model r.prog w) callerA (tree vs) Q E s)
    (pin : ∀ w s, s.heap.isNs mainGlobals = true → Ground q loose [] XP w s (s.heap.nsMap mainGlobals) (s.heap.nsMap builtinsNs) s.heap → ∀ n ∈ defs, isTheDefsW r.prog s.heap n)
    (call : ∀ (w : PySem.World) (s₀ s₁ : Shared) (mg mb : PySem.Str → Option Value), Ground q loose r.records XP w s₀ mg mb s₁.heap → YP w s₁.heap → ∀ (args : List WData) (vs : List Value) (as : List Addr),
      r.claim.pre args = true → WData.layableAll args = true → Laid r.records w s₀ s₁ args vs as → sysModules < s₀.heap.objs.size → ∃ f, mg r.name = some f ∧
        wpC (model r.prog w) callerA (run f vs) (fun v s' => GoodWG r.claim (classAt s₀.heap) (ExcName.means s₀.heap) args s₁ (.ok (.ret v)) s')
          (fun e s' => GoodWG r.claim (classAt s₀.heap) (ExcName.means s₀.heap) args s₁ (.error e) s') s₁) : r.claim.HoldsOpenBy (fun vs => ⟨tree vs, .builtin "claim.caller" {}, default, []⟩) defs kps writes := by
  refine Classical.byContradiction fun nO => ?_
  obtain ⟨ok, k5⟩ := Bool.and_eq_true_iff.mp ok
  obtain ⟨hch, o1⟩ := Bool.and_eq_true_iff.mp ok
  obtain ⟨k5, k6⟩ := Bool.and_eq_true_iff.mp k5
  obtain ⟨hsame, hu, ha, hap, hm⟩ := frees_parts k5
  refine nO ?_
  refine ⟨⟨hb, o1, by show r.makers.map _ = []; rw [hm]; rfl⟩, hw.witness, fun w => ⟨(left.behind hX hch w).1, fun s' hs' => ?_⟩⟩
  refine Classical.byContradiction fun nO => ?_
  obtain ⟨s₀, hf, hg0, s, hT, hz, hgens, hg, G00, y⟩ := (left.behind (XP := fun mg h => XP mg h ∧ RecFacts r.records h) (fun s hs => ⟨hX s hs, hRf s hs⟩) hch w).2 s' hs'
  refine nO ?_
  have G0 : Ground q loose [] XP w s (s.heap.nsMap mainGlobals) (s.heap.nsMap builtinsNs) s.heap := ⟨G00.T, G00.B, G00.D, G00.TE, G00.TD, G00.W, G00.X.1, G00.cls, G00.has, G00.apart, G00.once, G00.K⟩
  have RF := G00.X.2
  have hT' := hT
  refine ⟨s₀, hf, hg0, s, hT, pin w s hg G0, RF.1, RF.2.1, ?_⟩
  have hgens : s.gens = #[] := Array.eq_empty_of_size_eq_zero (beq_iff_eq.mp hgens)
  have G : Ground q loose r.records XP w s _ _ s.heap := RF.ground G0
  refine callFrom_C (c := r.claim) hz hgens fun args hpre hlay ord hord => ?_
  refine Classical.byContradiction fun nO => ?_
  obtain ⟨⟨vs, s₁⟩, hlaid⟩ := Option.isSome_iff_exists.mp (layAllW_isSome (P := w.params) (ord := ord) G.has args r.args s (pre_splitW hpre).1)
  have keeps := layAllW_keeps _ _ _ hlaid
  have hal := layAllW_rest _ _ _ hlaid
  obtain ⟨as, hrd, hin, hold⟩ := reads_layAllW hord _ _ _ hlaid hlay s₁.heap (fun _ _ e => e)
  have L : Laid r.records w s s₁ args vs as := ⟨⟨ord, hord, hlaid⟩, hrd, hin, hold, keeps, hal.1.trans hgens, hal.2.2.1⟩
  have G₁ := G.keeps hXk keeps
  obtain ⟨f, hf, h⟩ := call w s s₁ _ _ G₁ (hYk _ _ _ (hY w s y) keeps) args vs as hpre hlay L G.low
  refine nO ?_
  have hi := ident_freeW hu ha hap
  have hwi : r.claim.within = [] := List.isEmpty_iff.mp k6
  exact ⟨vs, s₁, hlaid, ht vs w s₁ _ f _ _ G₁.T.g hf (wpC_mono h (fun v s' g => ⟨_, rfl, have z := g.laid (c := r.claim) hsame hwi hi L; ⟨z.1, z.2.1, z.2.2, fun q => ⟨namesKept_of hT' hg kps keeps g.2.1.old, noTable hwr q⟩⟩⟩) fun e s' g => have z := g.laid (c := r.claim) hsame hwi hi L; ⟨z.1, z.2.1, z.2.2, fun q => ⟨namesKept_of hT' hg kps keeps g.2.1.old, noTable hwr q⟩⟩)⟩
noncomputable abbrev WalkC (q : Program) (loose : List PySem.Str) (XP : (PySem.Str → Option Value) → Heap → Prop) (YP : PySem.World → Heap → Prop) (r : RowW) (d : DefRec) (kwd : List (PySem.Str × PySem.Expr)) : Prop :=
  ∀ (w : PySem.World) (s₀ s₁ : Shared) (mg mb : PySem.Str → Option Value), Ground q loose r.records XP w s₀ mg mb s₁.heap → YP w s₁.heap → ∀ (a : Addr) (o : Obj) (pm cd doc dV kV : Value), s₁.heap.get? a = some o →
    o.data = .func { docDef d.name d.params d.body d.scope pm cd doc with defaults := dV, kwdefaults := kV } → s₁.heap.CodeRec cd d.name → Dflts mg s₁.heap d.params kwd dV kV → mg d.name = some (.ref a) → s₁.gens = #[] →
    ∀ (args : List WData) (vals : List Value) (as : List Addr), r.claim.pre args = true → WData.layableAll args = true → ReadsAllW r.records (classAt s₀.heap) s₁.heap vals args as → WellAll w.params s₁.heap vals args → (∀ a ∈ as, (a == sysModules) = false) →
      wpC (model r.prog w) callerA (PySem.call (.ref a) vals) (fun v s' => GoodWG r.claim (classAt s₀.heap) (ExcName.means s₀.heap) args s₁ (.ok (.ret v)) s')
        (fun e s' => GoodWG r.claim (classAt s₀.heap) (ExcName.means s₀.heap) args s₁ (.error e) s') s₁
theorem PySem.W.holds_open {r : OpenRow} {q : Program} {loose : List PySem.Str} {Xt : Shared → Bool} {XP : (PySem.Str → Option Value) → Heap → Prop} {α : Type} {Yf : Shared → α} {Ya : PySem.World → α} {YP : PySem.World → Heap → Prop} {d : DefRec} {kwd : List (PySem.Str × PySem.Expr)} {N : Nat}
    (left : LeftO r.prog q loose Xt Yf Ya N) (hY : ∀ w s, Yf s = Ya w → YP w s.heap) (hYk : ∀ w h h', YP w h → (∀ b o, h.get? b = some o → h'.get? b = some o) → YP w h')
    (hX : ∀ s, Xt s = true → XP (s.heap.nsMap mainGlobals) s.heap) (hXk : ∀ mg h h', XP mg h → (∀ b o, h.get? b = some o → h'.get? b = some o) → XP mg h')
    (hdef : defOf q r.name = some (d, kwd)) (hp : r.prog.theDef r.name = some (d.params, d.body, d.scope)) (hk : kwWritten? d.params.kwonlyargs d.params.kw_defaults = some kwd) (hRf : ∀ s, Xt s = true → RecFacts r.records s.heap) (hwr : (!r.writes || r.records.isEmpty) = true)
    (k1 : r.wellSaid = true) (ok : (chainsOk q && opensWell r.prog && (frees r.toRowW && r.within.isEmpty)) = true) (hb : r.prog.bare) (hw : r.toRowW.promised)
    (call : WalkC q loose XP YP r.toRowW d kwd) : r.Holds := by
  refine ⟨k1, hw, open_any_C (r := r.toRowW) (run := fun f vs => _root_.PySem.call f vs) (tree := fun vs => do match ← nsGet mainNs r.name with
      | some f => do ret (← _root_.PySem.call f vs)
      | none => unsupported "claim.caller:no-such-global") left hY hYk hX hXk hRf hwr ok hb hw
    (fun vs w s mg f Q E hg hf h => wpC_bindA (wpAny_nsGet hg (by rw [hf]; exact wpC_bind (wpC_mono h (fun _ _ x => wpC_pure x) fun _ _ x => x))))
    (fun w s hg G n hn => ?_) fun w s₀ s₁ mg mb G Y args vs as hpre hlay L low => ?_⟩
  · obtain rfl : n = r.name := by split at hn <;> simp_all
    exact pinned_of_view hg G hdef hp hk
  · obtain ⟨a, o, pm, cd, doc, dV, kV, h1, h2, h3, h4, h5⟩ := G.fn hdef
    exact ⟨.ref a, h1, call w s₀ s₁ mg mb G Y a o pm cd doc dV kV h2 h3 h4 h5 (defOf_name hdef ▸ h1) L.gens args vs as hpre hlay L.reads L.well (L.low low)⟩
end

set_option genInjectivity false
set_option genSizeOf false
theorem wp_le {α : Type} {M : Model} {A B : Around} {t : Sem α} {Q : α → Shared → Prop} {E : Value → Shared → Prop} {s : Shared} (h : wpAny M B t Q E s)
    (h1 : A.handled = B.handled) (h2 : A.depth ≤ B.depth) (h3 : A.frames = B.frames) (h4 : A.guards = B.guards) (h5 : A.units ≤ B.units) : wpAny M A t Q E s :=
  fun Γ p hΓ => h Γ p ⟨hΓ.1.trans h1, Nat.le_trans hΓ.2.1 h2, fun l hl => hΓ.2.2.1 l (h3.trans hl), fun g hg => hΓ.2.2.2.1 g (h4.trans hg), Nat.le_trans hΓ.2.2.2.2 h5⟩


section
variable {prog : Program} {w : PySem.World} {A : Around} {E : Value → Shared → Prop} {s : Shared} {h₀ : Heap} {L D : Addr} {m : PySem.Str → Option Value} {news news' : List (Addr × Obj)} {vs : List Value} {n : Nat} {k : Int} {t u : Tok} {v : Value}
theorem ll_set {Q : Unit → Shared → Prop} (F : Fr h₀ L s.heap m) (N : News h₀ L s.heap news) (U : Upd D (listOf vs.toArray n) (listOf (vs.set k.toNat v).toArray n) news news') (h0 : 0 ≤ k) (h1 : Nat.blt k.toNat vs.length = true) (hfit : k < 2 ^ 63)
    (h : ∀ h', Fr h₀ L h' m → News h₀ L h' news' → Q () { s with heap := h' }) :
    wpAny (model prog w) A (setItem (.ref D) (.int k t) v) Q E s := by
  refine Classical.byContradiction fun nO => ?_
  obtain ⟨pre, post, rfl, rfl, a, b⟩ := U.split
  refine nO ?_
  have z := N (D, listOf vs.toArray n) (List.mem_append.mpr (.inr (.head _)))
  have h1' : k.toNat < vs.length := Nat.le_of_ble_eq_true h1
  refine ki_setAt z.1 h0 hfit (by rw [List.size_toArray]; (first | lia | omega)) (h _ (F.change (Heap.SameBut.update ..) z.2.1 z.2.2) (ki_turn _ N a b ?_ ?_))
  · show vs.toArray.setIfInBounds k.toNat v = (vs.set k.toNat v).toArray
    apply Array.toList_inj.mp
    simp
  · simp
theorem ll_sub {value slice : PySem.Expr} {Q : Value → Shared → Prop} (N : News h₀ L s.heap news) (hm : (D, listOf vs.toArray n) ∈ news) (h0 : 0 ≤ k) (hfit : k < 2 ^ 63) (hx : vs[k.toNat]? = some v) (h : Q v s)
    (hs : subscripted slice false (.ref D) (.int k u) = operate [.ref D, .int k u] (getItem (.ref D) (.int k u))) :
    wpAny (model prog w) A (subscriptTail value slice (.ref D) (.int k u)) Q E s :=
  have hl : s.heap.IsList D vs.toArray := PySem.IsL.isList (n := n) (N _ hm).1
  tail_any hl.typeIs slot_list_getitem.lookup (wpAny_getItem_list hl h0 hfit (by simpa using hx) h) hs
end
theorem nw_tail {h₀ h : Heap} {L : Addr} {p : Addr × Obj} {news : List (Addr × Obj)} (N : News h₀ L h (p :: news)) : News h₀ L h news := fun q hq => N q (.tail _ hq)

section
variable {prog : Program} {w : PySem.World} {A : Around} {R : Result → Shared → Prop} {E : Value → Shared → Prop} {h : Heap} {g : Array GenState} {d : Drawn} {t : Nat} {os : OsState}
variable {nm q : PySem.Str} {C N : Addr} {bs bm : List Value} {hdct : Bool} {sn : List PySem.Str} {sub : List Value} {ab : Bool} {col : Option Bool} {dd : Option Addr} {k0 k1 k2 k3 k5 : Option Value}

theorem yES_if {M : Model} {α : Type} {c : Bool} {a b : Sem α} {Q : α → Shared → Prop} {s : Shared} (h : c = true) (k : wpAny M A a Q E s) : wpAny M A (if c = true then a else b) Q E s := by rw [h]; exact k
theorem nO_if {M : Model} {α : Type} {c : Bool} {a b : Sem α} {Q : α → Shared → Prop} {s : Shared} (h : c = false) (k : wpAny M A b Q E s) : wpAny M A (if c = true then a else b) Q E s := by rw [h]; exact k
theorem exc_check {M : Model} (hcB : (Value.ref C :: bm).contains (.type "Exception") = true) {rest : List Value} {Q : Unit → Shared → Prop} (hC : h.get? C = some (excClassObj nm q C N bs bm hdct sn sub ab col dd k0 k1 k2 k3 k5 "Exception.__new__"))
    (hq : Q () ⟨h, g, d, t, os⟩) : wpAny M A (checkBuiltinCall "Exception.__new__" ⟨.ref C :: rest, []⟩) Q E ⟨h, g, d, t, os⟩ := by
  have Fn := PySem.F.excBase_Exception
  have hstar := Fn.noStar
  unfold checkBuiltinCall
  rw [Fn.newKind]
  dsimp only
  rw [Fn.newRow]
  dsimp only
  rw [Fn.newSplit]
  dsimp only
  repeat (first | ((with_reducible refine' nO_if ?hc ?_); (case hc => exact rfl)) | ((with_reducible refine' yES_if ?hc ?_); (case hc => exact rfl)) | with_reducible refine wpAny_loadPart_at hC ?_ | (with_reducible refine wpAny_isSubtype_exc hC ?_; rw [hcB]) | with_reducible refine wpAny_staticBase_exc hC ?_ | with_reducible refine wpAny_madeBy_exc hC ?_ | wp_step)
  exact hq
theorem exc_new (hcB : (Value.ref C :: bm).contains (.type "Exception") = true) (hcA : (Value.ref C :: bm).contains (.type "AttributeError") = false) (hcN : (Value.ref C :: bm).contains (.type "NameError") = false) {rest : List Value}
    (hC : h.get? C = some (excClassObj nm q C N bs bm hdct sn sub ab col dd k0 k1 k2 k3 k5 "Exception.__new__"))
    (hq : R (.ok (.ret (.ref (h.objs.size + 1)))) ⟨(h.push { cls := .type "tuple", data := .seq rest.toArray }).push
      { cls := .ref C, data := .fields #[.ref h.objs.size, .none, .none, .none, .bool false, .none] }, g, d, t, os⟩) (hrest : rest.length ≤ sizeLine) :
    codeAny (model prog w) A (.builtin "Exception.__new__" ⟨.ref C :: rest, []⟩) R ⟨h, g, d, t, os⟩ := by
  have Fn := PySem.F.excBase_Exception
  have hends := Fn.ends
  refine codeAny_builtinAt Fn.entry ?_
  unfold Builtin.«BaseException.__new__»
  refine PySem.wpAt_bind ?_
  show PySem.wpAt _ _ _ (stack >>= _) _ _ _
  refine PySem.wpAt_bind (PySem.wpAt_stack fun p below => PySem.wpAt_of_wpAny ?_)
  wp_walk
  refine PySem.wpAt_of_wpAny ?_
  rw [Fn.owner]
  repeat (first | with_reducible refine wpAny_madeHere_exc Fn.canon hC ?_ | with_reducible refine wpAny_loadPart_at hC ?_ | (with_reducible refine wpAny_isSubtype_exc hC ?_; first | rw [hcB] | rw [hcA] | rw [hcN]) | wp_step)
  show R _ _
  rw [Heap.size_push]
  exact hq
noncomputable abbrev exc0 (C t : Addr) : Obj := { cls := .ref C, data := .fields #[.ref t, .none, .none, .none, .bool false, .none] }
noncomputable abbrev tupObj (vs : List Value) : Obj := { cls := .type "tuple", data := .seq vs.toArray }
theorem exc_type_call {K : Frag} {rest : List Value} {fI : Addr} {Q : Fin → Shared → Prop} (X : K.In h)
    (hcB : (Value.ref C :: bm).contains (.type "Exception") = true) (hcA : (Value.ref C :: bm).contains (.type "AttributeError") = false) (hcN : (Value.ref C :: bm).contains (.type "NameError") = false)
    (hC : h.get? C = some (excClassObj nm q C N bs bm hdct sn sub false col dd k0 k1 k2 k3 k5 "Exception.__new__"))
    (hi : findIn K (.ref C) "__init__" = some (some (.ref fI))) (hf : typeIn K (.ref fI) = some (.type "function"))
    (hq : wpAny (model prog w) A (call (.ref fI) (.ref (h.objs.size + 1) :: rest)) (fun r s' => r = .none ∧ Q (.done (.ret (.ref (h.objs.size + 1)))) s') E ⟨(h.push (tupObj rest)).push (exc0 C h.objs.size), g, d, t, os⟩) (hrest : rest.length ≤ sizeLine) :
    wpAny (model prog w) A (Builtin.«type.__call__» ⟨.ref C :: rest, []⟩) Q E ⟨h, g, d, t, os⟩ := by
  repeat (first | with_reducible refine wpAny_loadPart_at hC ?_ | with_reducible refine wpAny_madeBy_exc hC ?_ | wp_step)
  refine codeAny_call_builtin_code (Code.quiet_builtin _ PySem.F.excBase_Exception.quiet) (exc_check hcB hC ?_)
  refine exc_new hcB hcA hcN hC ?_ hrest
  show wpAny _ _ _ _ _ _
  have k : ∀ b o, h.get? b = some o → ((h.push (tupObj rest)).push (exc0 C h.objs.size)).get? b = some o := fun b o e => Heap.get?_push_of_some _ (Heap.get?_push_of_some _ e)
  have hC₁ := k _ _ hC
  have hget : ((h.push (tupObj rest)).push (exc0 C h.objs.size)).get? (h.objs.size + 1) = some (exc0 C h.objs.size) := by heap_get
  have hcC : (Value.ref C :: bm).contains (.ref C) = true := by simp
  unfold isInstance
  repeat (first | with_reducible refine wpAny_loadPart_at hget ?_ | (with_reducible refine wpAny_isSubtype_exc hC₁ ?_; rw [hcC]) | wp_step)
  refine (looks_findIn (X.keeps k) hi).at ?_
  refine wpAny_holding (wpAny_bind ((bind_fn (X.keeps k) _ hf).at ?_))
  refine wpAny_bind (wpAny_mono hq (fun r s' hr => ?_) fun _ _ x => x)
  obtain ⟨rfl, hQ⟩ := hr
  wp_walk
  exact hQ
end
section
variable {prog : Program} {w : PySem.World} {A : Around} {K : Frag} {C L : Addr} {s : Shared} {h₀ : Heap} {m : PySem.Str → Option Value} {news : List (Addr × Obj)} {R : Result → Shared → Prop} {Q : Value → Shared → Prop} {E : Value → Shared → Prop}
variable {nm q : PySem.Str} {N : Addr} {bs bm : List Value} {hdct : Bool} {sn : List PySem.Str} {sub : List Value} {col : Option Bool} {dd : Option Addr} {k0 k1 k2 k3 k5 : Option Value}
theorem exc_call {h : Heap} {g : Array GenState} {d : Drawn} {t : Nat} {os : OsState} {rest : List Value} {fI : Addr} (X : K.In h)
    (hC : K.lookup C = some (excClassObj nm q C N bs bm hdct sn sub false col dd k0 k1 k2 k3 k5 "Exception.__new__"))
    (hcB : (Value.ref C :: bm).contains (.type "Exception") = true) (hcA : (Value.ref C :: bm).contains (.type "AttributeError") = false) (hcN : (Value.ref C :: bm).contains (.type "NameError") = false)
    (hcall : specialIn K (.ref C) "__call__" = some (some (.builtin "type.__call__"))) (htyp : instIn K (.ref C) (.type "type") = some true)
    (hi : findIn K (.ref C) "__init__" = some (some (.ref fI))) (hf : typeIn K (.ref fI) = some (.type "function")) (hrest : rest.length ≤ sizeLine)
    (hq : codeAny (model prog w) (A.under (.builtin "type.__call__" ⟨.ref C :: rest, []⟩)) (.call (.ref fI) ⟨.ref (h.objs.size + 1) :: rest, []⟩) (InitBack (h.objs.size + 1) R) ⟨(h.push (tupObj rest)).push (exc0 C h.objs.size), g, d, t, os⟩) :
    codeAny (model prog w) A (.call (.ref C) ⟨rest, []⟩) R ⟨h, g, d, t, os⟩ := by
  have hC' := X _ _ hC
  have call := looks_specialIn (M := model prog w) X hcall
  have typ := looks_instIn (M := model prog w) X htyp
  refine codeAny_of_tree ?_
  show wpAny _ _ (callAny (.ref C) _) _ _ _
  refine nd_load hC' ?_
  show wpAny _ _ (callAny.viaDunder (.ref C) _) _ _ _
  unfold callAny.viaDunder
  refine wpAny_bind (call.at ?_)
  dsimp only
  rw [tc_bind]
  refine wpAny_bind (wpAny_pure (wpAny_bind (wpAny_pure ?_)))
  refine wpAny_pure (a := Fin.again (.call (.builtin "type.__call__") ⟨.ref C :: rest, []⟩)) (And.intro rfl ?_)
  refine codeAny_call_builtin_at (Code.quiet_builtin _ (by decide +kernel)) entry_typeCall (check_slot tc_kind tc_split typ (tc_args _ _ _) ?_)
  refine exc_type_call X hcB hcA hcN hC' hi hf (wpAny_call (codeAny_mono hq fun r s' z => ?_)) hrest
  rcases r with e | (v | _ | _ | _) <;> first | exact z | exact z.elim
theorem call_exc {rest : List Value} {fI : Addr} (F : Fr h₀ L s.heap m) (X₀ : K.In h₀) (N' : News h₀ L s.heap news)
    (hC : K.lookup C = some (excClassObj nm q C N bs bm hdct sn sub false col dd k0 k1 k2 k3 k5 "Exception.__new__"))
    (hcB : (Value.ref C :: bm).contains (.type "Exception") = true) (hcA : (Value.ref C :: bm).contains (.type "AttributeError") = false) (hcN : (Value.ref C :: bm).contains (.type "NameError") = false)
    (hcall : specialIn K (.ref C) "__call__" = some (some (.builtin "type.__call__"))) (htyp : instIn K (.ref C) (.type "type") = some true)
    (hi : findIn K (.ref C) "__init__" = some (some (.ref fI))) (hf : typeIn K (.ref fI) = some (.type "function")) (hrest : rest.length ≤ sizeLine)
    (h : ∀ e t h', Fr h₀ L h' m → News h₀ L h' ((e, exc0 C t) :: (t, tupObj rest) :: news) → (∀ p ∈ news, p.1 < t) → t < e →
      codeAny (model prog w) (A.under (.builtin "type.__call__" ⟨.ref C :: rest, []⟩)) (.call (.ref fI) ⟨.ref e :: rest, []⟩) (InitBack e fun r s' => match r with | .ok (.ret v) => Q v s' | .ok _ => False | .error e => E e s') { s with heap := h' }) :
    wpAny (model prog w) A (call (.ref C) rest []) Q E s := by
  refine Classical.byContradiction fun nO => ?_
  obtain ⟨hh, g, d, t, os⟩ := s
  refine nO ?_
  refine wpAny_call (exc_call (X₀.keeps F.keep) hC hcB hcA hcN hcall htyp hi hf hrest (h _ hh.objs.size _ ((F.push _).push _) ?_ (fun p hp => Heap.lt_size (N' p hp).1) (Nat.lt_succ_self _)))
  have := (N'.push F (tupObj rest)).push (F.push _) (exc0 C hh.objs.size)
  rwa [Heap.size_push] at this
end
noncomputable abbrev excD (C t dx : Addr) : Obj := { cls := .ref C, dict := some dx, data := .fields #[.ref t, .none, .none, .none, .bool false, .none] }
section
open Builtin Builtin.ObjectAttr
variable {prog : Program} {w : PySem.World} {A : Around} {K : Frag} {C D L e dx t : Addr} {s : Shared} {h₀ : Heap} {m : PySem.Str → Option Value} {nw : List (Addr × Obj)} {E : Value → Shared → Prop} {name : PySem.Str} {v : Value} {tk : Tok} {cd : ClassData}
theorem exc_mro_base {l : List Value} (X : K.In s.heap) (hc : clsIn K C = some cd) (hm : cd.mro = l) : Looks (model prog w) s.heap (mroOf (.ref C)) l := hm ▸ (looks_clsIn X hc).andThen .now
theorem esa_open {oe : Obj} {R : Result → Shared → Prop} (X : K.In s.heap) (hx : s.heap.get? e = some oe) (hcl : oe.cls = .ref C) (hc : clsIn K C = some cd) (hm : cd.mro = [.ref C, .ref D, .type "Exception", .type "BaseException", .type "object"]) (ht : takerIn K C name = some none)
    (h : ∀ b, wpAny (model prog w) A.in1 (storeInOwnDict (.ref e) (.ref C) (.str name tk) name v b)
      (fun fin s' => match fin with | .done f => R (.ok f) s' | .again c' => c'.quiet = true ∧ codeAny (model prog w) A c' R s') (fun x s' => R (.error x) s') s) :
    codeAny (model prog w) A (.call (.builtin "object.__setattr__") ⟨[.ref e, .str name tk, v], []⟩) R s := by
  have SF := PySem.F.store_object
  have ty : Looks (model prog w) s.heap (typeOf (.ref e)) (.ref C) := hcl ▸ (Looks.ld hx).andThen .now
  have sub : Looks (model prog w) s.heap (isInstance (.ref e) (.type "object")) true := ty.andThen (looks_mroIn X (by unfold mroIn; rw [hc, Option.bind_some, hm]; rfl))
  refine codeAny_call_builtin SF.slot.plain SF.entry (@check_slot (model prog w) _ _ s "object.__setattr__" "object" "__setattr__" (.ref e) [.str name tk, v] [] _ SF.kind SF.split sub (SF.args (.ref e) (.str name tk) v) ?_)
  obtain ⟨attr, ha, hr⟩ := Option.bind_eq_some_iff.mp ht
  have L3 : Looks (model prog w) s.heap (storeTaker? attr) none := by
    cases attr with
    | none => exact .now
    | some a =>
      obtain ⟨b, hb, hb2⟩ := Option.map_eq_some_iff.mp hr
      refine (looks_takesIn X hb).andThen ?_
      cases b <;> first | exact .now | cases hb2
  rw [osa_eq, refuse_eq]
  refine wpAny_bind (wpAny_bind (ty.here (wpAny_bind ((exc_mro_base X hc hm).here ?_))))
  rw [refuseLoop_ref, refuseLoop_ref, PySem.F.store_Exception.passes]
  exact wpAny_pure (wpAny_bind (ty.here (wpAny_bind ((looks_findIn X ha).here (wpAny_bind (L3.here (h _)))))))
theorem exc_set {oe : Obj} {Q : Unit → Shared → Prop} (X : K.In s.heap) (hx : s.heap.get? e = some oe) (hcl : oe.cls = .ref C)
    (hs : findIn K (.ref C) "__setattr__" = some (some (.builtin "object.__setattr__")))
    (h : codeAny (model prog w) A (.call (.builtin "object.__setattr__") ⟨[.ref e, .str name s.toks, v], []⟩) (fun r s' => match r with | .ok (.ret _) => Q () s' | .ok _ => False | .error e => E e s') { s with toks := s.toks + 1 }) :
    wpAny (model prog w) A (setAttr (.ref e) name v) Q E s := by
  have ty : Looks (model prog w) s.heap (typeOf (.ref e)) (.ref C) := hcl ▸ (Looks.ld hx).andThen .now
  refine wpAny_bind (wpAny_mkText (wpAny_bind (wpAny_bind (wpAny_bind (ty _ _ _ _ (fun _ _ e => e) (looks_findIn X hs _ _ _ _ (fun _ _ e => e) (wpAny_holding ?_)))))))
  rw [PySem.F.store_object.slot.bind]
  refine wpAny_bind (wpAny_pure (wpAny_bind (wpAny_call (codeAny_mono h fun r s' z => ?_))))
  rcases r with e | (v | _ | _ | _) <;> first | exact z | exact wpAny_pure (wpAny_pure z)
theorem exc_putDict {es : List DictEntry} {n : Nat} {Q : PySem.Fin → Shared → Prop} (F : Fr h₀ L s.heap m) {pre : List (Addr × Obj)} (N : News h₀ L s.heap (pre ++ (dx, dictOf es n) :: nw)) (hl : (getL name es).isSome = true) (hz : (putL name (PyData.keyHash w.params name) (.str name s.toks) v es).length ≤ 1000)
    (h1 : ∀ p ∈ pre, p.1 ≠ dx) (h2 : ∀ p ∈ nw, p.1 ≠ dx)
    (h : ∀ h', Fr h₀ L h' m → News h₀ L h' (pre ++ (dx, dictOf (putL name (PyData.keyHash w.params name) (.str name s.toks) v es) (putN name es n)) :: nw) → Q (.done (.ret .none)) { s with heap := h', toks := s.toks + 1 }) :
    wpAny (model prog w) A (storeInDict dx (.str name tk) name v) Q E s := by
  obtain ⟨U1, U2⟩ := news_upd (f := Obj.putName name (PyData.keyHash w.params name) (.str name s.toks) v) F N h1 h2 (putName_dict name _ _ v es n) rfl
  have DD := (N (dx, dictOf es n) (by simp)).1
  have D' := (U2 (dx, dictOf (putL name (PyData.keyHash w.params name) (.str name s.toks) v es) (putN name es n)) (by simp)).1
  refine wpAny_bind (wpAny_pure (wpAny_bind ?_))
  unfold nsSet
  refine wpAny_bind (wpAny_bind (wpAny_askSetting (wpAny_pure (wpAny_bind (wpAny_mkText (wpAny_bind (wpAny_loadPart DD ?_)))))))
  dsimp only
  have c : (!es.any (·.key.isStr name) && es.any (·.refKey)) = false := by
    unfold getL at hl
    split at hl
    · rename_i en he
      rw [List.any_eq_true.mpr ⟨en, List.mem_of_find?_eq_some he, List.find?_some he⟩]; rfl
    · split at hl
      · cases hl
      · rename_i z; rw [Bool.not_eq_true] at z; rw [z, Bool.and_false]
  rw [aRefKeyMayBeTheName_at, List.any_toArray, List.any_toArray, c]
  refine wpAny_updatePart DD ?_
  refine wpAny_bind (wpAny_lookBehind D' (pastItsLine_dict (by rw [List.size_toArray, sizeLine_eq]; (first | lia | omega))) ?_)
  exact wpAny_pure (h _ U1 U2)
end
theorem meta_Exception : typeOf (.type "Exception") = pure (.type "type") := by kernel_rfl
section
open Builtin Builtin.ObjectAttr
variable {prog : Program} {w : PySem.World} {A : Around} {K : Frag} {C D L e dx t : Addr} {s : Shared} {h₀ : Heap} {m : PySem.Str → Option Value} {nw : List (Addr × Obj)} {E : Value → Shared → Prop} {name : PySem.Str} {v : Value} {cd : ClassData}
theorem exc_check_init {nm q : PySem.Str} {N' : Addr} {bs bm : List Value} {hdct : Bool} {sn : List PySem.Str} {sub : List Value} {ab : Bool} {col : Option Bool} {dd : Option Addr} {k0 k1 k2 k3 k5 : Option Value} {newId : String} {h : Heap} {g : Array GenState} {dr : Drawn} {tk : Nat} {os : OsState}
    (hcB : (Value.ref C :: bm).contains (.type "Exception") = true) {M : Model} {oe : Obj} {rest : List Value} {Q : Unit → Shared → Prop}
    (hC : h.get? C = some (excClassObj nm q C N' bs bm hdct sn sub ab col dd k0 k1 k2 k3 k5 newId)) (he : h.get? e = some oe) (hcls : oe.cls = .ref C) (hq : Q () ⟨h, g, dr, tk, os⟩) :
    wpAny M A (checkBuiltinCall "Exception.__init__" ⟨.ref e :: rest, []⟩) Q E ⟨h, g, dr, tk, os⟩ := by
  have F := PySem.F.excBase_Exception
  have hshort := F.noStar
  simp only [checkBuiltinCall, F.initKind, F.initSplit, F.initRow]
  repeat (first | (with_reducible refine wpAny_loadPart_at he ?_; rw [hcls]) | with_reducible refine wpAny_loadPart_at hC ?_ | (with_reducible refine wpAny_isSubtype_exc hC ?_; rw [hcB]) | wp_step)
  refine wpAny_onRaise ?_
  rw [show ∀ (a b : String) (n : Nat), Bind.check ⟨.positional, "*", "Exception", .self, [⟨"args", .varPos, false⟩]⟩ a b n (List.map (fun x => x.fst) ({ pos := Value.ref e :: rest } : Args).kw) = pure () from
    fun a b n => check_star_args _ _ _ _ _ _]
  exact wpAny_pure hq
theorem exc_init {nm q : PySem.Str} {N' : Addr} {bs bm : List Value} {hdct : Bool} {sn : List PySem.Str} {sub : List Value} {ab : Bool} {col : Option Bool} {dd : Option Addr} {k0 k1 k2 k3 k5 : Option Value} {newId : String}
    {Q : Value → Shared → Prop} (F : Fr h₀ L s.heap m) (X₀ : K.In h₀) (N : News h₀ L s.heap ((e, exc0 C t) :: nw)) (hne : ∀ p ∈ nw, p.1 ≠ e) (hC : K.lookup C = some (excClassObj nm q C N' bs bm hdct sn sub ab col dd k0 k1 k2 k3 k5 newId)) (hcB : (Value.ref C :: bm).contains (.type "Exception") = true)
    (h : ∀ t2 h', Fr h₀ L h' m → News h₀ L h' ((e, exc0 C t2) :: (t2, tupObj [v]) :: nw) → (∀ p ∈ nw, p.1 < t2) → e < t2 → Q .none { s with heap := h' }) :
    wpAny (model prog w) A (call (.builtin "Exception.__init__") [.ref e, v]) Q E s := by
  have F0 := PySem.F.excBase_Exception
  have hC' := (X₀.keeps F.keep) _ _ hC
  have hx := (N _ (.head _)).1
  refine Classical.byContradiction fun nO => ?_
  obtain ⟨hh, g, dd, tk, os⟩ := s
  refine nO ?_
  dsimp only at hC' hx
  refine wpAny_call (codeAny_call_builtin F0.init.plain F0.initEntry (exc_check_init hcB hC' hx rfl ?_))
  have hlt : e < hh.objs.size := Heap.lt_size hx
  have N1 : News h₀ L (hh.push (tupObj [v])) ((hh.objs.size, tupObj [v]) :: (e, exc0 C t) :: nw) := N.push F (tupObj [v])
  have N2 : News h₀ L (hh.push (tupObj [v])) ([(hh.objs.size, tupObj [v])] ++ (e, exc0 C t) :: nw) := N1
  obtain ⟨U1, U2⟩ := news_upd (f := Obj.mapFields (·.setIfInBounds 0 (Value.ref hh.objs.size))) (o' := exc0 C hh.objs.size) (F.push (tupObj [v])) N2 (fun p hp => by cases hp with | head => exact Nat.ne_of_gt hlt | tail _ z => cases z) hne rfl rfl
  have q := h _ _ U1 (fun p hp => by
    rcases List.mem_cons.mp hp with rfl | hp
    · exact U2 _ (.tail _ (.head _))
    · rcases List.mem_cons.mp hp with rfl | hp
      · exact U2 _ (.head _)
      · exact U2 _ (.tail _ (.tail _ hp))) (fun p hp => Heap.lt_size (N p (.tail _ hp)).1) hlt
  wp_walk
  exact q
theorem exc_setFirst {Q : Unit → Shared → Prop} (F : Fr h₀ L s.heap m) (X₀ : K.In h₀) (N : News h₀ L s.heap ((e, exc0 C t) :: nw)) (hne : ∀ p ∈ nw, p.1 ≠ e)
    (hs : findIn K (.ref C) "__setattr__" = some (some (.builtin "object.__setattr__"))) (hc : clsIn K C = some cd) (hhd : cd.hasDict = true) (hm : cd.mro = [.ref C, .ref D, .type "Exception", .type "BaseException", .type "object"]) (ht : takerIn K C name = some none)
    (h : ∀ dx h', Fr h₀ L h' m → News h₀ L h' ((e, excD C t dx) :: (dx, dictOf [⟨PyData.keyHash w.params name, .str name (s.toks + 1), v⟩] 1) :: nw) → (∀ p ∈ nw, p.1 < dx) → e < dx → Q () { s with heap := h', toks := s.toks + 1 + 1 }) :
    wpAny (model prog w) A (setAttr (.ref e) name v) Q E s := by
  have X := X₀.keeps F.keep
  have hx := (N _ (.head _)).1
  refine Classical.byContradiction fun nO => ?_
  obtain ⟨hh, g, dd, tk, os⟩ := s
  refine nO ?_
  dsimp only at X hx
  refine exc_set X hx rfl hs (esa_open X hx rfl hc hm ht fun b => ?_)
  refine wpAny_bind (wpAny_pure (wpAny_bind (wpAny_bind (wpAny_loadPart hx (wpAny_bind ((looks_clsIn X hc).here ?_))))))
  rw [hhd]
  have hlt : e < hh.objs.size := Heap.lt_size hx
  have N1 : News h₀ L (hh.push emptyDict) ((hh.objs.size, emptyDict) :: (e, exc0 C t) :: nw) := N.push F emptyDict
  have N2 : News h₀ L (hh.push emptyDict) ([(hh.objs.size, emptyDict)] ++ (e, exc0 C t) :: nw) := N1
  obtain ⟨U1, U2⟩ := news_upd (f := fun o => { o with dict := some hh.objs.size }) (o' := excD C t hh.objs.size) (F.push emptyDict) N2 (fun p hp => by cases hp with | head => exact Nat.ne_of_gt hlt | tail _ z => cases z) hne rfl rfl
  have hx1 : (hh.push emptyDict).get? e = some (exc0 C t) := (N1 _ (.tail _ (.head _))).1
  have N3 : News h₀ L ((hh.push emptyDict).update e fun o => { o with dict := some hh.objs.size }) ([(e, excD C t hh.objs.size)] ++ (hh.objs.size, dictOf [] 0) :: nw) := fun p hp => by
    rcases List.mem_cons.mp hp with rfl | hp
    · exact U2 _ (.tail _ (.head _))
    · rcases List.mem_cons.mp hp with rfl | hp
      · exact U2 _ (.head _)
      · exact U2 _ (.tail _ (.tail _ hp))
  refine wpAny_bind (wpAny_alloc (wpAny_bind (wpAny_update hx1 ?_)))
  refine wpAny_pure (a := some hh.objs.size) ?_
  refine exc_putDict (s := ⟨_, g, dd, tk + 1, os⟩) U1 N3 rfl (by show 1 ≤ 1000; (first | lia | omega)) (fun p hp => by cases hp with | head => exact Nat.ne_of_lt hlt | tail _ z => cases z) (fun p hp => Nat.ne_of_lt (Heap.lt_size (N p (.tail _ hp)).1)) fun h' F' N' => ?_
  exact h _ _ F' N' (fun p hp => Heap.lt_size (N p (.tail _ hp)).1) hlt
theorem exc_setMore {Q : Unit → Shared → Prop} {es : List DictEntry} {n : Nat} (F : Fr h₀ L s.heap m) (X₀ : K.In h₀) (N : News h₀ L s.heap ((e, excD C t dx) :: (dx, dictOf es n) :: nw)) (h1 : e ≠ dx) (h2 : ∀ p ∈ nw, p.1 ≠ dx)
    (hs : findIn K (.ref C) "__setattr__" = some (some (.builtin "object.__setattr__"))) (hc : clsIn K C = some cd) (hhd : cd.hasDict = true) (hm : cd.mro = [.ref C, .ref D, .type "Exception", .type "BaseException", .type "object"]) (ht : takerIn K C name = some none)
    (hl : (getL name es).isSome = true) (hz : ∀ k, (putL name (PyData.keyHash w.params name) k v es).length ≤ 1000)
    (h : ∀ h', Fr h₀ L h' m → News h₀ L h' ((e, excD C t dx) :: (dx, dictOf (putL name (PyData.keyHash w.params name) (.str name (s.toks + 1)) v es) (putN name es n)) :: nw) → Q () { s with heap := h', toks := s.toks + 1 + 1 }) :
    wpAny (model prog w) A (setAttr (.ref e) name v) Q E s := by
  have X := X₀.keeps F.keep
  have hx := (N _ (.head _)).1
  refine Classical.byContradiction fun nO => ?_
  obtain ⟨hh, g, dd, tk, os⟩ := s
  refine nO ?_
  dsimp only at X hx
  refine exc_set X hx rfl hs (esa_open X hx rfl hc hm ht fun b => ?_)
  refine wpAny_bind (wpAny_pure (wpAny_bind (wpAny_bind (wpAny_loadPart hx (wpAny_bind ((looks_clsIn X hc).here ?_))))))
  rw [hhd]
  refine wpAny_pure (a := some dx) ?_
  exact exc_putDict (pre := [(e, excD C t dx)]) (s := ⟨_, g, dd, tk + 1, os⟩) F N hl (hz _) (fun p hp => by cases hp with | head => exact h1 | tail _ z => cases z) h2 fun h' F' N' => h h' F' N'
end

noncomputable abbrev ent (w : PySem.World) (x : String) (t : Tok) (v : Value) : DictEntry := ⟨PyData.keyHash w.params (Str.ofString x), .str (Str.ofString x) t, v⟩
noncomputable abbrev excDict (w : PySem.World) (what : PySem.Str) (tk ta tb : Tok) : Obj := dictOf [ent w "what" ta (.str what tk), ent w "at" tb .none] 2
theorem exc_fin {h₀ h : Heap} {L : Addr} {a b c d : Addr × Obj} {l : List (Addr × Obj)} (N : News h₀ L h (a :: b :: c :: d :: l)) : News h₀ L h (a :: b :: l) := fun q hq => by
  rcases List.mem_cons.mp hq with rfl | hq
  · exact N _ (.head _)
  · rcases List.mem_cons.mp hq with rfl | hq
    · exact N _ (.tail _ (.head _))
    · exact N _ (.tail _ (.tail _ (.tail _ (.tail _ hq))))
theorem ne_cons {e : Addr} {q : Addr × Obj} {l : List (Addr × Obj)} (h : q.1 ≠ e) (r : ∀ p ∈ l, p.1 ≠ e) : ∀ p ∈ q :: l, p.1 ≠ e := fun p hp => by
  rcases List.mem_cons.mp hp with rfl | hp
  · exact h
  · exact r p hp
theorem ne_lt {e : Addr} {l : List (Addr × Obj)} (r : ∀ p ∈ l, p.1 < e) : ∀ p ∈ l, p.1 ≠ e := fun p hp => Nat.ne_of_lt (r p hp)

inductive Mild {α : Type} : Sem α → Prop
  | pure (a : α) : Mild (.pure a)
  | unsupported (x : String) : Mild (.unsupported x)
  | rule {x k} : (∀ u, Mild (k u)) → Mild (.rule x k)
  | load {a p k} : (∀ o, Mild (k o)) → Mild (.load a p k)
  | update {a p f k} : (∀ o : Obj, (f o).dict = o.dict ∧ (f o).isFreed = o.isFreed) → (∀ u, Mild (k u)) → Mild (.update a p f k)
  | alloc {o k} : (∀ a, Mild (k a)) → Mild (.alloc o k)
  | register {a k} : Mild (.register a k)
  | stack {k} : (∀ l, Mild (k l)) → Mild (.stack k)
noncomputable def DictsKept (h h' : Heap) : Prop := ∀ b o, h.get? b = some o → ∃ o', h'.get? b = some o' ∧ o'.dict = o.dict
theorem DictsKept.rfl {h : Heap} : DictsKept h h := fun _ o e => ⟨o, e, Eq.refl _⟩
theorem DictsKept.trans {a b c : Heap} (x : DictsKept a b) (y : DictsKept b c) : DictsKept a c := fun _ o e =>
  let ⟨o1, e1, d1⟩ := x _ o e; let ⟨o2, e2, d2⟩ := y _ o1 e1; ⟨o2, e2, d2.trans d1⟩
theorem DictsKept.upd {h : Heap} {a : Addr} {f : Obj → Obj} (hf : ∀ o : Obj, (f o).dict = o.dict ∧ (f o).isFreed = o.isFreed) : DictsKept h (h.update a f) := fun b o e => by
  by_cases q : a = b
  · subst q
    exact ⟨f o, Heap.get?_update_self f e ((hf o).2.trans (Heap.get?_some_iff.mp e).2), (hf o).1⟩
  · exact ⟨o, (Heap.get?_update_other h f q).trans e, Eq.refl _⟩
theorem mild_wp {α : Type} {M : Model} {Γ : PySem.Ctx} {t : Sem α} (h : Mild t) : ∀ {Q : α → Pos → Shared → Prop} {E : Value → Pos → Shared → Prop} {p : Pos} {s : Shared}, Sem.wp M Γ t Q E p s → Sem.wp M Γ t (fun a p' s' => Q a p' s' ∧ DictsKept s.heap s'.heap) E p s := by
  induction h with
  | pure a => intro Q E p s x; rw [Sem.wp_pure] at x ⊢; exact ⟨x, .rfl⟩
  | unsupported a => intro Q E p s x; rw [Sem.wp_unsupported] at x; exact x.elim
  | rule _ ih => intro Q E p s x; rw [Sem.wp_rule] at x ⊢; exact ih () x
  | load _ ih => intro Q E p s x; rw [Sem.wp_load] at x ⊢; obtain ⟨o, ho, x⟩ := x; exact ⟨o, ho, ih o x⟩
  | update hf _ ih =>
    intro Q E p s x
    rw [Sem.wp_update] at x ⊢
    exact ⟨x.1, Sem.wp_mono _ _ _ (fun a p' s' z => ⟨z.1, (DictsKept.upd hf).trans z.2⟩) (fun _ _ _ z => z) _ _ (ih () x.2)⟩
  | alloc _ ih =>
    intro Q E p s x
    rw [Sem.wp_alloc] at x ⊢
    exact Sem.wp_mono _ _ _ (fun a p' s' z => ⟨z.1, DictsKept.trans (fun b o e => ⟨o, Heap.get?_push_of_some _ e, Eq.refl _⟩) z.2⟩) (fun _ _ _ z => z) _ _ (ih _ x)
  | register => intro Q E p s x; rw [Sem.wp_register] at x; exact x.elim
  | stack _ ih => intro Q E p s x; simp only [Sem.wp] at x ⊢; exact ih _ x
theorem mild_any {α : Type} {M : Model} {A : Around} {t : Sem α} {Q : α → Shared → Prop} {E : Value → Shared → Prop} {s : Shared} (m : Mild t) (h : wpAny M A t Q E s) : wpAny M A t (fun a s' => Q a s' ∧ DictsKept s.heap s'.heap) E s :=
  fun Γ p hΓ => mild_wp m (h Γ p hΓ)
theorem Mild.bind {α β : Type} {t : Sem α} {f : α → Sem β} (h : Mild t) (k : ∀ a, Mild (f a)) : Mild (t >>= f) := by
  show Mild (t.bind f)
  induction h with
  | pure a => exact k a
  | unsupported a => exact .unsupported a
  | rule _ ih => exact .rule fun u => ih u
  | load _ ih => exact .load fun u => ih u
  | update hf _ ih => exact .update hf fun u => ih u
  | alloc _ ih => exact .alloc fun u => ih u
  | register => exact .register
  | stack _ ih => exact .stack fun u => ih u
theorem Mild.ret {α : Type} (a : α) : Mild (Pure.pure a : Sem α) := .pure a
theorem Mild.ld (a : Addr) : Mild (PySem.load a) := .load fun o => .pure o
theorem Mild.un {α : Type} (x : String) : Mild (PySem.unsupported x : Sem α) := .unsupported x
theorem Mild.ite {α : Type} {c : Prop} [Decidable c] {a b : Sem α} (x : Mild a) (y : Mild b) : Mild (if c then a else b) := by split <;> assumption
theorem mild_fieldsOf (v : Value) : Mild (fieldsOf v) := by
  cases v
  case ref => exact .bind (.ld _) fun o => by cases o.data <;> first | exact .ret _ | exact .un _
  all_goals exact .un _
theorem mild_field (v : Value) (i : Nat) : Mild (field v i) := .bind (mild_fieldsOf v) fun o => by cases o[i]? <;> first | exact .ret _ | exact .un _
theorem mild_mapFields (f : Array Value → Array Value) (o : Obj) : (Obj.mapFields f o).dict = o.dict ∧ (Obj.mapFields f o).isFreed = o.isFreed := by
  refine Classical.byContradiction fun nO => ?_
  obtain ⟨c, d, da, sl⟩ := o
  refine nO ?_
  cases da <;> exact ⟨rfl, rfl⟩
theorem mild_setField (v : Value) (i : Nat) (x : Value) : Mild (setField v i x) := by
  cases v
  case ref =>
    refine .bind (.ld _) fun o => ?_
    cases o.data
    case fields => exact .ite (.update (mild_mapFields _) fun u => .pure u) (.un _)
    all_goals exact .un _
  all_goals exact .un _
theorem mild_behind (env : Env) (outer : List Env) : Mild (behindIsImport env outer) := by
  unfold behindIsImport
  refine .ite (.ret _) (.ite (.ret _) (.bind (mild_field _ _) fun a => .ret _))
theorem mild_under : Mild underTheClaimsCaller := by
  unfold underTheClaimsCaller
  exact .bind (.stack fun l => .pure l) fun l => .ret _
theorem mild_kept (env : Env) (i : Bool) (l : List Env) : Mild (keptBack env i l) := by
  cases l
  · exact .ite (.ret _) (.bind mild_under fun b => .ret _)
  · exact .ret _
theorem mild_ready : ∀ l : List Env, Mild (readyFrames l)
  | [] => by unfold readyFrames; exact .ret _
  | env :: outer => by
    unfold readyFrames
    cases env.frame
    case some => refine .bind (.ld _) fun o => .ite (.ret _) (.bind (mild_behind _ _) fun i => .bind (mild_kept _ _ _) fun b => .bind (.update (fun o => ⟨rfl, by obtain ⟨_, _, da, _⟩ := o; cases da <;> rfl⟩) fun u => .pure u) fun u => mild_ready outer)
    case none => exact .un _
theorem mild_frameObject : ∀ l : List Env, Mild (frameObject l)
  | [] => by unfold frameObject; exact .ret _
  | env :: outer => by unfold frameObject; exact .bind (mild_ready _) fun u => .ret _
theorem mild_frameOf (env : Env) : Mild (PySem.frameOf env) := by
  unfold PySem.frameOf frameEnvs
  exact .bind (.bind (.stack fun l => .pure l) fun l => .ret _) fun l => .bind (mild_frameObject _) fun o => by cases o <;> first | exact .ret _ | exact .un _
theorem mild_place (f : Addr) (b : Bool) : Mild (entryPlaceOf f b) := by
  unfold entryPlaceOf
  exact .bind (.stack fun l => .pure l) fun l => by
    generalize List.find? _ l = z
    rcases z with _ | ⟨_, _⟩ <;> exact .ret _
theorem mild_newFields (ty : String) (vs : List Value) : Mild (newFields ty vs) := by
  unfold newFields newObj
  refine .ite (.bind (.un _) fun u => ?_) ?_ <;> exact .bind (.alloc fun a => .pure a) fun a => .ret _
theorem mild_note (e : Value) (env : Env) : Mild (noteFrame e env) := by
  unfold noteFrame
  generalize env.frame = z
  cases z
  case some =>
    refine .bind (mild_field _ _) fun a => ?_
    have tail : ∀ a f, Mild (do setField e 1 (← EntryCells.newEntry a (← PySem.frameOf env) .none (rawInt f) .none (← entryPlaceOf f (a != .none)))) := fun a f =>
      .bind (mild_frameOf env) fun b => .bind (mild_place _ _) fun c => .bind (mild_newFields _ _) fun d => mild_setField _ _ _
    refine .ite (.bind (mild_field _ _) fun b => .ite (.ret _) (.bind (mild_setField _ _ _) fun u => tail _ _)) (tail _ _)
  case none => exact .un _
theorem mild_flight (e : Value) (f : Option Addr) : Mild (setFlight e f) := by
  unfold setFlight
  exact .bind (mild_field _ _) fun a => .ite (mild_setField _ _ _) (.ret _)
theorem mild_leaving (env : Env) (e : Value) : Mild (leaving env e) := .bind (mild_note e env) fun _ => mild_flight e none

noncomputable def RaisedX (w : PySem.World) (base G : Heap) (l : List Env) (e : Addr) (what : PySem.Str) (news : List (Addr × Obj)) (h : Heap) : Prop :=
  ∃ B a0 dx tk ta tb, base.StaysIn B ∧ (∀ b o, G.get? b = some o → b ∉ l.filterMap (·.frame) → B.get? b = some o) ∧ (∀ q ∈ (dx, excDict w what tk ta tb) :: news, B.get? q.1 = some q.2 ∧ G.get? q.1 = none ∧ base.get? q.1 = none) ∧ Heap.FlyingW B l e (.ref 59) a0 h ∧ ∃ oe, h.get? e = some oe ∧ oe.dict = some dx
theorem fr_self {g h : Heap} {L : Addr} {m : PySem.Str → Option Value} (F : Fr g L h m) : g.get? L = none := by
  cases q : g.get? L with
  | none => rfl
  | some o => exact absurd (Nat.lt_of_lt_of_le (Heap.lt_size q) F.above) (Nat.lt_irrefl _)
theorem none_below {g G : Heap} (k : ∀ b o, g.get? b = some o → G.get? b = some o) {b : Addr} (e : G.get? b = none) : g.get? b = none := by
  cases q : g.get? b with
  | none => rfl
  | some o => have := k b o q; rw [e] at this; cases this
section
variable {w : PySem.World} {M : Model} {A : Around} {E : Value → Shared → Prop} {s' : Shared} {base g g₂ : Heap} {outer : List Env} {L a e t dx : Addr} {m : PySem.Str → Option Value} {name what : PySem.Str} {scope : Scope} {cd : Value} {cl : List (PySem.Str × Addr)} {Q : Unit → Shared → Prop} {news : List (Addr × Obj)} {tk ta tb : Tok}
theorem leave_raiseX (K : Below A base outer g) (F : Fr g L s'.heap m) (N : News g L s'.heap ((e, excD 59 t dx) :: (dx, excDict w what tk ta tb) :: news)) (hed : e ≠ dx) (hen : ∀ p ∈ news, p.1 ≠ e) (hk : scope.kind = .function)
    (hQ : ∀ h', RaisedX w base g outer e what news h' → g.UpToSlots h' → Q () { s' with heap := h' }) :
    wpAny M (A.deeper (envX name scope L a cd cl)) (leaving (envX name scope L a cd cl) (.ref e)) Q E s' := by
  have K' := pushX (env := envX name scope L a cd cl) K F rfl hk
  have hin : ∀ env ∈ (envX name scope L a cd cl :: outer), ∀ b, env.frame = some b → b ∈ e :: (envX name scope L a cd cl :: outer).filterMap (·.frame) := fun env he b hb => .tail _ (List.mem_filterMap.mpr ⟨env, he, hb⟩)
  have fr : ∀ q ∈ (e, excD 59 t dx) :: (dx, excDict w what tk ta tb) :: news, base.get? q.1 = none := fun q hq => fresh_of_stays K.stays (N q hq).2.2
  have st : base.StaysIn (hideAll s'.heap (e :: (envX name scope L a cd cl :: outer).filterMap (·.frame))) := fun b o q => hideAll_get _ (K'.stays b o q) fun hm => by
    rcases List.mem_cons.mp hm with rfl | hm
    · have := fr _ (.head _); rw [this] at q; cases q
    · rw [(K'.frames.mem hm).1] at q; cases q
  have sg : ∀ b o, g.get? b = some o → b ∉ outer.filterMap (·.frame) → (hideAll s'.heap (e :: (envX name scope L a cd cl :: outer).filterMap (·.frame))).get? b = some o := fun b o q nm => hideAll_get _ (F.keep b o q) fun hm => by
    rcases List.mem_cons.mp hm with rfl | hm
    · rw [(N _ (.head _)).2.2] at q; cases q
    · obtain ⟨env, he, hf⟩ := List.mem_filterMap.mp hm
      rcases List.mem_cons.mp he with rfl | he
      · obtain rfl : L = b := Option.some.inj hf
        rw [fr_self F] at q; cases q
      · exact nm (List.mem_filterMap.mpr ⟨env, he, hf⟩)
  have hl : ∀ q ∈ (dx, excDict w what tk ta tb) :: news, (hideAll s'.heap (e :: (envX name scope L a cd cl :: outer).filterMap (·.frame))).get? q.1 = some q.2 ∧ g.get? q.1 = none ∧ base.get? q.1 = none := fun q hq => by
    refine ⟨hideAll_get _ (N q (.tail _ hq)).1 fun hm => ?_, (N q (.tail _ hq)).2.2, fr q (.tail _ hq)⟩
    rcases List.mem_cons.mp hm with hm | hm
    · rcases List.mem_cons.mp hq with rfl | hq
      · exact hed hm.symm
      · exact hen q hq hm
    · obtain ⟨env, he, hf⟩ := List.mem_filterMap.mp hm
      rcases List.mem_cons.mp he with rfl | he
      · exact (N q (.tail _ hq)).2.1 (Option.some.inj hf).symm
      · obtain ⟨o, ho, _⟩ := (K.frames.mem (List.mem_filterMap.mpr ⟨env, he, hf⟩)).2
        rw [(N q (.tail _ hq)).2.2] at ho; cases ho
  have hx := (N _ (.head _)).1
  have hE := hideAll_none (e :: (envX name scope L a cd cl :: outer).filterMap (·.frame)) (h := s'.heap) (b := e) (.head _)
  refine wpAny_mono (mild_any (mild_leaving _ _) (wpAny_leaving_firstW (a0 := .ref t) (Q := fun _ s2 => ∃ h', s2 = { s' with heap := h' } ∧ Heap.LeftW (hideAll s'.heap (e :: (envX name scope L a cd cl :: outer).filterMap (·.frame))) (envX name scope L a cd cl :: outer) e (.ref 59) (.ref t) s'.heap h') K'.stack (funFrames_hide K'.frames hin) rfl hx (fun b o q => of_hideAll _ q) hE rfl rfl rfl fun h' hL => ⟨h', rfl, hL⟩)) (fun _ s2 z => ?_) fun _ _ z => z
  obtain ⟨⟨h', rfl, k1, ⟨_, _, k2⟩, k3, k4⟩, dk⟩ := z
  obtain ⟨o', ho', hd'⟩ := dk _ _ hx
  exact hQ h' ⟨_, _, dx, tk, ta, tb, st, sg, hl, ⟨k1, hE, k2, k3⟩, o', ho', hd'⟩ ((Heap.UpToSlots.of_keeps F.keep).trans k4)
theorem leave_onX (K : Below A base outer g) (F : Fr g L g₂ m) (R : RaisedX w base g₂ (envX name scope L a cd cl :: outer) e what news s'.heap) (hsm : g₂.UpToSlots s'.heap)
    (hQ : ∀ h', RaisedX w base g outer e what news h' → g.UpToSlots h' → Q () { s' with heap := h' }) :
    wpAny M (A.deeper (envX name scope L a cd cl)) (leaving (envX name scope L a cd cl) (.ref e)) Q E s' := by
  obtain ⟨B, a0, dx, tk, ta, tb, hB, hG, hl, hfl, oe, hoe, hod⟩ := R
  refine wpAny_mono (mild_any (mild_leaving _ _) (wpAny_leaves_onW (Q := fun _ s2 => ∃ h', s2 = { s' with heap := h' } ∧ Heap.FlyingW B outer e (.ref 59) a0 h' ∧ s'.heap.UpToSlots h') (Around.frames_deeper K.stack) rfl hfl fun h' x1 x2 => ⟨h', rfl, x1, x2⟩)) (fun _ s2 z => ?_) fun _ _ z => z
  obtain ⟨⟨h', rfl, x1, x2⟩, dk⟩ := z
  obtain ⟨o', ho', hd'⟩ := dk _ _ hoe
  refine hQ h' ⟨B, a0, dx, tk, ta, tb, hB, fun b o q nm => hG b o (F.keep b o q) fun hm => ?_, fun q hq => ⟨(hl q hq).1, none_below F.keep (hl q hq).2.1, (hl q hq).2.2⟩, x1, o', ho', hd'.trans hod⟩ ((Heap.UpToSlots.of_keeps F.keep).trans (hsm.trans x2))
  obtain ⟨env, he, hf⟩ := List.mem_filterMap.mp hm
  rcases List.mem_cons.mp he with rfl | he
  · obtain rfl : L = b := Option.some.inj hf
    rw [fr_self F] at q; cases q
  · exact nm (List.mem_filterMap.mpr ⟨env, he, hf⟩)
end
section
variable {prog : Program} {w : PySem.World} {A : Around} {E : Value → Shared → Prop} {s : Shared} {env : Env} {K : Frag} {h₀ : Heap} {L : Addr} {m : PySem.Str → Option Value}
noncomputable def Flung (h₀ : Heap) (E : Value → Shared → Prop) (v : Value) (s : Shared) : Prop := ∃ e t dx, v = .ref e ∧ h₀.StaysIn s.heap ∧ s.heap.get? e = some (excD 59 t dx) ∧ E (.ref e) s
theorem Flung.of {e t dx : Addr} {nw : List (Addr × Obj)} (F : Fr h₀ L s.heap m) (N : News h₀ L s.heap ((e, excD 59 t dx) :: nw)) (h : E (.ref e) s) : Flung h₀ E (.ref e) s := ⟨e, t, dx, rfl, F.keep, (N _ (.head _)).1, h⟩
theorem exc_raise {nm q : PySem.Str} {N' : Addr} {bs bm : List Value} {hdct : Bool} {sn : List PySem.Str} {sub : List Value} {ab : Bool} {col : Option Bool} {dd : Option Addr} {k0 k1 k2 k3 k5 : Option Value} {newId : String}
    {x : PySem.Expr} {pos : Pos} {Q : Flow → Shared → Prop} (_ : Fr h₀ L s.heap m) (X₀ : K.In h₀) (hh : A.handled = none) (hC : K.lookup 59 = some (excClassObj nm q 59 N' bs bm hdct sn sub ab col dd k0 k1 k2 k3 k5 newId))
    (hcB : (Value.ref 59 :: bm).contains (.type "BaseException") = true)
    (h : wpAny (model prog w) A (eval x env) (fun v s₁ => Flung h₀ E v s₁) E s) :
    wpAny (model prog w) A (exec (.Raise (some x) none pos) env) Q E s := by
  rw [arm_exec_Raise]
  refine wpAny_bind (wpAny_standAt ?_)
  rw [show evalOpt (some x) env = some (eval x env) from rfl, show evalOpt none env = none from rfl]
  delta raiseStmt
  dsimp only [Option.map]
  refine wpAny_bind (wpAny_bind (wpAny_mono h (fun v s₁ h₁ => wpAny_bind (wpAny_standAt (wpAny_pure ?_))) fun _ _ x => x))
  obtain ⟨e, t, dx, rfl, hst, he, hE⟩ := h₁
  have hC' := hst _ _ (X₀ _ _ hC)
  obtain ⟨hp, g, d, tk, os⟩ := s₁
  dsimp only at hC' he
  repeat (first | with_reducible refine wpAny_loadPart_at he ?_ | with_reducible refine wpAny_loadPart_at hC' ?_ | (with_reducible refine wpAny_isSubtype_exc hC' ?_; rw [hcB]) | wp_step)
  exact wpAny_raiseNew_none hh hE
end

section
variable {prog : Program} {w : PySem.World} {A : Around} {E : Value → Shared → Prop} {s : Shared} {R : Result → Shared → Prop}
theorem wpC_bindEq {α β : Type} {M : Model} {m : Sem α} {a : α} {f : α → Sem β} {Q : β → Shared → Prop} (e : m = pure a) (h : wpC M A (f a) Q E s) : wpC M A (m >>= f) Q E s := by
  subst e; exact wpC_bind (wpC_pure h)
theorem wpC_no {α : Type} {M : Model} {c : Bool} {a b : Sem α} {Q : α → Shared → Prop} (hc : c = false) (h : wpC M A b Q E s) : wpC M A (if c = true then a else b) Q E s := by subst hc; exact h
theorem wpC_yes {α : Type} {M : Model} {c : Bool} {a b : Sem α} {Q : α → Shared → Prop} (hc : c = true) (h : wpC M A a Q E s) : wpC M A (if c = true then a else b) Q E s := by subst hc; exact h
theorem codeC_builtin {id : String} {args : Args} {b : Builtin} (hcl : cleanC (.builtin id args) = true) (hb : entryFor table id = some b)
    (h : wpC (model prog w) (A.under (.builtin id args)) (b args)
      (fun fin s' => match fin with | .done f => R (.ok f) s' | .again c' => c'.quiet = true ∧ codeC (model prog w) A c' R s') (fun e s' => R (.error e) s') s) :
    codeC (model prog w) A (.builtin id args) R s := by
  refine codeC_of_tree hcl ?_
  show wpC _ _ (match entryFor table id with | some b => b args | none => unsupported ((withoutEnding? id "#data").getD id)) _ _ s
  rw [hb]; exact h
theorem codeC_call_builtin {id : String} {args : Args} {b : Builtin} (hq : plainId id = true) (hcl : cleanC (.builtin id args) = true) (hb : entryFor table id = some b)
    (h : wpAny (model prog w) A.in1 (checkBuiltinCall id args) (fun _ s₁ => wpC (model prog w) A.in1 (b args)
      (fun fin s' => match fin with | .done f => R (.ok f) s' | .again c' => c'.quiet = true ∧ codeC (model prog w) A c' R s') (fun e s' => R (.error e) s') s₁)
      (fun e s' => R (.error e) s') s) : codeC (model prog w) A (.call (.builtin id) args) R s := by
  refine codeC_of_tree rfl ?_
  show wpC _ A.in1 (do checkBuiltinCall id args; again (.builtin id args)) _ _ s
  refine wpC_bindA (wpAny_mono h (fun _ s₁ h₁ => ?_) fun _ _ z => z)
  refine wpC_pure (And.intro (plainId_quiet hq args) ?_)
  refine codeC_builtin hcl hb ?_
  rw [Around.under_plainId hq args]
  exact h₁
theorem tc_clean (args : Args) : cleanC (.builtin "type.__call__" args) = true := by kernel_rfl
theorem callTypeC {T newId initId : String} {Bi : Builtin} {args : List Value} {Q Q₁ : Value → Shared → Prop} (ft : TypeCalled T newId initId)
    (hct : checkTypeCall T ⟨args, []⟩ = pure ()) (entryI : entryFor table initId = some Bi) (hcl : ∀ as, cleanC (.builtin initId as) = true)
    (hnew : codeAny (model prog w) A.in1 (.call (.builtin newId) ⟨.type T :: args, []⟩) (wants Q₁ E) s)
    (hnext : ∀ obj s₁, Q₁ obj s₁ → s₁.TypeIs obj T ∧ argsOk initId ⟨obj :: args, []⟩ ∧
      wpC (model prog w) A.in1.in1 (Bi ⟨obj :: args, []⟩)
        (fun fin s' => match fin with | .done f => wants (fun r s₂ => r = .none ∧ Q obj s₂) E (.ok f) s' | .again c' => c'.quiet = true ∧ codeC (model prog w) A.in1 c' (wants (fun r s₂ => r = .none ∧ Q obj s₂) E) s')
        (fun e s' => wants (fun r s₂ => r = .none ∧ Q obj s₂) E (.error e) s') s₁) :
    wpC (model prog w) A (call (.type T) args) Q E s := by
  obtain ⟨c, tl, hmro⟩ := ft.mro
  have hmade := ft.made
  have hsub := ft.sub
  refine wpC_call (codeC_of_tree rfl ?_)
  show wpC _ _ (callAny (.type T) _) _ _ _
  refine wpC_pure ⟨Code.quiet_builtin _ (by decide +kernel), codeC_builtin (tc_clean _) F.entry_type_call ?_⟩
  rw [Around.under_plain (weight_type_call_type T args []) rfl]
  have h1 := ft.notType
  have h2 := ft.canCreate
  unfold Builtin.«type.__call__»
  refine wpC_no h1 (wpC_no h2 (wpC_bindEq hct (wpC_bindEq hmro (wpC_no rfl (wpC_bindEq hmade (wpC_bindEq rfl ?_))))))
  refine wpC_bindA (wpAny_holding (wpAny_call (codeAny_mono hnew fun r s₁ hr => ?_)))
  cases r with
  | error e => exact hr
  | ok fl =>
    cases fl with
    | ret obj =>
      obtain ⟨hT, hok, hsi⟩ := hnext _ _ hr
      have hli := ft.init.lookup
      have hbi := ft.init.bind obj
      refine wpC_bindA (wpAny_isInstance hT hsub (wpC_no rfl ?_))
      refine wpC_bind (wpC_holding (wpC_bindA (wpAny_specialOf hT hli (wpC_holding ?_))))
      refine wpC_bindEq hbi (wpC_bind (wpC_call (codeC_mono (codeC_call_builtin ft.init.plain (hcl _) entryI (ft.init.check _ _ _ _ _ _ _ _ hT hok hsi)) fun r₂ s₂ hr₂ => ?_)))
      cases r₂ with
      | error e => exact hr₂
      | ok fl₂ =>
        cases fl₂ with
        | ret r =>
          obtain ⟨rfl, hq⟩ := hr₂
          exact wpC_pure (wpC_no rfl (wpC_pure hq))
        | _ => exact hr₂.elim
    | _ => exact hr.elim
end

theorem ba_mro : mroOf (.type "bytearray") = pure [.type "bytearray", .type "object"] := by rw [mroOf_type]; kernel_rfl
theorem ba_lookup_new : typeLookup (.type "bytearray") "__new__" = pure (some (.builtin "bytearray.__new__")) := by rw [typeLookup_type, builtinLookup_eq_fast]; kernel_rfl
theorem ba_slot_init : Slot "bytearray" "__init__" "bytearray.__init__" :=
  .of (owner := "bytearray") (n := "__init__") (by rw [typeLookup_type, builtinLookup_eq_fast]; kernel_rfl) (by decide +kernel) (by decide +kernel) (by decide +kernel)
    (by first | exact .inl (by decide +kernel) | exact .inr (by decide +kernel)) (by rw [isSubtype_type]; kernel_rfl)
theorem ba_called : TypeCalled "bytearray" "bytearray.__new__" "bytearray.__init__" :=
  ⟨by decide +kernel, by decide +kernel, ⟨_, _, ba_mro⟩, madeBy_type ba_mro ba_lookup_new (by decide +kernel), by decide +kernel, by rw [isSubtype_type]; kernel_rfl, ba_slot_init⟩
theorem ba_typeCall (a : Value) : checkTypeCall "bytearray" ⟨[a], []⟩ = pure () := by kernel_rfl
theorem ba_newCall (a : Value) : checkBuiltinCall "bytearray.__new__" ⟨[.type "bytearray", a], []⟩ = pure () := by kernel_rfl
theorem ba_entry_new : entryFor table "bytearray.__new__" = some Builtin.«list.__new__» := entryFor_alias (id' := "list.__new__") (by kernel_rfl) rfl (by decide +kernel) (by kernel_rfl)
theorem ba_entry_init : entryFor table "bytearray.__init__" = some Builtin.«bytearray.__init__» := by first | exact entryFor_of_fast (by kernel_rfl) | exact entryFor_of_tree (by kernel_rfl)
theorem ba_plain_new : plainId "bytearray.__new__" = true := by decide +kernel
set_option maxRecDepth 1000000 in
theorem ba_owner : ("bytearray.__new__".splitOn ".__new__").headD "" = "bytearray" := by simp +decide [String.splitOn, String.splitOnAux]
theorem ba_sub : isSubtype (.type "bytearray") (.type "bytearray") = pure true := by rw [isSubtype_type]; kernel_rfl
theorem ba_bind (v : Value) : Builtin.Bytes.bindOptional "bytearray.__init__" "bytearray" ["source", "encoding", "errors"] [v] [] = pure [some v, none, none] := by kernel_rfl
theorem ba_init_args (a v : Value) : argsOk "bytearray.__init__" ⟨[a, v], []⟩ := by unfold argsOk; kernel_rfl
theorem ba_init_clean (as : Args) : cleanC (.builtin "bytearray.__init__" as) = true := by kernel_rfl
theorem ba_release : typeLookup (.type "bytearray") "__release_buffer__" = pure (some (.builtin "bytearray.__release_buffer__")) := by rw [typeLookup_type, builtinLookup_eq_fast]; kernel_rfl
theorem ba_buffer : typeLookup (.type "bytearray") "__buffer__" = pure (some (.builtin "bytearray.__buffer__")) := by rw [typeLookup_type, builtinLookup_eq_fast]; kernel_rfl
theorem by_buffer : typeLookup (.type "bytes") "__buffer__" = pure (some (.builtin "bytes.__buffer__")) := by rw [typeLookup_type, builtinLookup_eq_fast]; kernel_rfl
theorem by_release : typeLookup (.type "bytes") "__release_buffer__" = pure none := by rw [typeLookup_type, builtinLookup_eq_fast]; kernel_rfl
theorem by_index : typeLookup (.type "bytes") "__index__" = pure none := by rw [typeLookup_type, builtinLookup_eq_fast]; kernel_rfl
theorem int_index : typeLookup (.type "int") "__index__" = pure (some (.builtin "int.__index__")) := by rw [typeLookup_type, builtinLookup_eq_fast]; kernel_rfl
noncomputable abbrev baObj (b : Array UInt8) : Obj := { cls := .type "bytearray", data := .bytearray b 0 }
section
variable {prog : Program} {w : PySem.World} {A : Around} {E : Value → Shared → Prop} {s : Shared}
theorem ba_new (a : Value) {Q₁ : Value → Shared → Prop} (h : Q₁ (.ref s.heap.objs.size) { s with heap := s.heap.push (baObj #[]) }) :
    codeAny (model prog w) A (.call (.builtin "bytearray.__new__") ⟨[.type "bytearray", a], []⟩) (wants Q₁ E) s := by
  refine codeAny_of_tree ?_
  show wpAny _ A.in1 (do checkBuiltinCall "bytearray.__new__" ⟨[.type "bytearray", a], []⟩; again (.builtin "bytearray.__new__" ⟨[.type "bytearray", a], []⟩)) _ _ s
  refine wpAny_bind (wpAny_of_eq (ba_newCall a) (wpAny_pure ⟨plainId_quiet ba_plain_new _, codeAny_builtin_stack ba_entry_new rfl fun p st => ?_⟩))
  rw [Around.under_plainId ba_plain_new _]
  have hsub := ba_sub
  have hown := ba_owner
  refine Classical.byContradiction fun nO => ?_
  obtain ⟨hp, g, d, tk, os⟩ := s
  refine nO ?_
  dsimp only
  rw [hown]
  wp_walk
  exact h
theorem ba_ownRelease {M : Model} {l : Addr} {Q : Bool → Shared → Prop} (hT : s.TypeIs (.ref l) "bytearray") (h : Q false s) : wpAny M A (Builtin.Bytes.ownRelease (.ref l)) Q E s := by
  unfold Builtin.Bytes.ownRelease Builtin.Bytes.slotIsOwn
  refine wpAny_bind (wpAny_bind (wpAny_specialOf hT ba_release ?_))
  refine bm_if_false (by decide +kernel) ?_
  rw [show ("bytearray.__release_buffer__".dropRight ("__release_buffer__".length + 1)) = "bytearray" from by decide +kernel]
  exact wpAny_isInstance hT ba_sub (wpAny_pure h)
theorem ba_write {M : Model} {l : Addr} {b : Array UInt8} {f : Array UInt8 → Array UInt8} {Q : Unit → Shared → Prop} (hl : s.heap.get? l = some (baObj b)) (hz : (f b).size ≤ sizeLine) (h : Q () { s with heap := s.heap.update l (Obj.mapBytearray f) }) : wpAny M A (Builtin.Bytes.write (.ref l) f) Q E s := by
  show wpAny _ _ (updateBytearray l f) _ _ _
  unfold updateBytearray
  refine wpAny_bind (wpAny_load hl ?_)
  show wpAny _ _ (update l (Obj.mapBytearray f) >>= fun _ => lookBehind l) _ _ _
  refine wpAny_bind (wpAny_update hl ?_)
  refine wpAny_lookBehind (o := baObj (f b)) (Heap.get?_update_self (Obj.mapBytearray f) hl rfl) ?_ h
  show (if (f b).size > sizeLine then some "bytearray:memory" else none) = none
  rw [if_neg (Nat.not_lt.mpr hz)]
end
section
variable {prog : Program} {w : PySem.World} {A : Around} {E : Value → Shared → Prop} {s : Shared}
theorem none_sz {h₀ h : Heap} {L : Addr} {m : PySem.Str → Option Value} (F : Fr h₀ L h m) : h₀.get? h.objs.size = none := by
  cases e : h₀.get? h.objs.size with
  | none => rfl
  | some o => exact absurd (Heap.lt_size (F.keep _ _ e)) (Nat.lt_irrefl _)
theorem ba_fr {h₀ h h' : Heap} {L : Addr} {m : PySem.Str → Option Value} {b : Array UInt8} (F : Fr h₀ L h m) (F1 : Fr h₀ L (h.push (baObj b)) m) (hs : Heap.SameBut h.objs.size (h.push (baObj b)) h') : Fr h₀ L h' m :=
  F1.change hs (fun q => Nat.ne_of_gt F.ns.lt q) (none_sz F)
theorem ba_news {h₀ h h' : Heap} {L : Addr} {m : PySem.Str → Option Value} {news : List (Addr × Obj)} {b c : Array UInt8} (F : Fr h₀ L h m) (N : News h₀ L h news) (hs : Heap.SameBut h.objs.size (h.push (baObj b)) h') (hl : h'.get? h.objs.size = some (baObj c)) : News h₀ L h' ((h.objs.size, baObj c) :: news) := fun q hq => by
  rcases List.mem_cons.mp hq with rfl | hq
  · exact ⟨hl, Nat.ne_of_gt F.ns.lt, none_sz F⟩
  · exact ⟨(hs.2 _ (Nat.ne_of_lt (Heap.lt_size (N q hq).1))).trans (Heap.get?_push_of_some _ (N q hq).1), (N q hq).2⟩
theorem ba_init_head {l : Addr} {v : Value} {Q : PySem.Fin → Shared → Prop} {rest : Option Value → Option Value → Option Value → Sem PySem.Fin} (hl : s.heap.get? l = some (baObj #[]))
    (h : wpC (model prog w) A (rest (some v) none none) Q E { s with heap := s.heap.update l (Obj.mapBytearray fun _ => #[]) })
    (he : Builtin.«bytearray.__init__» ⟨[.ref l, v], []⟩ = (do
      if ← Builtin.Bytes.ownRelease (.ref l) then unsupported "bytearray.__init__:own-__release_buffer__-on-a-subclass"
      let [source, encoding, errors] ← Builtin.Bytes.bindOptional "bytearray.__init__" "bytearray" ["source", "encoding", "errors"] [v] []
        | unsupported "internal:bytearray.__init__"
      Builtin.Bytes.checkCodecArg "bytearray.__init__" "bytearray" "encoding" encoding
      Builtin.Bytes.checkCodecArg "bytearray.__init__" "bytearray" "errors" errors
      if ← Builtin.Bytes.exported (.ref l) <||> (do return (← Builtin.Bytes.exportsOf (.ref l)) > 0) then
        if !(← Builtin.Bytes.payload (.ref l)).isEmpty then Builtin.Bytes.checkResize (.ref l)
        unsupported "bytearray.__init__:exported"
      Builtin.Bytes.write (.ref l) fun _ => #[]
      rest source encoding errors)) :
    wpC (model prog w) A (Builtin.«bytearray.__init__» ⟨[.ref l, v], []⟩) Q E s := by
  have hT : s.TypeIs (.ref l) "bytearray" := ⟨_, hl, rfl⟩
  rw [he]
  refine wpC_bindA (ba_ownRelease hT (wpC_no rfl (wpC_bindEq (ba_bind v) (wpC_bindEq rfl (wpC_bindEq rfl ?_)))))
  refine wpC_bind (wpC_bind (exported_clean ?_))
  show wpC _ _ (Builtin.Bytes.exportsOf (.ref l) >>= fun x => pure (decide (x > 0))) _ _ _
  refine wpC_bindA (wpAny_bind (wpAny_load hl (wpAny_pure (wpC_pure (wpC_no rfl ?_)))))
  exact wpC_bindA (ba_write hl (Nat.zero_le _) h)
theorem ba_init_bytes {l : Addr} {b : Array UInt8} {t : Tok} {Q : PySem.Fin → Shared → Prop} (hl : s.heap.get? l = some (baObj #[])) (hz : b.size ≤ sizeLine)
    (h : ∀ h', Heap.SameBut l s.heap h' → h'.get? l = some (baObj b) → Q (.done (.ret .none)) { s with heap := h' }) :
    wpC (model prog w) A (Builtin.«bytearray.__init__» ⟨[.ref l, .bytes b t], []⟩) Q E s := by
  refine ba_init_head hl ?_ rfl
  have hl1 : (s.heap.update l (Obj.mapBytearray fun _ => #[])).get? l = some (baObj #[]) := Heap.get?_update_self _ hl rfl
  have hTb : ({ s with heap := s.heap.update l (Obj.mapBytearray fun _ => #[]) } : Shared).TypeIs (.bytes b t) "bytes" := typeIs_bytes _ _ _
  have hs1 : Heap.SameBut l s.heap (s.heap.update l (Obj.mapBytearray fun _ => #[])) := Heap.SameBut.update ..
  have hl2 : ((s.heap.update l (Obj.mapBytearray fun _ => #[])).update l (Obj.mapBytearray fun _ => b)).get? l = some (baObj b) := Heap.get?_update_self _ hl1 rfl
  have hs2 : Heap.SameBut l s.heap ((s.heap.update l (Obj.mapBytearray fun _ => #[])).update l (Obj.mapBytearray fun _ => b)) :=
    ⟨(Heap.SameBut.update ..).1.trans hs1.1, fun x hx => ((Heap.SameBut.update ..).2 x hx).trans (hs1.2 x hx)⟩
  have q := h _ hs2 hl2
  refine wpC_any ?_
  dsimp only
  refine wpAny_bind (wpAny_of_eq (a := none) rfl (bm_if_false rfl ?_))
  refine wpAny_bind ?_
  refine bm_if_false rfl (bm_if_false rfl (wpAny_pure ?_))
  refine wpAny_bind (wpAny_specialOf hTb by_index (bm_if_false rfl ?_))
  refine wpAny_bind ?_
  unfold Builtin.Bytes.buffer?
  refine wpAny_bind (wpAny_specialOf hTb by_buffer ?_)
  dsimp only
  unfold Builtin.Bytes.slotIsOwn
  refine wpAny_bind (wpAny_bind (wpAny_specialOf hTb by_buffer ?_))
  refine bm_if_false (by decide +kernel) ?_
  rw [show ("bytes.__buffer__".dropRight ("__buffer__".length + 1)) = "bytes" from by decide +kernel]
  refine wpAny_isInstance hTb PySem.F.bm_sub (bm_if_false rfl ?_)
  refine wpAny_bind (wpAny_specialOf hTb by_buffer ?_)
  unfold Builtin.Bytes.ownRelease Builtin.Bytes.slotIsOwn
  refine wpAny_bind (wpAny_bind (wpAny_bind (wpAny_specialOf hTb by_release (wpAny_pure (wpAny_pure (bm_if_false rfl ?_))))))
  refine wpAny_bind (wpAny_of_eq (a := b) rfl (wpAny_pure ?_))
  exact wpAny_bind (wpAny_rule (wpAny_bind (ba_write hl1 hz (wpAny_pure q))))
theorem ba_init_int {l : Addr} {n : Int} {t : Tok} {Q : PySem.Fin → Shared → Prop} (hl : s.heap.get? l = some (baObj #[])) (h0 : 0 ≤ n) (hz : n ≤ 16777216)
    (h : ∀ h', Heap.SameBut l s.heap h' → h'.get? l = some (baObj (Array.replicate n.toNat 0)) → Q (.done (.ret .none)) { s with heap := h' }) :
    wpC (model prog w) A (Builtin.«bytearray.__init__» ⟨[.ref l, .int n t], []⟩) Q E s := by
  refine ba_init_head hl ?_ rfl
  have hl1 : (s.heap.update l (Obj.mapBytearray fun _ => #[])).get? l = some (baObj #[]) := Heap.get?_update_self _ hl rfl
  have hTb : ({ s with heap := s.heap.update l (Obj.mapBytearray fun _ => #[]) } : Shared).TypeIs (.int n t) "int" := typeIs_int _ _ _
  have hs1 : Heap.SameBut l s.heap (s.heap.update l (Obj.mapBytearray fun _ => #[])) := Heap.SameBut.update ..
  have hl2 : ((s.heap.update l (Obj.mapBytearray fun _ => #[])).update l (Obj.mapBytearray fun _ => Array.replicate n.toNat 0)).get? l = some (baObj (Array.replicate n.toNat 0)) := Heap.get?_update_self _ hl1 rfl
  have hs2 : Heap.SameBut l s.heap ((s.heap.update l (Obj.mapBytearray fun _ => #[])).update l (Obj.mapBytearray fun _ => Array.replicate n.toNat 0)) :=
    ⟨(Heap.SameBut.update ..).1.trans hs1.1, fun x hx => ((Heap.SameBut.update ..).2 x hx).trans (hs1.2 x hx)⟩
  refine wpC_any ?_
  dsimp only
  refine wpAny_bind (wpAny_of_eq (a := none) rfl (bm_if_false rfl ?_))
  refine wpAny_bind ?_
  refine bm_if_false rfl (bm_if_false rfl (wpAny_pure ?_))
  refine wpAny_bind (wpAny_specialOf hTb int_index (bm_if_true rfl ?_))
  refine wpAny_bind (wpAny_attempt (wpAny_of_eq (rfl : asIndex (.int n t) = pure n) ?_))
  refine bm_if_false (by unfold Builtin.Bytes.fitsIndex; simp only [Bool.not_eq_false', Bool.and_eq_true, decide_eq_true_eq]; (first | lia | omega)) ?_
  rw [if_neg (show ¬ n < 0 by (first | lia | omega))]
  refine bm_if_false (beq_eq_false_iff_ne.mpr (by (first | lia | omega))) ?_
  refine bm_if_false (by unfold Builtin.Bytes.tooLong; rw [sizeLine_eq]; exact decide_eq_false (by (first | lia | omega))) ?_
  refine wpAny_bind (wpAny_rule ?_)
  by_cases hn : n > 0
  · rw [if_pos hn]
    exact wpAny_bind (ba_write hl1 (by rw [Array.size_replicate, sizeLine_eq]; (first | lia | omega)) (wpAny_pure (h _ hs2 hl2)))
  · rw [if_neg hn]
    obtain rfl : n = 0 := by (first | lia | omega)
    exact wpAny_pure (h _ hs1 hl1)
theorem ba_bytes {h₀ : Heap} {L : Addr} {m : PySem.Str → Option Value} {news : List (Addr × Obj)} {b : Array UInt8} {t : Tok} {Q : Value → Shared → Prop} (F : Fr h₀ L s.heap m) (N : News h₀ L s.heap news) (hz : b.size ≤ 16777216)
    (h : ∀ l h', Fr h₀ L h' m → News h₀ L h' ((l, baObj b) :: news) → (∀ p ∈ news, p.1 < l) → Q (.ref l) { s with heap := h' }) :
    wpC (model prog w) A (call (.type "bytearray") [.bytes b t]) Q E s := by
  refine callTypeC (Q₁ := fun obj s₁ => obj = .ref s.heap.objs.size ∧ s₁ = { s with heap := s.heap.push (baObj #[]) }) ba_called (ba_typeCall _) ba_entry_init ba_init_clean (ba_new _ ⟨rfl, rfl⟩) fun obj s₁ hq => ?_
  obtain ⟨rfl, rfl⟩ := hq
  have N1 := N.push F (baObj #[])
  have hl := (N1 _ (.head _)).1
  refine ⟨⟨_, hl, rfl⟩, ba_init_args _ _, ba_init_bytes (s := { s with heap := s.heap.push (baObj #[]) }) hl (by rw [sizeLine_eq]; exact hz) fun h' hs hl' => ⟨rfl, h _ h' ?_ ?_ fun p hp => Heap.lt_size (N p hp).1⟩⟩
  · exact ba_fr F (F.push _) hs
  · exact ba_news F N hs hl'
theorem ba_int {h₀ : Heap} {L : Addr} {m : PySem.Str → Option Value} {news : List (Addr × Obj)} {n : Int} {t : Tok} {Q : Value → Shared → Prop} (F : Fr h₀ L s.heap m) (N : News h₀ L s.heap news) (h0 : 0 ≤ n) (hz : n ≤ 16777216)
    (h : ∀ l h', Fr h₀ L h' m → News h₀ L h' ((l, baObj (Array.replicate n.toNat 0)) :: news) → (∀ p ∈ news, p.1 < l) → Q (.ref l) { s with heap := h' }) :
    wpC (model prog w) A (call (.type "bytearray") [.int n t]) Q E s := by
  refine callTypeC (Q₁ := fun obj s₁ => obj = .ref s.heap.objs.size ∧ s₁ = { s with heap := s.heap.push (baObj #[]) }) ba_called (ba_typeCall _) ba_entry_init ba_init_clean (ba_new _ ⟨rfl, rfl⟩) fun obj s₁ hq => ?_
  obtain ⟨rfl, rfl⟩ := hq
  have N1 := N.push F (baObj #[])
  have hl := (N1 _ (.head _)).1
  refine ⟨⟨_, hl, rfl⟩, ba_init_args _ _, ba_init_int (s := { s with heap := s.heap.push (baObj #[]) }) hl h0 hz fun h' hs hl' => ⟨rfl, h _ h' ?_ ?_ fun p hp => Heap.lt_size (N p hp).1⟩⟩
  · exact ba_fr F (F.push _) hs
  · exact ba_news F N hs hl'
end

theorem by_dunder : typeLookup (.type "bytes") "__bytes__" = pure (some (.builtin "bytes.__bytes__")) := by rw [typeLookup_type, builtinLookup_eq_fast]; kernel_rfl
theorem ba_dunder : typeLookup (.type "bytearray") "__bytes__" = pure none := by rw [typeLookup_type, builtinLookup_eq_fast]; kernel_rfl
theorem ba_index : typeLookup (.type "bytearray") "__index__" = pure none := by rw [typeLookup_type, builtinLookup_eq_fast]; kernel_rfl
theorem int_dunder : typeLookup (.type "int") "__bytes__" = pure none := by rw [typeLookup_type, builtinLookup_eq_fast]; kernel_rfl
section
variable {prog : Program} {w : PySem.World} {A : Around} {E : Value → Shared → Prop} {s : Shared}
theorem by_call {x : Value} {Q : Value → Shared → Prop} (h : wpAny (model prog w) A.in1.in1 (Builtin.«bytes.__new__» ⟨[.type "bytes", x], []⟩)
      (fun fin s' => match fin with | .done f => wants (fun obj s₁ => s₁.TypeIs obj "bytes" ∧ Q obj s₁) E (.ok f) s' | .again c' => c'.quiet = true ∧ codeAny (model prog w) A.in1 c' (wants (fun obj s₁ => s₁.TypeIs obj "bytes" ∧ Q obj s₁) E) s')
      (fun e s' => wants (fun obj s₁ => s₁.TypeIs obj "bytes" ∧ Q obj s₁) E (.error e) s') s) : wpAny (model prog w) A (call (.type "bytes") [x]) Q E s := by
  refine callType_codes (Q₁ := fun obj s₁ => s₁.TypeIs obj "bytes" ∧ Q obj s₁) PySem.F.bm_called (PySem.F.bm_typeCall _) PySem.F.entry_object_init ?_ fun obj s₁ h₁ => ?_
  · refine codeAny_of_tree ?_
    show wpAny _ A.in1.in1 (do checkBuiltinCall "bytes.__new__" ⟨[.type "bytes", x], []⟩; again (.builtin "bytes.__new__" ⟨[.type "bytes", x], []⟩)) _ _ s
    refine wpAny_bind (wpAny_of_eq (PySem.F.bm_newCall _) (wpAny_pure ⟨plainId_quiet PySem.F.bm_plain _, codeAny_builtin PySem.F.bm_entry ?_⟩))
    rw [Around.under_plainId PySem.F.bm_plain _]
    exact h
  · exact ⟨h₁.1, PySem.F.args_object_init_2 obj _, object_init_meets PySem.F.bm_called.init.lookup PySem.F.bm_called.made (by decide) prog w A.in1 _ s₁ ⟨h₁.1, rfl, h₁.2⟩⟩
theorem by_bytes {b : Array UInt8} {t : Tok} {Q : Value → Shared → Prop} (h : Q (.bytes b t) s) : wpAny (model prog w) A (call (.type "bytes") [.bytes b t]) Q E s := by
  refine by_call ?_
  have hT : s.TypeIs (.bytes b t) "bytes" := typeIs_bytes _ _ _
  unfold Builtin.«bytes.__new__»
  refine wpAny_bind (wpAny_of_eq (a := true) rfl (bm_if_false rfl ?_))
  refine wpAny_bind (wpAny_of_eq PySem.F.bm_sub (bm_if_false rfl ?_))
  refine wpAny_bind (wpAny_of_eq (PySem.F.bm_bind _) ?_)
  refine wpAny_bind (wpAny_of_eq (a := ()) rfl ?_)
  refine wpAny_bind (wpAny_of_eq (a := ()) rfl (bm_if_false rfl ?_))
  refine wpAny_bind (wpAny_specialOf hT by_dunder (wpAny_bind (wpAny_rule (wpAny_bind (wpAny_typeOf hT (bm_if_true (by decide) ?_))))))
  exact wpAny_pure ⟨hT, h⟩
theorem by_ba {l : Addr} {b : Array UInt8} {Q : Value → Shared → Prop} (hl : s.heap.get? l = some (baObj b)) (hz : b.size ≤ 16777216) (h : Q (.bytes b s.toks) { s with toks := s.toks + 1 }) : wpAny (model prog w) A (call (.type "bytes") [.ref l]) Q E s := by
  refine by_call ?_
  have hT : s.TypeIs (.ref l) "bytearray" := ⟨_, hl, rfl⟩
  unfold Builtin.«bytes.__new__»
  refine wpAny_bind (wpAny_of_eq (a := true) rfl (bm_if_false rfl ?_))
  refine wpAny_bind (wpAny_of_eq PySem.F.bm_sub (bm_if_false rfl ?_))
  refine wpAny_bind (wpAny_of_eq (PySem.F.bm_bind _) ?_)
  refine wpAny_bind (wpAny_of_eq (a := ()) rfl ?_)
  refine wpAny_bind (wpAny_of_eq (a := ()) rfl (bm_if_false rfl ?_))
  refine wpAny_bind (wpAny_specialOf hT ba_dunder ?_)
  refine wpAny_bind (wpAny_bind ?_)
  show wpAny _ _ (PySem.load l >>= _) _ _ _
  refine wpAny_bind (wpAny_load hl (wpAny_pure (wpAny_pure (bm_if_false rfl ?_))))
  refine wpAny_bind (wpAny_specialOf hT ba_index (bm_if_true rfl ?_))
  first
    | show wpAny _ _ (Builtin.Bytes.buffer? "bytes.__new__" (.ref l) true >>= _) _ _ _
    | (refine wpAny_bind ?_; show wpAny _ _ (Builtin.Bytes.buffer? "bytes.__new__" (.ref l) true >>= _) _ _ _)
  refine wpAny_bind ?_
  unfold Builtin.Bytes.buffer?
  refine wpAny_bind (wpAny_specialOf hT ba_buffer ?_)
  dsimp only
  unfold Builtin.Bytes.slotIsOwn
  refine wpAny_bind (wpAny_bind (wpAny_specialOf hT ba_buffer (bm_if_false (by decide +kernel) ?_)))
  rw [show ("bytearray.__buffer__".dropRight ("__buffer__".length + 1)) = "bytearray" from by decide +kernel]
  refine wpAny_isInstance hT ba_sub (bm_if_false rfl ?_)
  refine wpAny_bind (wpAny_specialOf hT ba_buffer ?_)
  refine wpAny_bind (ba_ownRelease hT (bm_if_false rfl ?_))
  refine wpAny_bind (wpAny_bind (wpAny_bind (wpAny_load hl (wpAny_pure (wpAny_pure (wpAny_pure ?_))))))
  refine wpAny_bind (wpAny_rule (wpAny_bind (wpAny_mkBytes ?_ (by rw [sizeLine_eq]; exact hz))))
  show wpAny _ _ (if (Value.type "bytes" == Value.type "bytes") = true then _ else _) _ _ _
  refine bm_if_true (by decide) ?_
  exact wpAny_pure ⟨typeIs_bytes _ _ _, h⟩
theorem by_int {n : Int} {t : Tok} {Q : Value → Shared → Prop} (h0 : 0 ≤ n) (hz : n ≤ 16777216) (h : Q (.bytes (Array.replicate n.toNat 0) s.toks) { s with toks := s.toks + 1 }) : wpAny (model prog w) A (call (.type "bytes") [.int n t]) Q E s := by
  refine by_call ?_
  have hT : s.TypeIs (.int n t) "int" := typeIs_int _ _ _
  unfold Builtin.«bytes.__new__»
  refine wpAny_bind (wpAny_of_eq (a := true) rfl (bm_if_false rfl ?_))
  refine wpAny_bind (wpAny_of_eq PySem.F.bm_sub (bm_if_false rfl ?_))
  refine wpAny_bind (wpAny_of_eq (PySem.F.bm_bind _) ?_)
  refine wpAny_bind (wpAny_of_eq (a := ()) rfl ?_)
  refine wpAny_bind (wpAny_of_eq (a := ()) rfl (bm_if_false rfl ?_))
  refine wpAny_bind (wpAny_specialOf hT int_dunder ?_)
  refine wpAny_bind (wpAny_bind (wpAny_of_eq (a := none) rfl (wpAny_pure (bm_if_false rfl ?_))))
  refine wpAny_bind (wpAny_specialOf hT int_index (bm_if_false rfl ?_))
  refine wpAny_bind (wpAny_attempt (wpAny_of_eq (rfl : asIndex (.int n t) = pure n) ?_))
  refine bm_if_false (by unfold Builtin.Bytes.fitsIndex; simp only [Bool.not_eq_false', Bool.and_eq_true, decide_eq_true_eq]; (first | lia | omega)) ?_
  rw [if_neg (show ¬ n < 0 by (first | lia | omega)), if_neg (show ¬ n > 2 ^ 63 - 34 by (first | lia | omega))]
  refine bm_if_false (by unfold Builtin.Bytes.tooLong; rw [sizeLine_eq]; exact decide_eq_false (by (first | lia | omega))) ?_
  refine wpAny_bind (wpAny_rule (wpAny_bind (wpAny_mkBytes ?_ (by rw [Array.size_replicate, sizeLine_eq]; (first | lia | omega)))))
  show wpAny _ _ (if (Value.type "bytes" == Value.type "bytes") = true then _ else _) _ _ _
  refine bm_if_true (by decide) ?_
  exact wpAny_pure ⟨typeIs_bytes _ _ _, h⟩
end
theorem by_baK {prog : Program} {w : PySem.World} {A : Around} {E : Value → Shared → Prop} {s : Shared} {h₀ : Heap} {L l : Addr} {news : List (Addr × Obj)} {b : Array UInt8} {ks : List Int} {Q : Value → Shared → Prop} (N : News h₀ L s.heap news) (hm : (l, baObj b) ∈ news) (hk : KBw.bInts b = ks) (hz : ks.length ≤ 16777216) (h : Q (.bytes b s.toks) { s with toks := s.toks + 1 }) : wpAny (model prog w) A (call (.type "bytes") [.ref l]) Q E s := by
  subst hk
  rw [KBw.ints_length] at hz
  exact by_ba (N _ hm).1 hz h

theorem ba_ga_slot : Slot "bytearray" "__getattribute__" "bytearray.__getattribute__" :=
  .of (owner := "bytearray") (n := "__getattribute__") (by rw [typeLookup_type, builtinLookup_eq_fast]; kernel_rfl) (by decide +kernel) (by decide +kernel) (by decide +kernel)
    (by first | exact .inl (by decide +kernel) | exact .inr (by decide +kernel)) (by rw [isSubtype_type]; kernel_rfl)
theorem ba_ga_args (a b : Value) : argsOk "bytearray.__getattribute__" ⟨[a, b], []⟩ := by unfold argsOk; kernel_rfl
theorem ba_ga_entry : entryFor table "bytearray.__getattribute__" = some Builtin.«object.__getattribute__» :=
  entryFor_alias (id' := "object.__getattribute__") (by kernel_rfl) (by first | rfl | decide +kernel) (by decide +kernel) (by kernel_rfl)
theorem ba_class_lk : typeLookup (.type "bytearray") "__class__" = pure (some (.builtin "object.__class__")) := by rw [typeLookup_type, builtinLookup_eq_fast]; kernel_rfl
theorem ba_class_owner : isSubtype (.type "bytearray") (.type (".".intercalate ("object.__class__".cutAt '.').dropLast)) = pure true := by
  rw [PySem.F.owner_object_class, isSubtype_type]; kernel_rfl
section
variable {prog : Program} {w : PySem.World} {A : Around} {E : Value → Shared → Prop} {h : Heap} {g : Array GenState} {d : Drawn} {t : Nat} {os : OsState} {a : Addr} {o : Obj}
theorem ba_class {Q : Option Value → Shared → Prop} (hx : h.get? a = some o) (hc : o.cls = .type "bytearray") (hq : Q (some (.type "bytearray")) ⟨h, g, d, t + 1, os⟩) : wpAny (model prog w) A (getAttr? (.ref a) "__class__") Q E ⟨h, g, d, t, os⟩ := by
  have T0 : ∀ t, (⟨h, g, d, t, os⟩ : Shared).TypeIs (.ref a) "bytearray" := fun _ => ⟨_, hx, hc⟩
  have T5 : ∀ t, (⟨h, g, d, t, os⟩ : Shared).TypeIs (.builtin "object.__class__") "getset_descriptor" := fun _ => PySem.F.typeOf_object_class
  have f2 := ba_ga_slot.lookup
  have f3 := ba_ga_slot.bind (.ref a)
  have f4 := ba_class_lk
  have f5 := PySem.F.typeOf_object_class
  have f6 := PySem.F.slot_gs_get.lookup
  have f7 := PySem.F.slot_gs_set.lookup
  have f8 := ba_class_owner
  have hT := T0 (t + 1)
  have hT5 := T5 (t + 1)
  have c1 : ∀ {tk : Tok} {A : Around} {Q : Value → Shared → Prop} {E : Value → Shared → Prop}, Q (.type "bytearray") ⟨h, g, d, t + 1, os⟩ → wpAny (model prog w) A (getAttrBy (.ref a) (.str "__class__" tk) false) Q E ⟨h, g, d, t + 1, os⟩ := by
    intro tk A Q E hq
    repeat (any_goals (first | with_reducible assumption | wp_step | assumption))
    refine codeAny_call_builtin ba_ga_slot.plain ba_ga_entry (ba_ga_slot.check _ _ _ _ _ _ _ _ hT (ba_ga_args _ _) ?_)
    repeat (any_goals (first | with_reducible assumption | wp_step | assumption))
    refine codeAny_call_builtin PySem.F.slot_gs_get.plain PySem.F.entry_gs_get (PySem.F.slot_gs_get.check _ _ _ _ _ _ _ _ hT5 (PySem.F.args_gs_get _ _ _) ?_)
    repeat (any_goals (first | with_reducible assumption | wp_step | assumption))
    refine ⟨Code.quiet_builtin _ (by decide +kernel), codeAny_builtin PySem.F.entry_object_class ?_⟩
    repeat (any_goals (first | with_reducible assumption | wp_step | assumption))
  unfold getAttr? getAttrBy?
  repeat (any_goals (first | with_reducible assumption | with_reducible apply c1 | wp_step | assumption))
end
theorem kitx_ba {K : Frag} {l : Addr} : KitX K (.ref l) (.type "bytearray") (KitAt l "bytearray") := kitx_of kitAt_ty (fun {_ _ _ _ _ s} p k => by
  refine Classical.byContradiction fun nO => ?_
  obtain ⟨hh, g, d, t, os⟩ := s
  obtain ⟨o, ho, hc⟩ := p
  refine nO ?_
  exact ba_class ho hc k)

theorem ba_len_slot : Slot "bytearray" "__len__" "bytearray.__len__" :=
  .of (owner := "bytearray") (n := "__len__") (by rw [typeLookup_type, builtinLookup_eq_fast]; kernel_rfl) (by decide +kernel) (by decide +kernel) (by decide +kernel)
    (by first | exact .inl (by decide +kernel) | exact .inr (by decide +kernel)) (by rw [isSubtype_type]; kernel_rfl)
theorem ba_get_slot : Slot "bytearray" "__getitem__" "bytearray.__getitem__" :=
  .of (owner := "bytearray") (n := "__getitem__") (by rw [typeLookup_type, builtinLookup_eq_fast]; kernel_rfl) (by decide +kernel) (by decide +kernel) (by decide +kernel)
    (by first | exact .inl (by decide +kernel) | exact .inr (by decide +kernel)) (by rw [isSubtype_type]; kernel_rfl)
theorem ba_set_slot : Slot "bytearray" "__setitem__" "bytearray.__setitem__" :=
  .of (owner := "bytearray") (n := "__setitem__") (by rw [typeLookup_type, builtinLookup_eq_fast]; kernel_rfl) (by decide +kernel) (by decide +kernel) (by decide +kernel)
    (by first | exact .inl (by decide +kernel) | exact .inr (by decide +kernel)) (by rw [isSubtype_type]; kernel_rfl)
theorem ba_len_entry : entryFor table "bytearray.__len__" = some Builtin.«bytearray.__len__» := by first | exact entryFor_of_fast (by kernel_rfl) | exact entryFor_of_tree (by kernel_rfl)
theorem ba_get_entry : entryFor table "bytearray.__getitem__" = some Builtin.«bytearray.__getitem__» := by first | exact entryFor_of_fast (by kernel_rfl) | exact entryFor_of_tree (by kernel_rfl)
theorem ba_set_entry : entryFor table "bytearray.__setitem__" = some Builtin.«bytearray.__setitem__» := by first | exact entryFor_of_fast (by kernel_rfl) | exact entryFor_of_tree (by kernel_rfl)
theorem ba_len_args (a : Value) : argsOk "bytearray.__len__" ⟨[a], []⟩ := by unfold argsOk; kernel_rfl
theorem ba_get_args (a b : Value) : argsOk "bytearray.__getitem__" ⟨[a, b], []⟩ := by unfold argsOk; kernel_rfl
theorem ba_set_args (a b c : Value) : argsOk "bytearray.__setitem__" ⟨[a, b, c], []⟩ := by unfold argsOk; kernel_rfl
section
variable {prog : Program} {w : PySem.World} {A : Around} {E : Value → Shared → Prop} {s : Shared}
theorem ba_payload {M : Model} {l : Addr} {b : Array UInt8} {Q : Array UInt8 → Shared → Prop} (hl : s.heap.get? l = some (baObj b)) (h : Q b s) : wpAny M A (Builtin.Bytes.payload (.ref l)) Q E s :=
  wpAny_bind (wpAny_bind (wpAny_load hl (wpAny_pure (wpAny_pure h))))
theorem ba_subscript {M : Model} {k : Int} {t : Tok} {Q : Option Int → Shared → Prop} (h0 : -(2 ^ 63) ≤ k) (h1 : k < 2 ^ 63) (h : Q (some k) s) : wpAny M A (Builtin.Bytes.subscript? (.int k t)) Q E s := by
  unfold Builtin.Bytes.subscript?
  refine wpAny_bind (wpAny_specialOf (typeIs_int _ _ _) int_index (bm_if_false rfl ?_))
  refine wpAny_bind (wpAny_of_eq (rfl : asIndex (.int k t) = pure k) ?_)
  refine bm_if_false (by unfold Builtin.Bytes.fitsIndex; simp only [Bool.not_eq_false', Bool.and_eq_true, decide_eq_true_eq]; (first | lia | omega)) ?_
  exact wpAny_pure h
theorem ba_len {l : Addr} {b : Array UInt8} {Q : Value → Shared → Prop} (hl : s.heap.get? l = some (baObj b)) (hz : b.size ≤ 16777216) (h : Q (.int b.size (s.toks + 1)) { s with toks := s.toks + 1 + 1 }) : wpAny (model prog w) A (call (.builtin "len") [.ref l]) Q E s := by
  have hT : s.TypeIs (.ref l) "bytearray" := ⟨_, hl, rfl⟩
  refine call_len_slot hT ba_len_slot (fun Q' q => wpAny_call_entry ba_len_slot hT ba_len_entry ?_ (ba_len_args _)) (by (first | lia | omega)) (by (first | lia | omega)) h
  unfold Builtin.«bytearray.__len__»
  show wpAny _ _ (Builtin.Bytes.payload (.ref l) >>= _) _ _ _
  exact wpAny_bind (ba_payload hl (wpAny_bind (wpAny_mkInt (wpAny_pure ⟨_, rfl, q⟩))))
theorem ba_getItem {l : Addr} {b : Array UInt8} {k : Int} {t : Tok} {c : UInt8} {Q : Value → Shared → Prop} (hl : s.heap.get? l = some (baObj b)) (hz : b.size ≤ 16777216) (h0 : 0 ≤ k) (h1 : k < b.size) (hc : b[k.toNat]? = some c) (h : Q (.int c.toNat s.toks) { s with toks := s.toks + 1 }) :
    wpAny (model prog w) A (getItem (.ref l) (.int k t)) Q E s := by
  have hT : s.TypeIs (.ref l) "bytearray" := ⟨_, hl, rfl⟩
  unfold getItem
  try with_reducible refine wpAny_holding ?_
  first | refine wpAny_bind (wpAny_pure ?_) | skip
  refine wpAny_bind (wpAny_sequenceKey hT (by decide) ?_)
  refine wpAny_bind (wpAny_callSpecial?_slot (name := Str.ofString "__getitem__") hT ba_get_slot (wpAny_call_entry ba_get_slot hT ba_get_entry ?_ (ba_get_args _ _)))
  unfold Builtin.«bytearray.__getitem__»
  show wpAny _ _ (Builtin.Bytes.subscript? (.int k t) >>= _) _ _ _
  refine wpAny_bind (ba_subscript (by (first | lia | omega)) (by (first | lia | omega)) (wpAny_bind (ba_payload hl ?_)))
  have e : seqIndex? k b.size = some k.toNat := by
    have hn : ¬ k < 0 := by (first | lia | omega)
    simp [seqIndex?, hn, h0, h1]
  rw [e, Option.bind_some, hc]
  first | exact wpAny_bind (wpAny_mkInt (wpAny_pure ⟨_, rfl, wpAny_pure h⟩)) | exact wpAny_bind (wpAny_bind (wpAny_fresh (wpAny_pure (wpAny_pure ⟨_, rfl, wpAny_pure h⟩))))
theorem ba_setItem {l : Addr} {b : Array UInt8} {k v : Int} {t u : Tok} {Q : Unit → Shared → Prop} (hl : s.heap.get? l = some (baObj b)) (hz : b.size ≤ 16777216) (h0 : 0 ≤ k) (h1 : k < b.size) (v0 : 0 ≤ v) (v1 : v < 256) (h : Q () { s with heap := s.heap.update l (Obj.mapBytearray (·.setIfInBounds k.toNat v.toNat.toUInt8)) }) :
    wpAny (model prog w) A (setItem (.ref l) (.int k t) (.int v u)) Q E s := by
  have hT : s.TypeIs (.ref l) "bytearray" := ⟨_, hl, rfl⟩
  unfold setItem
  try with_reducible refine wpAny_holding ?_
  first | refine wpAny_bind (wpAny_pure ?_) | skip
  refine wpAny_bind (wpAny_sequenceKey hT (by decide) ?_)
  refine wpAny_bind (wpAny_callSpecial?_slot (name := Str.ofString "__setitem__") hT ba_set_slot (wpAny_call_entry ba_set_slot hT ba_set_entry ?_ (ba_set_args _ _ _)))
  unfold Builtin.«bytearray.__setitem__»
  refine bm_if_false rfl ?_
  refine wpAny_bind (ba_subscript (by (first | lia | omega)) (by (first | lia | omega)) ?_)
  refine wpAny_bind ?_
  unfold Builtin.Bytes.byteValue
  refine wpAny_bind (wpAny_of_eq (rfl : asIndex (.int v u) = pure v) (bm_if_false (by simp only [Bool.or_eq_false_iff, decide_eq_false_iff_not]; (first | lia | omega)) (wpAny_pure ?_)))
  refine wpAny_bind (ba_payload hl ?_)
  have e : seqIndex? k b.size = some k.toNat := by
    have hn : ¬ k < 0 := by (first | lia | omega)
    simp [seqIndex?, hn, h0, h1]
  rw [e]
  refine wpAny_bind (ba_write hl (by rw [Array.size_setIfInBounds, sizeLine_eq]; (first | lia | omega)) ?_)
  exact wpAny_bind (wpAny_pure (wpAny_pure ⟨_, rfl, wpAny_pure h⟩))
end
section
variable {prog : Program} {w : PySem.World} {A : Around} {E : Value → Shared → Prop} {s : Shared} {h₀ : Heap} {L l : Addr} {m : PySem.Str → Option Value} {news news' : List (Addr × Obj)} {b : Array UInt8} {ks : List Int} {k v : Int} {t u : Tok}
theorem ba_lenK {Q : Value → Shared → Prop} (N : News h₀ L s.heap news) (hm : (l, baObj b) ∈ news) (hk : KBw.bInts b = ks) (hz : ks.length ≤ 16777216) (h : Q (.int ks.length (s.toks + 1)) { s with toks := s.toks + 1 + 1 }) : wpAny (model prog w) A (call (.builtin "len") [.ref l]) Q E s := by
  subst hk
  rw [KBw.ints_length] at hz h
  exact ba_len (N _ hm).1 hz h
theorem ba_getK {value slice : PySem.Expr} {Q : Value → Shared → Prop} (N : News h₀ L s.heap news) (hm : (l, baObj b) ∈ news) (hk : KBw.bInts b = ks) (hz : ks.length ≤ 16777216) (h0 : 0 ≤ k) (h1 : k < (ks.length : Int))
    (h : ∀ x t' tk, 0 ≤ x → x < 256 → Q (.int x t') { s with toks := tk }) (hs : subscripted slice false (.ref l) (.int k u) = operate [.ref l, .int k u] (getItem (.ref l) (.int k u))) :
    wpAny (model prog w) A (subscriptTail value slice (.ref l) (.int k u)) Q E s := by
  subst hk
  rw [KBw.ints_length] at hz h1
  have hl := (N _ hm).1
  have hlt : k.toNat < b.size := by (first | lia | omega)
  have hT : s.TypeIs (.ref l) "bytearray" := ⟨_, hl, rfl⟩
  refine tail_any hT ba_get_slot.lookup (ba_getItem (c := b[k.toNat]) hl hz h0 h1 (Array.getElem?_eq_getElem hlt) (h _ _ _ (by (first | lia | omega)) ?_)) hs
  have := (b[k.toNat]).toNat_lt
  (first | lia | omega)
theorem ba_setK {Q : Unit → Shared → Prop} (F : Fr h₀ L s.heap m) (N : News h₀ L s.heap news) (U : Upd l (baObj b) (baObj (b.setIfInBounds k.toNat v.toNat.toUInt8)) news news') (hk : KBw.bInts b = ks) (hz : ks.length ≤ 16777216) (h0 : 0 ≤ k) (h1 : k < (ks.length : Int)) (v0 : 0 ≤ v) (v1 : v < 256)
    (h : ∀ h', Fr h₀ L h' m → News h₀ L h' news' → Q () { s with heap := h' }) : wpAny (model prog w) A (setItem (.ref l) (.int k t) (.int v u)) Q E s := by
  subst hk
  rw [KBw.ints_length] at hz h1
  refine Classical.byContradiction fun nO => ?_
  obtain ⟨pre, post, rfl, rfl, a, c⟩ := U.split
  have hl := (N (l, baObj b) (List.mem_append.mpr (.inr (.head _)))).1
  obtain ⟨U1, U2⟩ := news_upd (f := Obj.mapBytearray (·.setIfInBounds k.toNat v.toNat.toUInt8)) F N a c rfl rfl
  refine nO ?_
  exact ba_setItem hl hz h0 h1 v0 v1 (h _ U1 U2)
end

@[reducible] noncomputable def byKind : PyProof.Rows.KeyKind := { PyProof.Rows.strKind with keyOf := fun v => match v with | .bytes x _ => some (x.toList.map UInt8.toNat) | _ => none, dflt := [] }
theorem order_lt : ∀ a b : List UInt8, (Builtin.Bytes.order a b == .lt) = decide (a.map UInt8.toNat < b.map UInt8.toNat)
  | [], [] => by decide
  | [], _ :: _ => by simp [Builtin.Bytes.order]
  | _ :: _, [] => by simp [Builtin.Bytes.order]
  | x :: a, y :: b => by
    simp only [Builtin.Bytes.order, List.map_cons]
    by_cases h1 : x < y
    · have h1' : x.toNat < y.toNat := h1
      simp [h1, List.cons_lt_cons_iff, h1']
    · by_cases h2 : x > y
      · have h2' : y.toNat < x.toNat := h2
        have n1 : ¬ x.toNat < y.toNat := by (first | lia | omega)
        have n2 : ¬ x.toNat = y.toNat := by (first | lia | omega)
        simp [h1, h2, List.cons_lt_cons_iff, n1, n2]
      · have : x = y := UInt8.le_antisymm (UInt8.not_lt.mp h2) (UInt8.not_lt.mp h1)
        subst this
        have ih := order_lt a b
        have n1 : ¬ x.toNat < x.toNat := Nat.lt_irrefl _
        simp [h1, List.cons_lt_cons_iff, n1, ih]
theorem by_slot_lt : Slot "bytes" "__lt__" "bytes.__lt__" :=
  .of (owner := "bytes") (n := "__lt__") (by rw [typeLookup_type, builtinLookup_eq_fast]; kernel_rfl) (by decide +kernel) (by decide +kernel) (by decide +kernel)
    (by first | exact .inl (by decide +kernel) | exact .inr (by decide +kernel)) (by rw [isSubtype_type]; kernel_rfl)
theorem by_entry_lt : entryFor table "bytes.__lt__" = some Builtin.«bytes.__lt__» := by first | exact entryFor_of_fast (by kernel_rfl) | exact entryFor_of_tree (by kernel_rfl)
theorem by_args_lt (a b : Value) : argsOk "bytes.__lt__" ⟨[a, b], []⟩ := by unfold argsOk; kernel_rfl
section
variable {prog : Program} {w : PySem.World} {A : Around} {E : Value → Shared → Prop} {s : Shared}
theorem oneLt_by {a b : Array UInt8} {t u : Tok} {Q : Bool → Shared → Prop} (h : Q (decide (a.toList.map UInt8.toNat < b.toList.map UInt8.toNat)) s) : wpAny (model prog w) A (oneLt' true (.bytes a t) (.bytes b u)) Q E s := by
  rw [oneLt'_eq]
  dsimp only
  rw [if_pos rfl]
  refine wpAny_bind (wpAny_cRoomFor_byValue rfl ?_)
  refine wpAny_bind (wpAny_callSpecialIfBound?_slot (typeIs_bytes s a t) by_slot_lt (wpAny_call_entry by_slot_lt (typeIs_bytes s a t) by_entry_lt ?_ (by_args_lt _ _)))
  show wpAny _ _ (isInstance (.bytes b u) (.type "bytes") >>= fun r => _) _ _ s
  refine wpAny_bind (wpAny_isInstance (typeIs_bytes s b u) F.sub_bytes_bytes ?_)
  refine wpAny_pure ⟨_, rfl, ?_⟩
  show wpAny _ _ (truthOfDropped (.bool (Builtin.Bytes.order a.toList b.toList == .lt))) _ _ _
  rw [order_lt]
  exact wpAny_truthy_bool h
end
theorem byKind_oneLt : byKind.OneLt := by
  intro prog w A E s x y a b Q ha hb h
  cases x <;> simp only [byKind, reduceCtorEq, Option.some.injEq] at ha
  cases y <;> simp only [byKind, reduceCtorEq, Option.some.injEq] at hb
  cases ha; cases hb
  exact oneLt_by h
inductive Rise : List Value → Prop
  | nil : Rise []
  | one (b : Array UInt8) (t : Tok) : Rise [.bytes b t]
  | cons (b : Array UInt8) (t : Tok) {r : List Value} (h : Rise r) (hl : ∀ v ∈ r, ∃ c u, v = .bytes c u ∧ b.toList.map UInt8.toNat < c.toList.map UInt8.toNat) : Rise (.bytes b t :: r)
noncomputable def byKey (v : Value) : List Nat := match v with | .bytes x _ => x.toList.map UInt8.toNat | _ => []
theorem Rise.all {vs : List Value} (h : Rise vs) : (∀ v ∈ vs, ∃ b t, v = .bytes b t) ∧ vs.Pairwise (fun x y => byKey x < byKey y) := by
  induction h with
  | nil => exact And.intro (fun _ h => nomatch h) List.Pairwise.nil
  | one b t =>
    refine And.intro (fun v hv => ?_) (List.pairwise_singleton ..)
    rcases List.mem_cons.mp hv with rfl | hv
    · exact ⟨b, t, rfl⟩
    · exact nomatch hv
  | cons b t h hl ih =>
    refine ⟨fun v hv => ?_, List.pairwise_cons.mpr ⟨fun v hv => ?_, ih.2⟩⟩
    · rcases List.mem_cons.mp hv with rfl | hv
      · exact ⟨b, t, rfl⟩
      · exact ih.1 v hv
    · obtain ⟨c, u, rfl, hc⟩ := hl v hv
      exact hc
theorem first_by : ∀ {vs : List Value}, (∀ v ∈ vs, ∃ b t, v = .bytes b t) → vs.mapM firstOfTuple' = pure (vs.map fun _ => none)
  | [], _ => by simp
  | v :: r, h => by
    obtain ⟨b, t, rfl⟩ := h _ (List.mem_cons_self ..)
    have e : firstOfTuple' (.bytes b t) = pure none := rfl
    rw [List.mapM_cons, e, first_by fun v hv => h v (List.mem_cons_of_mem _ hv)]; simp
theorem types_by : ∀ {vs : List Value}, (∀ v ∈ vs, ∃ b t, v = .bytes b t) → vs.mapM typeOf = pure (vs.map fun _ => Value.type "bytes")
  | [], _ => by simp
  | v :: r, h => by
    obtain ⟨b, t, rfl⟩ := h _ (List.mem_cons_self ..)
    rw [List.mapM_cons, types_by fun v hv => h v (List.mem_cons_of_mem _ hv)]
    show (pure (Value.type "bytes") >>= fun b => pure _ >>= fun bs => pure (b :: bs)) = _
    simp
theorem keyKind_by {v₁ v₂ : Value} {vs : List Value} (h : ∀ v ∈ v₁ :: v₂ :: vs, ∃ b t, v = .bytes b t) : keyKind' (v₁ :: v₂ :: vs).toArray = pure oneType' := by
  rw [keyKind'_eq, List.mapM_toArray, first_by h]
  simp only [map_pure, pure_bind]
  rw [if_neg (by simp), if_neg (by simp)]
  rw [oneTypeOnly'_eq, List.mapM_toArray, types_by h]
  simp only [map_pure, pure_bind]
  have hall : ((List.map (fun _ => Value.type "bytes") (v₁ :: v₂ :: vs)).toArray.all fun x => x == Value.type "bytes") = true := by
    simp only [List.all_toArray, List.all_map, List.all_eq_true]
    intro _ _
    rfl
  have h0 : (List.map (fun _ => Value.type "bytes") (v₁ :: v₂ :: vs)).toArray[0]? = some (Value.type "bytes") := by simp
  rw [h0]
  simp only [hall, if_true, pure_bind, Option.isSome_some]
section
variable {prog : Program} {w : PySem.World} {A : Around} {E : Value → Shared → Prop} {s : Shared} {h₀ : Heap} {L l : Addr} {m : PySem.Str → Option Value} {news : List (Addr × Obj)} {vs : List Value} {Q : Value → Shared → Prop}
theorem sorted_by (F : Fr h₀ L s.heap m) (N : News h₀ L s.heap news) (hl : s.heap.IsList l vs.toArray) (hr : Rise vs) (h64 : vs.length < 64)
    (h : ∀ D e h', Fr h₀ L h' m → News h₀ L h' ((D, PySem.W.listOf vs.toArray e) :: news) → (∀ q ∈ news, q.1 < D) → Q (.ref D) { s with heap := h' }) :
    wpAny (model prog w) A (call (.builtin "sorted") [.ref l]) Q E s := by
  obtain ⟨hv, hp⟩ := hr.all
  refine sortedK byKind_oneLt hl (fun p hq => ?_) (fun v₁ v₂ rest e => keyKind_by (by rw [← e]; exact hv)) h64 fun st' a1 a2 => ?_
  · rw [pairsOf_toList] at hq
    obtain ⟨b, t, e⟩ := hv _ (mem_zip_self hq).2
    exact ⟨(b.toList.map UInt8.toNat : List Nat), by rw [e]⟩
  have hl' : (arrOf st').toList.Perm (vs.zip vs) := by rw [← pairsOf_toList]; exact Array.perm_iff_toList_perm.mp a1
  have hmem : ∀ p, p ∈ vs.zip vs → p.1 = p.2 ∧ p.1 ∈ vs := fun p hq => mem_zip_self hq
  have e : (arrOf st').toList = vs.zip vs := by
    refine List.Perm.eq_of_pairwise (le := fun p q => byKey p.1 ≤ byKey q.1) (fun p q hp1 hq1 e1 e2 => ?_) ?_ ?_ hl'
    · have m1 := hmem p (hl'.mem_iff.mp hp1)
      have m2 := hmem q (by first | exact hq1 | exact hl'.mem_iff.mp hq1)
      have ek : byKey p.1 = byKey q.1 := List.le_antisymm e1 e2
      have inj : ∀ x ∈ vs, ∀ y ∈ vs, byKey x = byKey y → x = y := fun x hx y hy exy => by
        refine Classical.byContradiction fun nO => ?_
        obtain ⟨i, hi, rfl⟩ := List.getElem_of_mem hx
        obtain ⟨j, hj, rfl⟩ := List.getElem_of_mem hy
        refine nO ?_
        rcases Nat.lt_trichotomy i j with lt | rfl | lt
        · exact absurd (List.pairwise_iff_getElem.mp hp i j hi hj lt) (by rw [exy]; exact List.lt_irrefl _)
        · rfl
        · exact absurd (List.pairwise_iff_getElem.mp hp j i hj hi lt) (by rw [exy]; exact List.lt_irrefl _)
      have := inj _ m1.2 _ m2.2 ek
      exact Prod.ext this (by rw [← m1.1, ← m2.1]; exact this)
    · rw [List.pairwise_iff_getElem]
      intro i j hi hj hij
      have h1 := a2 i j (Nat.le_of_lt hij) (by rw [← a1.size_eq]; simpa using hj)
      have kk : ∀ i (hi : i < (arrOf st').toList.length), (KK byKind (arrOf st') i : List Nat) = byKey ((arrOf st').toList[i]).1 := fun i hi => by
        obtain ⟨b, t, eb⟩ := hv _ (hmem _ (hl'.mem_iff.mp (List.getElem_mem hi))).2
        have hi' : i < (arrOf st').size := by simpa using hi
        unfold KK
        rw [getElem?_pos (arrOf st') i hi', ← Array.getElem_toList hi']
        rw [eb]
        simp only []
        rw [eb]
        rfl
      rw [kk i hi, kk j hj] at h1
      have h2 : decide (byKey ((arrOf st').toList[j]).1 < byKey ((arrOf st').toList[i]).1) = false := h1
      exact List.not_lt.mp (by simpa using h2)
    · rw [List.pairwise_iff_getElem]
      intro i j hi hj hij
      simp only [List.getElem_zip]
      exact List.le_of_lt (List.pairwise_iff_getElem.mp hp i j (by simpa using hi) (by simpa using hj) hij)
  have eo : (arrOf st').map (·.2) = vs.toArray := by
    apply Array.toList_inj.mp
    rw [Array.toList_map, e, List.map_snd_zip (Nat.le_refl _)]
  obtain ⟨e', he⟩ := sortedAll_at s.heap vs ((arrOf st').map (·.2))
  rw [eo] at he ⊢
  exact h _ e' _ (F.kept fun _ _ => sortedAll_old) (N.kept_cons F (fun _ _ => sortedAll_old) (Nat.le_succ _) he) (fun q hq => Nat.lt_succ_of_lt (Heap.lt_size (N q hq).1))
end
noncomputable def wpX {α : Type} (b : Bool) (M : Model) (A : Around) (t : Sem α) (Q : α → Shared → Prop) (E : Value → Shared → Prop) (s : Shared) : Prop :=
  ∀ Γ p, Γ.In A → (b = true → cleanC Γ.code = true ∧ Clean Γ.below) → Sem.wp M Γ t (fun a _ s' => Q a s') (fun e _ s' => E e s') p s
noncomputable def codeX (b : Bool) (M : Model) (A : Around) (c : Code) (R : Result → Shared → Prop) (s : Shared) : Prop :=
  ∀ Γ p, Γ.code = c → Γ.Below A → (b = true → Clean Γ.below) → wpCode M Γ R p s
section
variable {α β : Type} {b : Bool} {M : Model} {A : Around} {E : Value → Shared → Prop} {s : Shared}
theorem wpX_any {t : Sem α} {Q : α → Shared → Prop} (h : wpAny M A t Q E s) : wpX b M A t Q E s := fun Γ p hΓ _ => h Γ p hΓ
theorem any_X {t : Sem α} {Q : α → Shared → Prop} (h : wpX false M A t Q E s) : wpAny M A t Q E s := fun Γ p hΓ => h Γ p hΓ fun q => nomatch q
theorem wpX_C {t : Sem α} {Q : α → Shared → Prop} (h : wpC M A t Q E s) : wpX true M A t Q E s := fun Γ p hΓ c => h Γ p hΓ (c rfl).1 (c rfl).2
theorem C_X {t : Sem α} {Q : α → Shared → Prop} (h : wpX true M A t Q E s) : wpC M A t Q E s := fun Γ p hΓ c1 c2 => h Γ p hΓ fun _ => ⟨c1, c2⟩
theorem codeX_any {c : Code} {R : Result → Shared → Prop} (h : codeAny M A c R s) : codeX b M A c R s := fun Γ p hc hΓ _ => h Γ p hc hΓ
theorem wpX_pure {a : α} {Q : α → Shared → Prop} (h : Q a s) : wpX b M A (pure a) Q E s := wpX_any (wpAny_pure h)
theorem wpX_mono {t : Sem α} {Q Q' : α → Shared → Prop} {E' : Value → Shared → Prop} (h : wpX b M A t Q E s)
    (hQ : ∀ a s, Q a s → Q' a s) (hE : ∀ e s, E e s → E' e s) : wpX b M A t Q' E' s :=
  fun Γ p hΓ c => Sem.wp_mono M Γ t (fun a _ s => hQ a s) (fun e _ s => hE e s) p s (h Γ p hΓ c)
theorem wpX_bind {m : Sem α} {f : α → Sem β} {Q : β → Shared → Prop} (h : wpX b M A m (fun a s' => wpX b M A (f a) Q E s') E s) :
    wpX b M A (m >>= f) Q E s := fun Γ p hΓ c => by
  rw [Sem.wp_bind']
  exact Sem.wp_mono M Γ m (fun a p' s' h' => h' Γ p' hΓ c) (fun _ _ _ h' => h') p s (h Γ p hΓ c)
theorem wpX_bindA {m : Sem α} {f : α → Sem β} {Q : β → Shared → Prop} (h : wpAny M A m (fun a s' => wpX b M A (f a) Q E s') E s) :
    wpX b M A (m >>= f) Q E s := wpX_bind (wpX_any h)
theorem wpX_onRaise {m : Sem α} {k : Value → Sem Unit} {Q : α → Shared → Prop}
    (h : wpX b M A m Q (fun e s' => wpX b M A (k e) (fun _ s'' => E e s'') E s') s) : wpX b M A (m.onRaise k) Q E s := fun Γ p hΓ c => by
  rw [Sem.wp_onRaise]
  exact Sem.wp_mono M Γ m (fun _ _ _ h' => h') (fun e p' s' h' => h' Γ p' hΓ c) p s (h Γ p hΓ c)
theorem wpX_holding {vs : List Value} {m : Sem α} {Q : α → Shared → Prop} (h : wpX b M A m Q E s) : wpX b M A (holding vs m) Q E s :=
  fun Γ p hΓ c => by rw [Sem.wp_holding]; exact h Γ p hΓ c
theorem wpX_keep {vs : List Value} {m : Sem α} {Q : α → Shared → Prop} (h : wpX b M A m Q E s) : wpX b M A (m.keep vs) Q E s := fun Γ p hΓ c => by rw [Sem.wp_keep]; exact h Γ p hΓ c
theorem codeX_mono {c : Code} {R R' : Result → Shared → Prop} (h : codeX b M A c R s) (hR : ∀ r s, R r s → R' r s) : codeX b M A c R' s :=
  fun Γ p hc hΓ c2 => wpCode_mono hR (h Γ p hc hΓ c2)
theorem wpX_run {c : Code} {h : Option Value} {Q : Flow → Shared → Prop}
    (hc : codeX b M (A.mark h) c (fun r s' => match r with | .ok f => Q f s' | .error e => E e s') s) (hnb : h ≠ some byPass) :
    wpX b M A (run c h) Q E s :=
  fun Γ p hΓ cl => by rw [Sem.wp_run]; exact hc _ p rfl (hΓ.enter c h p hnb) fun q => clean_push (cl q).1 (cl q).2
theorem wpX_runValue {c : Code} {Q : Value → Shared → Prop}
    (hc : codeX b M A c (fun r s' => match r with | .ok (.ret v) => Q v s' | .ok _ => False | .error e => E e s') s) :
    wpX b M A (runValue c) Q E s := fun Γ p hΓ cl => by rw [Sem.wp_runValue]; exact hc _ p rfl (hΓ.enter c none p (by intro x; cases x)) fun q => clean_push (cl q).1 (cl q).2
theorem wpX_call {f : Value} {pos : List Value} {kw : List (PySem.Str × Value)} {Q : Value → Shared → Prop}
    (hc : codeX b M A (.call f ⟨pos, kw⟩) (fun r s' => match r with | .ok (.ret v) => Q v s' | .ok _ => False | .error e => E e s') s) :
    wpX b M A (call f pos kw) Q E s := wpX_runValue hc
theorem codeX_of_tree {c : Code} {R : Result → Shared → Prop} (hcl : cleanC c = true)
    (h : wpX b M (A.under c) (M.den c) (fun fin s' => match fin with | .done f => R (.ok f) s' | .again c' => c'.quiet = true ∧ codeX b M A c' R s')
      (fun e s' => R (.error e) s') s) : codeX b M A c R s := fun Γ p hc hΓ c2 => by
  rw [wpCode_iff_wp, hc]
  refine Sem.wp_mono M Γ _ (fun fin p' s' h' => ?_) (fun _ _ _ h' => h') p s (h Γ p (hc ▸ hΓ.in) fun q => ⟨by rw [hc]; exact hcl, c2 q⟩)
  cases fin with
  | done f => exact h'
  | again c' => exact ⟨h'.1, h'.2 (Γ.goto c') p' rfl (hΓ.goto c') c2⟩
theorem wpX_bindEq {m : Sem α} {a : α} {f : α → Sem β} {Q : β → Shared → Prop} (e : m = pure a) (h : wpX b M A (f a) Q E s) : wpX b M A (m >>= f) Q E s := by
  rw [e]; exact wpX_bind (wpX_pure h)
theorem wpX_no {c : Bool} {t u : Sem α} {Q : α → Shared → Prop} (hc : c = false) (h : wpX b M A u Q E s) : wpX b M A (if c = true then t else u) Q E s := by subst hc; exact h
theorem wpX_runOwn {env : Env} {c : Code} {Q : Flow → Shared → Prop} (hc : codeX b M A c (fun r s' => match r with | .ok f => Q f s' | .error e => cameBackBy M A env E e s') s) : wpX b M A (runOwn c env) Q E s := by
  unfold runOwn
  refine wpX_onRaise (wpX_run (codeX_mono hc fun r s' z => ?_) (fun x => nomatch x))
  cases r with
  | ok f => exact z
  | error e => exact wpX_any z
end

section
variable {b : Bool} {M : Model} {A : Around} {E : Value → Shared → Prop} {s : Shared} {env : Env}
theorem x_cons {st : Stmt} {rest : List Stmt} {Q : Flow → Shared → Prop} (h : wpX b M A (exec st env) (fun f s' => match f with | .next => wpX b M A (execs rest env) Q E s' | f => Q f s') E s) : wpX b M A (execs (st :: rest) env) Q E s := by
  rw [arm_execs_cons]
  refine wpX_bind (wpX_mono h (fun f s' z => ?_) fun _ _ z => z)
  cases f with
  | next => exact z
  | _ => exact wpX_pure z
theorem x_ret {e : PySem.Expr} {pos : Pos} {Q : Flow → Shared → Prop} (h : wpX b M A (eval e env) (fun v s' => Q (.ret v) s') E s) : wpX b M A (exec (.Return (some e) pos) env) Q E s := by
  rw [arm_exec_Return]
  refine wpX_bindA (wpAny_standAt ?_)
  show wpX _ _ _ (eval e env >>= fun v => pure (Flow.ret v)) _ _ _
  exact wpX_bind (wpX_mono h (fun _ _ z => wpX_pure z) fun _ _ z => z)
theorem x_name {x : PySem.Str} {pos' pos : Pos} {value : PySem.Expr} {Q : Flow → Shared → Prop}
    (h : wpX b M A (eval value env) (fun v s₁ => wpAny M A (storeName env x v) (fun _ => Q .next) E s₁) E s) (hs : swapsWith value (some (.Name x pos')) pos.line env = pure false) : wpX b M A (exec (.Assign [.Name x pos'] value pos) env) Q E s := fun Γ p hΓ c => by
  simp only [exec_Assign_Name env x pos' value pos hs, Sem.wp_bind', Sem.wp_cmd_standAt, Sem.wp_bindName, Sem.wp_pure']
  exact Sem.wp_mono M Γ _ (fun v _ s₁ h₁ => h₁ Γ _ hΓ) (fun _ _ _ h' => h') _ _ (h Γ _ hΓ c)
theorem x_attr {o : PySem.Expr} {attr : PySem.Str} {pos' pos : Pos} {value : PySem.Expr} {Q : Flow → Shared → Prop}
    (h : wpX b M A (eval value env) (fun v s₁ => wpAny M A (eval o env) (fun ov s₂ => wpAny M A (setAttr ov attr v) (fun _ => Q .next) E s₂) E s₁) E s)
    (hs : swapsWith value (some (.Attribute o attr pos')) pos.line env = pure false) :
    wpX b M A (exec (.Assign [.Attribute o attr pos'] value pos) env) Q E s := fun Γ p hΓ c => by
  simp only [plainObj_exec_Assign_Attribute o attr pos' value pos hs, assign_Attribute, Sem.wp_bind', Sem.wp_holding, Sem.wp_cmd_standAt, Sem.wp_release, Sem.wp_pure']
  exact Sem.wp_mono M Γ _ (fun v p₁ s₁ h₁ => Sem.wp_mono M Γ _ (fun ov _ s₂ h₂ => h₂ Γ _ hΓ) (fun _ _ _ h' => h') _ _ (h₁ Γ p₁ hΓ)) (fun _ _ _ h' => h') _ _ (h Γ _ hΓ c)
theorem x_sub {o i : PySem.Expr} {pos' pos : Pos} {value : PySem.Expr} {Q : Flow → Shared → Prop}
    (h : wpX b M A (eval value env) (fun v s₁ => wpAny M A (eval o env) (fun ov s₂ => wpAny M A (eval i env) (fun iv s₃ =>
      wpAny M A (setItem ov iv v) (fun _ => Q .next) E s₃) E s₂) E s₁) E s)
    (hs : swapsWith value (some (.Subscript o i pos')) pos.line env = pure false) :
    wpX b M A (exec (.Assign [.Subscript o i pos'] value pos) env) Q E s := by
  rw [exec_Assign_Subscript o i pos' value pos hs]
  exact wpX_bindA (wpAny_standAt (wpX_bind (wpX_mono h (fun _ _ h₁ => wpX_bind (wpX_mono (wpX_any (PySem.W.kas_sub h₁)) (fun _ _ z => wpX_pure z) fun _ _ z => z)) fun _ _ z => z)))
theorem x_if {test : PySem.Expr} {body orelse : List Stmt} {pos : Pos} {Q : Flow → Shared → Prop} (h : wpX b M A (isTrue test env (eval test env)) (fun t s₁ => if t then wpX b M A (execs body env) Q E s₁ else wpX b M A (execs orelse env) Q E s₁) E s) :
    wpX b M A (exec (.If test body orelse pos) env) Q E s := fun Γ p hΓ c => by
  simp only [exec_If, Sem.wp_bind', Sem.wp_cmd_standAt]
  refine Sem.wp_mono M Γ _ (fun b p₂ s₂ h₂ => ?_) (fun _ _ _ h' => h') _ _ (h Γ _ hΓ c)
  cases b <;> exact h₂ Γ p₂ hΓ c
theorem x_not {x : PySem.Expr} {x1 : Pos} {whole : Sem Value} {Q : Bool → Shared → Prop} (h : wpX b M A (isTrue x env (eval x env)) (fun b s' => Q (!b) s') E s) : wpX b M A (isTrue (.UnaryOp .Not x x1) env whole) Q E s := by
  rw [arm_isTrue_UnaryOp]
  exact wpX_bind (wpX_mono h (fun _ _ z => wpX_pure z) fun _ _ z => z)
theorem x_plain {e : PySem.Expr} {whole : Sem Value} {Q : Bool → Shared → Prop} (h : wpX b M A whole (fun v s₁ => wpAny M A (truthy v) Q E s₁) E s)
    (he : isTrue e env whole = (do let v ← whole; standAt e.pos; holding [v] (truthy v))) : wpX b M A (isTrue e env whole) Q E s := by
  rw [he]
  exact wpX_bind (wpX_mono h (fun v s₁ h₁ => wpX_bindA (wpAny_standAt (wpX_holding (wpX_any h₁)))) fun _ _ x => x)
theorem x_and {x : PySem.Expr} {rest : List PySem.Expr} {pos : Pos} {whole : Sem Value} {Q : Bool → Shared → Prop} (h : wpX b M A (isTrue x env (eval x env)) (fun t s' => if t then wpX b M A (isTrue (.BoolOp .And rest pos) env whole) Q E s' else Q false s') E s) : wpX b M A (isTrue (.BoolOp .And (x :: rest) pos) env whole) Q E s := by
  rw [arm_isTrue_BoolOp]
  show wpX b M A (isTrue x env (eval x env) >>= fun b => _) Q E s
  refine wpX_bind (wpX_mono h (fun b s' z => ?_) fun _ _ z => z)
  cases b with
  | true => exact z
  | false => exact wpX_pure z
theorem x_or {x : PySem.Expr} {rest : List PySem.Expr} {pos : Pos} {whole : Sem Value} {Q : Bool → Shared → Prop} (h : wpX b M A (isTrue x env (eval x env)) (fun t s' => if t then Q true s' else wpX b M A (isTrue (.BoolOp .Or rest pos) env whole) Q E s') E s) : wpX b M A (isTrue (.BoolOp .Or (x :: rest) pos) env whole) Q E s := by
  rw [arm_isTrue_BoolOp]
  show wpX b M A (isTrue x env (eval x env) >>= fun b => _) Q E s
  refine wpX_bind (wpX_mono h (fun b s' z => ?_) fun _ _ z => z)
  cases b with
  | true => exact wpX_pure z
  | false => exact z
theorem x_vand {e₁ e₂ : PySem.Expr} {rest : List PySem.Expr} {pos : Pos} {Q : Value → Shared → Prop}
    (h : wpX b M A (eval e₁ env) (fun v s₁ => wpAny M A (truthy v) (fun c s₂ => if c then wpX b M A (eval (.BoolOp .And (e₂ :: rest) pos) env) Q E s₂ else Q v s₂) E s₁) E s) :
    wpX b M A (eval (.BoolOp .And (e₁ :: e₂ :: rest) pos) env) Q E s := by
  show wpX b M A (do
    let v ← eval e₁ env
    standAt pos
    let c ← holding [v] (truthy v)
    match BoolOp.And, c with
    | .And, false | .Or, true => pure v
    | _, _ => boolOp pos .And (eval e₂ env :: evalEach rest env)) Q E s
  refine wpX_bind (wpX_mono h (fun v s₁ h₁ => wpX_bindA (wpAny_standAt (wpX_bindA (wpAny_holding (wpAny_mono h₁ (fun c s₂ h₂ => ?_) fun _ _ x => x))))) fun _ _ x => x)
  cases c with
  | false => exact wpX_pure h₂
  | true => exact h₂
theorem x_compare {l : PySem.Expr} {op : CmpOp} {r : PySem.Expr} {pos : Pos} {Q : Value → Shared → Prop}
    (h : wpX b M A (eval l env) (fun a s₁ => wpAny M A (eval r env) (fun b s₂ => wpAny M A (compareOp op a b) Q E s₂) E s₁) E s)
    (hm : behindInMarks op r = false) : wpX b M A (eval (.Compare l [op] [r] pos) env) Q E s := fun Γ p hΓ c => by
  simp only [eval_Compare1, markedBehindIn_of_false hm, Sem.wp_bind', Sem.wp_holding, Sem.wp_cmd_standAt, Sem.wp_operate]
  exact Sem.wp_mono M Γ _ (fun a p₁ s₁ h₁ => Sem.wp_mono M Γ _ (fun b _ s₂ h₂ => h₂ Γ _ hΓ) (fun _ _ _ h' => h') _ _ (h₁ Γ p₁ hΓ))
    (fun _ _ _ h' => h') _ _ (h Γ p hΓ c)
theorem x_tcompare {l : PySem.Expr} {op : CmpOp} {r : PySem.Expr} {pos : Pos} {whole : Sem Value} {Q : Bool → Shared → Prop}
    (h : wpX b M A (eval l env) (fun a s₁ => wpAny M A (eval r env) (fun b s₂ => wpAny M A (compareOp op a b)
      (fun c s₃ => wpAny M A (truthy c) Q E s₃) E s₂) E s₁) E s)
    (hm : behindInMarks op r = false) : wpX b M A (isTrue (.Compare l [op] [r] pos) env whole) Q E s := fun Γ p hΓ c => by
  simp only [isTrue_Compare1, markedBehindIn_of_false hm, Sem.wp_bind', Sem.wp_holding, Sem.wp_cmd_standAt, Sem.wp_operate]
  exact Sem.wp_mono M Γ _ (fun a p₁ s₁ h₁ => Sem.wp_mono M Γ _ (fun b _ s₂ h₂ => Sem.wp_mono M Γ _ (fun c p₃ s₃ h₃ => h₃ Γ p₃ hΓ)
    (fun _ _ _ h' => h') _ _ (h₂ Γ _ hΓ)) (fun _ _ _ h' => h') _ _ (h₁ Γ p₁ hΓ)) (fun _ _ _ h' => h') _ _ (h Γ p hΓ c)
theorem x_tuple {elts : List PySem.Expr} {k : Nat} {pos : Pos} {Q : Value → Shared → Prop} (h : wpX b M A (spliced (backTo pos (starEach elts env))) (fun vs s' => wpAny M A (newTuple vs) Q E s') E s) : wpX b M A (eval (.Tuple elts k pos) env) Q E s := by
  rw [arm_eval_Tuple]
  exact wpX_bindA (wpAny_standAt (wpX_bind (wpX_mono h (fun _ _ z => wpX_any z) fun _ _ z => z)))
theorem x_spl {pos : Pos} {e : PySem.Expr} {rest : List PySem.Expr} {Q : List Value → Shared → Prop}
    (h : wpX b M A (eval e env) (fun v s₁ => wpX b M A (spliced (backTo pos (starEach rest env))) (fun vs s₂ => Q (v :: vs) s₂) E s₁) E s) (he : starEach (e :: rest) env = (false, eval e env) :: starEach rest env) : wpX b M A (spliced (backTo pos (starEach (e :: rest) env))) Q E s := by
  rw [he]
  show wpX b M A (spliced ((false, eval e env) :: backTo pos (starEach rest env))) Q E s
  rw [spliced]
  refine wpX_bind (wpX_mono h (fun v s₁ h₁ => ?_) fun _ _ x => x)
  simp only [Bool.false_eq_true, if_false]
  exact wpX_bindEq rfl (wpX_bind (wpX_holding (wpX_mono h₁ (fun vs s₂ h₂ => wpX_pure h₂) fun _ _ x => x)))
theorem x_args {f : Value} {x : Sem Value} {rest : List (Bool × Sem Value)} {Q : Args → Shared → Prop}
    (h : wpX b M A (spliced ((false, x) :: rest)) (fun vs s' => Q ⟨vs, []⟩ s') E s) : wpX b M A (evalArgs f true ((false, x) :: rest) []) Q E s := by
  unfold evalArgs
  show wpX b M A (spliced ((false, x) :: rest) >>= _) Q E s
  refine wpX_bind (wpX_mono h (fun vs s' h' => ?_) fun _ _ x => x)
  exact wpX_holding (wpX_bindEq rfl (wpX_bindEq rfl (wpX_pure h')))
theorem x_callWith {K : Frag} {pos : Pos} {f : Value} {first : List Value} {args : List (Bool × Sem Value)} {Q : Value → Shared → Prop} (hk : keepIn K f = true) (hplain : args.any (·.1) = false)
    (h : wpX b M A (evalArgs f true args []) (fun a s₁ => K.In s₁.heap ∧ wpX b M A (call f (first ++ a.pos) a.kw) Q E s₁) E s) : wpX b M A (callWith pos f first args []) Q E s := by
  unfold callWith
  refine wpX_bind (wpX_holding (wpX_mono h (fun a s₁ h₁ => wpX_bindA (wpAny_standAt ?_)) fun _ _ z => z))
  obtain ⟨k, hk', L⟩ := looks_keep (M := M) hk h₁.1
  rw [show (args.any (·.1) || ([] : List (Option PySem.Str × Sem Value)).any (·.1.isNone)) = false from by rw [hplain]; rfl]
  refine wpX_bindA (L.here ?_)
  have tail : ∀ {t : Sem Value}, wpX b M A t Q E s₁ → wpX b M A (t >>= fun r => holding [r] point >>= fun _ => pure r) Q E s₁ :=
    fun ht => wpX_bind (wpX_mono ht (fun r s₂ hr => wpX_bindA (wpAny_holding (wpAny_point (wpX_pure hr)))) fun _ _ z => z)
  rcases hk' with rfl | rfl
  · dsimp only
    split
    · exact tail h₁.2
    · exact tail (wpX_keep h₁.2)
  · exact tail h₁.2
theorem x_callK {K : Frag} {pos : Pos} {f : Value} {first : List Value} {e : PySem.Expr} {rest : List PySem.Expr} {Q : Value → Shared → Prop} (hk : keepIn K f = true)
    (h : wpX b M A (spliced (backTo pos (starEach (e :: rest) env))) (fun vs s₁ => K.In s₁.heap ∧ wpX b M A (call f (first ++ vs)) Q E s₁) E s)
    (he : starEach (e :: rest) env = (false, eval e env) :: starEach rest env) (hplain : (backTo pos (starEach rest env)).any (·.1) = false) :
    wpX b M A (callWith pos f first (backTo pos (starEach (e :: rest) env)) []) Q E s := by
  rw [he] at h ⊢
  exact x_callWith hk (by show (false || (backTo pos (starEach rest env)).any (·.1)) = false; rw [hplain]; rfl) (x_args h)
theorem x_callK0 {K : Frag} {pos : Pos} {f : Value} {first : List Value} {Q : Value → Shared → Prop} (X : K.In s.heap) (hk : keepIn K f = true) (h : wpX b M A (call f (first ++ [])) Q E s) : wpX b M A (callWith pos f first (backTo pos (starEach [] env)) []) Q E s :=
  x_callWith hk rfl (wpX_any (evalArgs_empty ⟨X, h⟩))
theorem x_callM0 {f : Value} {pos : Pos} {first : List Value} {args : List (Bool × Sem Value)} {Q : Value → Shared → Prop} (hk : keeperOf f = pure .machine) (hp : args.any (·.1) = false)
    (h : wpX b M A (evalArgs f true args []) (fun a s₁ => wpX b M A (call f (first ++ a.pos) a.kw) Q E s₁) E s) : wpX b M A (callWith pos f first args []) Q E s := by
  unfold callWith
  refine wpX_bind (wpX_holding (wpX_mono h (fun a s₁ h₁ => wpX_bindA (wpAny_standAt ?_)) fun _ _ z => z))
  rw [show (args.any (·.1) || ([] : List (Option PySem.Str × Sem Value)).any (·.1.isNone)) = false from by rw [hp]; rfl]
  refine wpX_bindEq hk ?_
  exact wpX_bind (wpX_mono h₁ (fun r s₂ hr => wpX_bindA (wpAny_holding (wpAny_point (wpX_pure hr)))) fun _ _ z => z)
theorem x_callM {f : Value} {pos : Pos} {first : List Value} {e : PySem.Expr} {rest : List PySem.Expr} {Q : Value → Shared → Prop} (hk : keeperOf f = pure .machine)
    (h : wpX b M A (spliced (backTo pos (starEach (e :: rest) env))) (fun vs s₁ => wpX b M A (call f (first ++ vs)) Q E s₁) E s)
    (he : starEach (e :: rest) env = (false, eval e env) :: starEach rest env) (hplain : (backTo pos (starEach rest env)).any (·.1) = false) :
    wpX b M A (callWith pos f first (backTo pos (starEach (e :: rest) env)) []) Q E s := by
  rw [he] at h ⊢
  exact x_callM0 hk (by show (false || (backTo pos (starEach rest env)).any (·.1)) = false; rw [hplain]; rfl) (x_args h)
theorem x_callN {f : Value} {pos : Pos} {first : List Value} {Q : Value → Shared → Prop} (hk : keeperOf f = pure .machine) (h : wpX b M A (call f (first ++ [])) Q E s) :
    wpX b M A (callWith pos f first (backTo pos (starEach [] env)) []) Q E s := x_callM0 hk rfl (wpX_any (evalArgs_empty h))
theorem x_callName {x : PySem.Str} {np pos : Pos} {args : List PySem.Expr} {Q : Value → Shared → Prop}
    (h : wpAny M A (eval (.Name x np) env) (fun f s₁ => wpX b M A (callWith pos f [] (backTo pos (starEach args env)) []) Q E s₁) E s) :
    wpX b M A (eval (.Call (.Name x np) args [] pos) env) Q E s := by
  show wpX b M A (do callWith pos (← eval (.Name x np) env) [] (backTo pos (starEach args env)) (backToKw pos (keywordEach [] env))) Q E s
  exact wpX_bindA h
theorem x_meth {name : PySem.Str} {o : PySem.Expr} {apos pos : Pos} {args : List PySem.Expr} {pl : Sem Bool} {Q : Value → Shared → Prop}
    (h : wpAny M A (eval o env) (fun ov s₁ => wpAny M A (getMethod ov name pl) (fun fx s₂ => wpX b M A (callWith pos fx.1 fx.2 (backTo pos (starEach args env)) []) Q E s₂) E s₁) E s)
    (he : eval (.Call (.Attribute o name apos) args [] pos) env = (do
      let ov ← eval o env
      standAt apos.atName
      let (f, first) ← holding [ov] (getMethod ov name pl)
      callWith pos f first (backTo pos (starEach args env)) [])) :
    wpX b M A (eval (.Call (.Attribute o name apos) args [] pos) env) Q E s := by
  rw [he]
  refine wpX_bindA (wpAny_mono h (fun ov s₁ h₁ => wpX_bindA (wpAny_standAt (wpX_bindA (wpAny_holding (wpAny_mono h₁ (fun fx s₂ h₂ => ?_) fun _ _ x => x))))) fun _ _ x => x)
  exact h₂
theorem x_swap {elts : List PySem.Expr} {k : Nat} {tpos : Pos} {value : PySem.Expr} {pos : Pos} {names : List PySem.Str} {Q : Flow → Shared → Prop}
    (h : wpX b M A (eval value env) (fun v s₁ => wpAny M A (unpackItems v names.length none) (fun items s₂ =>
      wpAny M A (assignInOrder (names.reverse.map fun n => bindName env n) items.reverse) (fun _ => Q .next) E s₂) E s₁) E s)
    (hs : swapsWithSole [.Tuple elts k tpos] value pos.line env = pure false)
    (hw : swappedStores [.Tuple elts k tpos] value env = pure (some names)) :
    wpX b M A (exec (.Assign [.Tuple elts k tpos] value pos) env) Q E s := by
  rw [arm_exec_Assign]
  refine wpX_bindA (wpAny_standAt ?_)
  rw [hs]
  refine wpX_bindEq rfl (wpX_no rfl (wpX_bind (wpX_mono h (fun v s₁ h₁ => ?_) fun _ _ x => x)))
  rw [hw]
  refine wpX_bindEq rfl ?_
  show wpX b M A (do rule "assign.swapped-stores"; let items ← unpackItems v names.length none; assignInOrder (names.reverse.map fun n => bindName env n) items.reverse; pure .next) Q E s₁
  exact wpX_bindA (wpAny_rule (wpX_bindA (wpAny_mono h₁ (fun items s₂ h₂ => wpX_bindA (wpAny_mono h₂ (fun _ _ x => wpX_pure x) fun _ _ x => x)) fun _ _ x => x)))
theorem x_for {target iter : PySem.Expr} {body orelse : List Stmt} {pos : Pos} {Q : Flow → Shared → Prop}
    (h : wpX b M A (eval iter env) (fun x s₁ => wpAny M A (pyIter x) (fun it s₂ =>
      codeX b M A (.forLoop target it body orelse env) (fun r s' => match r with | .ok f => Q f s' | .error e => cameBackBy M A env E e s') s₂) E s₁) E s)
    (hs : ∀ x, foldedSetIterable iter env x = pure x) : wpX b M A (exec (.For target iter body orelse pos) env) Q E s := by
  rw [arm_exec_For]
  refine wpX_bindA (wpAny_standAt (wpX_bind (wpX_mono h (fun x s₁ h₁ => ?_) fun _ _ z => z)))
  refine wpX_bindEq (hs x) (wpX_bindA (wpAny_standAt (wpX_bindA (wpAny_holding (wpAny_mono h₁ (fun it s₂ h₂ => wpX_runOwn h₂) fun _ _ z => z)))))
theorem for_item {R : Result → Shared → Prop} {target : PySem.Expr} {it v : Value} {body orelse : List Stmt} 
    (h : wpAny M A (pyNext it) (fun r s₁ => r = some v ∧ (∀ (Q : Unit → Shared → Prop) (E : Value → Shared → Prop), Q () s₁ → wpAny M A (letOwnedTupleGo target it v) Q E s₁) ∧ wpAny M A (assign target env v) (fun _ s₂ => wpX b M A (execs body env) (fun f s₃ => match f with
            | .next | .cont => codeX b M A (.forLoop target it body orelse env) R s₃
            | .brk => R (.ok .next) s₃
            | .ret v => R (.ok (.ret v)) s₃) (notedBy M A env fun e s' => R (.error e) s') s₂) (notedBy M A env fun e s' => R (.error e) s') s₁) (fun e s' => False) s)
    (hden : M.den (.forLoop target it body orelse env) = (forTurn target it body orelse env).onRaise (fun x => do noteFrame x env; theTreesLotGoes x)) :
    codeX b M A (.forLoop target it body orelse env) R s := by
  refine codeX_of_tree rfl ?_
  rw [hden]
  refine wpX_onRaise (wpX_mono (E := notedBy M A env fun e s' => R (.error e) s') ?_ (fun _ _ z => z) fun e s' z => wpX_bindA (wpAny_mono z (fun _ s'' z => wpX_any (wpAny_theTreesLotGoes z)) fun _ _ z => z))
  unfold forTurn
  refine wpX_bindA (wpAny_standAt (wpX_bindA (wpAny_onRaise (wpAny_mono h (fun r s₁ h₁ => ?_) fun _ _ z => z.elim))))
  obtain ⟨rfl, ht, h₁⟩ := h₁
  dsimp only
  refine wpX_bindA (ht _ _ ?_)
  refine (wpX_bindA (wpAny_mono h₁ (fun _ s₂ h₂ => wpX_bind (wpX_mono h₂ (fun f s₃ h₃ => ?_) fun _ _ z => z)) fun _ _ z => z))
  cases f with
  | next => exact wpX_pure ⟨rfl, h₃⟩
  | cont => exact wpX_pure ⟨rfl, h₃⟩
  | brk => exact wpX_pure h₃
  | ret v => exact wpX_pure h₃
theorem for_end {R : Result → Shared → Prop} {target : PySem.Expr} {it : Value} {body : List Stmt}
    (h : wpAny M A (pyNext it) (fun r s₁ => r = none ∧ R (.ok .next) s₁) (fun e s' => False) s)
    (hden : M.den (.forLoop target it body [] env) = (forTurn target it body [] env).onRaise (fun x => do noteFrame x env; theTreesLotGoes x))
    (hblk : ∀ s₁, R (.ok .next) s₁ → codeAny M A (.block [] env) R s₁) :
    codeX b M A (.forLoop target it body [] env) R s := by
  refine codeX_any (codeAny_of_tree ?_)
  rw [hden]
  refine wpAny_onRaise (wpAny_mono (E := notedBy M A env fun e s' => R (.error e) s') ?_ (fun _ _ z => z) fun e s' z => wpAny_bind (wpAny_mono z (fun _ s'' z => wpAny_theTreesLotGoes z) fun _ _ z => z))
  unfold forTurn
  refine wpAny_bind (wpAny_standAt (wpAny_bind (wpAny_onRaise (wpAny_mono h (fun r s₁ h₁ => ?_) fun _ _ z => z.elim))))
  obtain ⟨rfl, h₁⟩ := h₁
  exact wpAny_pure ⟨rfl, hblk _ h₁⟩
end
section
variable {b : Bool} {prog : Program} {w : PySem.World} {A : Around} {E : Value → Shared → Prop} {s : Shared} {R : Result → Shared → Prop}
theorem x_expr {e : PySem.Expr} {pos : Pos} {env : Env} {Q : Flow → Shared → Prop} (h : wpX b (model prog w) A (eval e env) (fun _ => Q .next) E s)
    (hi : interactive env = false) (hs : swapsWith e none pos.line env = pure false) : wpX b (model prog w) A (exec (.Expr e pos) env) Q E s := by
  rw [exec_Expr env e pos hi hs]
  exact wpX_bindA (wpAny_standAt (wpX_bind (wpX_mono h (fun v s' h' => wpX_any (wpAny_dropValue h')) fun _ _ x => x)))
theorem codeX_builtin {id : String} {args : Args} {bi : Builtin} (hcl : cleanC (.builtin id args) = true) (hb : entryFor table id = some bi)
    (h : wpX b (model prog w) (A.under (.builtin id args)) (bi args)
      (fun fin s' => match fin with | .done f => R (.ok f) s' | .again c' => c'.quiet = true ∧ codeX b (model prog w) A c' R s') (fun e s' => R (.error e) s') s) :
    codeX b (model prog w) A (.builtin id args) R s := by
  refine codeX_of_tree hcl ?_
  show wpX _ _ _ (match entryFor table id with | some b => b args | none => unsupported ((withoutEnding? id "#data").getD id)) _ _ s
  rw [hb]; exact h
theorem codeX_func {body : List Stmt} {env : Env}
    (h : wpX b (model prog w) (A.deeper env) (execs body env) (fun f s' => R (.ok (.ret (match f with | .ret v => v | _ => .none))) s')
      (fun e s' => wpAny (model prog w) (A.deeper env) (leaving env e) (fun _ s'' => R (.error e) s'') (fun e' s'' => R (.error e') s'') s') s) :
    codeX b (model prog w) A (.func body env) R s := by
  refine codeX_of_tree rfl ?_
  show wpX b _ (A.deeper env) (do point; match ← (execs body env).onRaise (leaving env) with | .ret v => ret v | _ => ret .none) _ _ s
  refine wpX_bindA (wpAny_point (wpX_bind (wpX_onRaise (wpX_mono h (fun f s' h' => ?_) fun _ _ h' => wpX_any h'))))
  cases f <;> exact wpX_pure h'
theorem codeX_def0 {a : Addr} {args : Args} {o : Obj} {fd : FuncData} {body : List Stmt} {binds : List (PySem.Str × Value)} (hroom : A.depth < recursionLimit) (ho : s.heap.get? a = some o)
    (hd' : o.data = .func fd) (hlim : s.heap.NoLimit) (hcd : s.heap.CodeRec fd.code fd.qualname) (hbody : fd.body = .stmts body) (hbind : BindsTo s fd args binds)
    (hcell : ∀ x ∈ fd.scope.names, x.2 ≠ .cell) (hloc : ∀ x ∈ binds, fd.scope.names.lookup x.1 = some .local)
    (h : ∀ h₀, h₀.Ns s.heap.objs.size (fun x => binds.reverse.lookup x) → (∀ b o, s.heap.get? b = some o → h₀.get? b = some o) →
      wpX b (model prog w) (A.deeper (callEnv fd s.heap.objs.size a)) (execs body (callEnv fd s.heap.objs.size a)) (fun f s' => R (.ok (.ret (match f with | .ret v => v | _ => .none))) s')
        (fun e s' => wpAny (model prog w) (A.deeper (callEnv fd s.heap.objs.size a)) (leaving (callEnv fd s.heap.objs.size a) e) (fun _ s'' => R (.error e) s'') (fun e' s'' => R (.error e') s'') s')
        { s with heap := h₀, toks := s.toks + binds.length })
    (hco : fd.scope.isCoroutine = false) (hgen : fd.scope.isGenerator = false) (hk : fd.scope.kind = .function) :
    codeX b (model prog w) A (.call (.ref a) args) R s := by
  refine codeX_of_tree rfl (wpX_any ?_)
  show wpAny _ A.in1 (callAny (.ref a) args) _ _ s
  refine wpAny_bind (m := load a) (wpAny_load ho ?_)
  have hcd0 := hcd
  refine Classical.byContradiction fun nO => ?_
  obtain ⟨c, oc, vs, tq, hc, hoc, hdc, hq⟩ := hcd
  refine nO ?_
  rw [hd']
  show wpAny _ _ (callFunction a fd args) _ _ _
  delta callFunction
  dsimp only
  rw [hc, hco, hgen, hbody]
  refine wpAny_bind (m := field (.ref c) 1) (wpAny_field hoc hdc hq (wpAny_bind (wpAny_pure ?_)))
  refine wpAny_bind (hbind _ _ _ _ ?_)
  rw [← hc]
  refine wpAny_bind (wpAny_newFunctionEnv hcell hloc (fun h₀ hns₀ hsb₀ => ?_) hk)
  have kk : ∀ b o, s.heap.get? b = some o → h₀.get? b = some o := fun b o e => hsb₀.extBut b o (Nat.ne_of_lt (Heap.lt_size e)) (Heap.get?_push_of_some _ e)
  exact wpAny_bind (wpAny_enterFrame (hlim.fresh _ hsb₀) hroom (wpAny_pure (And.intro rfl (codeX_func (h h₀ hns₀ kk)))))
end
section
variable {b : Bool} {prog : Program} {w : PySem.World} {A A₀ : Around} {E : Value → Shared → Prop} {s : Shared} {K : Frag} {C L : Addr} {h₀ base : Heap} {m mg mb : PySem.Str → Option Value} {news : List (Addr × Obj)} {p : Program} {loose : List PySem.Str} {mean : ExcName → Option Value} {R : Result → Shared → Prop}
theorem codeX_def {env : Env} {outer : List Env} {name qual : PySem.Str} {params : Arguments} {body : List Stmt} {scope : Scope} {dV kV doc pm cdv ct oc : Value} {an od : Option Addr} {osl : Array (Option Value)} {f : Addr} {args : Args} {binds : List (PySem.Str × Value)}
    (B : Below A₀ base outer h₀) (F : Fr h₀ L s.heap m) (X₀ : K.In h₀) (N : News h₀ L s.heap news) (T : Top p loose mean mg mb h₀) (hA' : A.frames = some (env :: outer)) (hf : env.frame = some L) (hke : env.scope.kind = .function)
    (ho : K.lookup f = some ⟨oc, od, .func (fnOf name qual params body scope dV kV doc pm an cdv ct), osl⟩) (hcd : codeIn K cdv qual = true) (hroom : A.depth < recursionLimit)
    (hbind : BindsTo s (fnOf name qual params body scope dV kV doc pm an cdv ct) args binds) (hloc : ∀ y ∈ binds, scope.names.lookup y.1 = some .local)
    (h : ∀ g L' h₁, Fr h₀ L g m → Fr g L' h₁ (fun y => binds.reverse.lookup y) → News g L' h₁ news → Below A base (env :: outer) g → K.In g → Top p loose mean mg mb g →
      wpX b (model prog w) (A.deeper (envOf qual scope L' f cdv)) (execs body (envOf qual scope L' f cdv))
        (fun fl s' => LeaveK h₀ L m g R (match fl with | .ret v => v | _ => .none) s')
        (fun e s' => wpAny (model prog w) (A.deeper (envOf qual scope L' f cdv)) (leaving (envOf qual scope L' f cdv) e) (fun _ s'' => R (.error e) s'') (fun e' s'' => R (.error e') s'') s')
        { s with heap := h₁, toks := s.toks + binds.length })
    (hco : scope.isCoroutine = false) (hgen : scope.isGenerator = false) (hk : scope.kind = .function)
    (hcell : ∀ x ∈ scope.names, x.2 ≠ .cell) : codeX b (model prog w) A (.call (.ref f) args) R s := by
  refine Classical.byContradiction fun nO => ?_
  obtain ⟨FG, BG, st, lv⟩ := groundX (R := R) B F N hA' hf hke
  refine nO ?_
  refine codeX_def0 (fd := fnX name qual params body scope [] dV kV doc pm an cdv ct) (body := body) (binds := binds) hroom ((X₀.keeps F.keep) _ _ ho) rfl (T.nolimit.keeps F.keep) (codeRec_of (X₀.keeps F.keep) hcd) rfl hbind hcell hloc (fun h₁ hns hk₁ => ?_) hco hgen hk
  exact wpX_mono (h _ s.heap.objs.size h₁ FG ⟨hns, fun b o e => hk₁ b o (of_hideAll _ e), Nat.le_of_eq (hideAll_size _ _)⟩
    (fun p hp => ⟨hk₁ _ _ (N p hp).1, Nat.ne_of_lt (Heap.lt_size (N p hp).1), hideAll_none _ (List.mem_map_of_mem hp)⟩) BG (X₀.keeps st) (T.keeps st)) (fun fl s' hl => lv _ _ hl) fun _ _ y => y
theorem codeX_make0 {h : Heap} {g : Array GenState} {d : Drawn} {t : Nat} {os : OsState} {rest : List Value} {kw : List (PySem.Str × Value)} {init : Value} (Y : Makes (model prog w) h C) (hi : Looks (model prog w) h (typeLookup (.ref C) "__init__") (some init))
    (hb : ∀ self, Looks (model prog w) h (bindSpecial init self) (init, [self])) (hne : (some init != some (Value.builtin "object.__init__")) = true ∨ (rest = [] ∧ kw = []))
    (hq : codeX b (model prog w) (A.under (.builtin "type.__call__" ⟨.ref C :: rest, kw⟩)) (.call init ⟨.ref (h.objs.size + 1) :: rest, kw⟩) (InitBack (h.objs.size + 1) R) ⟨(h.push emptyDict).push (instObj C h.objs.size), g, d, t, os⟩) :
    codeX b (model prog w) A (.call (.ref C) ⟨rest, kw⟩) R ⟨h, g, d, t, os⟩ := by
  have Y' := Y
  refine Classical.byContradiction fun nO => ?_
  obtain ⟨⟨oc, od, cd, sl, hC, e1, e2, e4⟩, made, base, self, top, call, typ⟩ := Y
  refine nO ?_
  refine codeX_of_tree rfl (wpX_any ?_)
  show wpAny _ _ (callAny (.ref C) _) _ _ _
  refine nd_load hC ?_
  show wpAny _ _ (callAny.viaDunder (.ref C) _) _ _ _
  unfold callAny.viaDunder
  refine wpAny_bind (call.at ?_)
  dsimp only
  rw [tc_bind]
  refine wpAny_bind (wpAny_pure (wpAny_bind (wpAny_pure ?_)))
  refine wpAny_pure (a := Fin.again (.call (.builtin "type.__call__") ⟨.ref C :: rest, kw⟩)) (And.intro rfl ?_)
  refine codeX_of_tree rfl ?_
  show wpX b _ A.in1 (do checkBuiltinCall "type.__call__" ⟨.ref C :: rest, kw⟩; again (.builtin "type.__call__" ⟨.ref C :: rest, kw⟩)) _ _ _
  refine wpX_bindA (check_slot tc_kind tc_split typ (tc_args _ _ _) ?_)
  refine wpX_pure (And.intro (Code.quiet_builtin _ (by decide +kernel)) (codeX_builtin (tc_clean _) entry_typeCall ?_))
  unfold Builtin.«type.__call__»
  have hm : Looks (model prog w) h (mroOf (.ref C)) cd.mro := ((Looks.ld (part := none) hC).andThen .now).andThen .now
  refine wpX_no rfl (wpX_bindA (hm.at (wpX_no e4 (wpX_bindA (made.at (wpX_bindEq rfl ?_))))))
  refine wpX_bindA (wpAny_holding (wpAny_call (new_K Y' hi hne ?_)))
  have k : ∀ b o, h.get? b = some o → ((h.push emptyDict).push (instObj C h.objs.size)).get? b = some o := fun b o e => Heap.get?_push_of_some _ (Heap.get?_push_of_some _ e)
  have hx : ((h.push emptyDict).push (instObj C h.objs.size)).get? (h.objs.size + 1) = some (instObj C h.objs.size) := by heap_get
  have t1 : Looks (model prog w) ((h.push emptyDict).push (instObj C h.objs.size)) (typeOf (.ref (h.objs.size + 1))) (.ref C) := (Looks.ld hx).andThen .now
  have ii : Looks (model prog w) ((h.push emptyDict).push (instObj C h.objs.size)) (isInstance (.ref (h.objs.size + 1)) (.ref C)) true := t1.andThen (self.keeps k)
  have sp : Looks (model prog w) ((h.push emptyDict).push (instObj C h.objs.size)) (specialOf (.ref (h.objs.size + 1)) "__init__") (some init) := t1.andThen (hi.keeps k)
  have b1 := (hb (.ref (h.objs.size + 1))).keeps k
  refine wpX_bindA (ii.at (wpX_no rfl (wpX_bind (wpX_holding (wpX_bindA (sp.at (wpX_holding (wpX_bindA (b1.at (wpX_bind (wpX_call (codeX_mono hq fun r s' z => ?_)))))))))))) 
  rcases r with e | (v | _ | _ | _) <;> first | exact z | exact z.elim | skip
  obtain ⟨rfl, z⟩ := z
  exact wpX_pure (wpX_no rfl (wpX_pure z))
theorem x_cls {Q : Value → Shared → Prop} {pos : List Value} {fI : Addr} (F : Fr h₀ L s.heap m) (X₀ : K.In h₀) (N : News h₀ L s.heap news) (hm : makesIn K C = true) (hi : findIn K (.ref C) "__init__" = some (some (.ref fI))) (hf : isFn K (.ref fI) = true)
    (h : ∀ x dx h', Fr h₀ L h' m → News h₀ L h' ((x, instObj C dx) :: (dx, dictOf [] 0) :: news) → (∀ p ∈ news, p.1 < dx) → dx < x →
      codeX b (model prog w) (A.under (.builtin "type.__call__" ⟨.ref C :: pos, []⟩)) (.call (.ref fI) ⟨.ref x :: pos, []⟩) (InitBack x fun r s' => match r with | .ok (.ret v) => Q v s' | .ok _ => False | .error e => E e s') { s with heap := h' }) :
    wpX b (model prog w) A (call (.ref C) pos []) Q E s := by
  refine Classical.byContradiction fun nO => ?_
  obtain ⟨hh, g, d, t, os⟩ := s
  refine nO ?_
  refine wpX_call (codeX_make0 (makes_of (X₀.keeps F.keep) hm) (looks_findIn (X₀.keeps F.keep) hi) (fun self => bind_fn (X₀.keeps F.keep) self (beq_iff_eq.mp hf)) (.inl rfl) (h _ hh.objs.size _ ((F.push _).push _) ?_ (fun p hp => Heap.lt_size (N p hp).1) (Nat.lt_succ_self _)))
  have := (N.push F emptyDict).push (F.push _) (instObj C hh.objs.size)
  rwa [Heap.size_push] at this
end

noncomputable def DIn (d : Addr) (od : Obj) (nw : List (Addr × Obj)) : Prop := (d, od) ∈ nw
noncomputable def DKey (kvs : List (Int × Value)) (i : Nat) (v : Value) : Prop := ∃ t, v = .int ((kvs.map (·.1)).getD i 0) t
section
variable {prog : Program} {w : PySem.World} {A : Around} {E : Value → Shared → Prop} {s : Shared} {h₀ : Heap} {L : Addr} {m : PySem.Str → Option Value} {env : Env}
noncomputable def CompSrcD (prog : Program) (w : PySem.World) (A : Around) (h₀ : Heap) (L : Addr) (m : PySem.Str → Option Value) (env : Env) (elt : PySem.Expr) (x : PySem.Str) (scope : Scope) (cl : List (PySem.Str × Addr)) (Fin : Shared → List Value → List (Addr × Obj) → Prop) (xv : Value) (s₁ : Shared) : Prop :=
  ∃ d od kvs news, xv = .ref d ∧ A.handled = none ∧ Fr h₀ L s₁.heap m ∧ News h₀ L s₁.heap news ∧ (d, od) ∈ news ∧ od.IsDictOf (intKind prog w) kvs ∧ (d == sysModules) = false ∧ kvs.length ≤ sizeLine ∧
    ∀ s₂ : Shared, (∃ h, s₂ = { s₁ with heap := h }) → LCg.CompRest prog w A h₀ L m env elt x scope cl s₂ (DIn d od) (DKey kvs) (Fin s₂) kvs.length 0 [] news
theorem CompSrcD.intro {elt : PySem.Expr} {x : PySem.Str} {scope : Scope} {cl : List (PySem.Str × Addr)} {Fin : Shared → List Value → List (Addr × Obj) → Prop} {d : Addr} {od : Obj} {kvs : List (Int × Value)} {news : List (Addr × Obj)} {s₁ : Shared}
    (hh : A.handled = none) (F : Fr h₀ L s₁.heap m) (N : News h₀ L s₁.heap news) (hm : (d, od) ∈ news) (hd : od.IsDictOf (intKind prog w) kvs) (lo : (d == sysModules) = false) (hsz : kvs.length ≤ sizeLine)
    (h : ∀ g, LCg.CompRest prog w A h₀ L m env elt x scope cl { s₁ with heap := g } (DIn d od) (DKey kvs) (Fin { s₁ with heap := g }) kvs.length 0 [] news) :
    CompSrcD prog w A h₀ L m env elt x scope cl Fin (.ref d) s₁ := ⟨d, od, kvs, news, rfl, hh, F, N, hm, hd, lo, hsz, fun _ ⟨g, e⟩ => e ▸ h g⟩
theorem dkey_walks {I d : Addr} (hh : A.handled = none) (hne : d ≠ I) (kvs : List (Int × Value)) (ep : Nat) :
    Walks prog w A I [I, d] [I] kvs.length (DKey kvs) (fun i h => h.IsKeyIter I d i kvs.length ep ∧ h.DictAt (intKind prog w) d kvs ep) :=
  let W : Walks prog w A I [I, d] [I] kvs.length (fun i v => ∃ k x, kvs[i]? = some (k, x) ∧ (intKind prog w).is k v = true) (fun i h => h.IsKeyIter I d i kvs.length ep ∧ h.DictAt (intKind prog w) d kvs ep) := Walks.dictKeys hh I d hne kvs ep
  { sub := W.sub, frame := W.frame, done := W.done, self := W.self,
    item := fun i s Q E hi st hQ => W.item i s Q E hi st fun v h' tk hP => hQ v h' tk (by
      refine Classical.byContradiction fun nO => ?_
      obtain ⟨k, x, e, hk⟩ := hP
      obtain ⟨t, rfl⟩ := Value.isInt_shape hk
      refine nO ?_
      exact ⟨t, by simp [List.getD, List.getElem?_map, e]⟩) }
theorem dkey_st {d I : Addr} {od : Obj} {kvs : List (Int × Value)} {ep : Nat} {L : Addr} (hdo : ∀ h : Heap, h.get? d = some od → h.DictAt (intKind prog w) d kvs ep) :
    ∀ i (h h' : Heap) (o : Obj) (nw : List (Addr × Obj)), (h.IsKeyIter I d i kvs.length ep ∧ h.DictAt (intKind prog w) d kvs ep) → h.get? I = some o → h'.get? I = some o → (∀ b o, h₀.get? b = some o → h'.get? b = some o) → News h₀ L h' nw → DIn d od nw → (h'.IsKeyIter I d i kvs.length ep ∧ h'.DictAt (intKind prog w) d kvs ep) :=
  fun i h h' o nw st e e' _ N S => ⟨st.1.at fun o' q => by rw [e] at q; cases q; exact e', hdo h' (N _ S).1⟩
theorem ListComp_D {elt iter : PySem.Expr} {x : PySem.Str} {px : Pos} {scope : Scope} {cl : List (PySem.Str × Addr)} {pos : Pos} {Q : Value → Shared → Prop} (F₀ : Fr h₀ L s.heap m)
    (hclos : closureFor scope env = pure cl) (hcell : ∀ y ∈ scope.names, y.2 ≠ .cell) (hkind : scope.kind = .function)
    (hnames : ∀ y ∈ scope.names, y.2 = .local → scope.names.lookup y.1 = some .local) (hx : scope.names.lookup x = some .local)
    (h : wpAny (model prog w) A (eval iter env) (CompSrcD prog w A h₀ L m env elt x scope cl (fun s₂ => LCg.FinE h₀ L m s₂ Q)) E s)
    (hs : ∀ x, foldedSetIterable iter env x = pure x) :
    wpAny (model prog w) A (eval (.ListComp elt [⟨.Name x px, iter, [], 0⟩] scope pos) env) Q E s := by
  rw [eval_ListComp]
  refine wpAny_comprehension_free (use := none) rfl hs hclos hkind hnames (wpAny_mono h (fun xv s₁ h₁ => ?_) fun _ _ e => e)
  refine Classical.byContradiction fun nO => ?_
  obtain ⟨d, od, kvs, news, rfl, hh, F, N, hm, hd, lo, hsz, R⟩ := h₁
  obtain ⟨ep, ka⟩ := KdkAt.of hd
  refine nO ?_
  have hat : s₁.heap.DictAt (intKind prog w) d kvs ep := ka.dictAt (N _ hm).1
  have hlt : d < s₁.heap.objs.size := hat.lt_size
  have hne : d ≠ s₁.heap.objs.size := Nat.ne_of_lt hlt
  refine wpAny_pyIter_dict lo hat ?_
  refine LCg.block_U (dkey_walks hh hne kvs ep) hsz (fun i h st => by obtain ⟨o, e, _⟩ := st.1; exact ⟨o, e⟩) (dkey_st fun h e => ka.dictAt e) hcell hkind hx ⟨⟨_, Heap.get?_push_size _ rfl, rfl, rfl⟩, hat.push _⟩ (fun b hb => ?_)
    (F.keeps fun _ _ e => Heap.get?_push_of_some _ e) (N.grown fun _ _ e => Heap.get?_push_of_some _ e) (Nat.ne_of_lt F.ns.lt) (next_is_new F) (fun p hp => Nat.ne_of_lt (Heap.lt_size (N p hp).1)) hm (R _ ⟨_, rfl⟩) ?_
  · show b < (s₁.heap.push _).objs.size
    rw [Heap.size_push]
    rcases List.mem_cons.mp hb with rfl | hb
    · exact Nat.lt_succ_self _
    · rw [List.mem_singleton.mp hb]; exact Nat.lt_succ_of_lt hlt
  · intro D C h tk m' ys news' F' N' o1 hn hC₀ hD₀ hCL hDL hCD offC fin
    refine ⟨m', hn, fun h'' hs'' => fin D h'' tk (F'.change hs'' hCL hC₀) (fun p hp => ?_) o1⟩
    refine ⟨hs''.extBut _ _ ?_ (N' p hp).1, (N' p hp).2⟩
    rcases List.mem_cons.mp hp with rfl | hp
    · exact Ne.symm hCD
    · exact offC p hp
end
theorem by_item {prog : Program} {w : PySem.World} {A : Around} {E : Value → Shared → Prop} {s : Shared} {b : Array UInt8} {t ui : Tok} {ks : List Int} {i c : Int} {value slice : PySem.Expr} {Q : Value → Shared → Prop} (hk : KBw.bInts b = ks) (hc : (if 0 ≤ i then ks[i.toNat]? else none) = some c) (hz : ks.length ≤ 1000)
    (h : ∀ t' tk', Q (.int c t') { s with toks := tk' })
    (hs : subscripted slice false (.bytes b t) (.int i ui) = operate [.bytes b t, .int i ui] (getItem (.bytes b t) (.int i ui)))
    (ht : ∀ r, letTemporaryGo value (.bytes b t) r = pure ()) :
    wpAny (model prog w) A (subscriptTail value slice (.bytes b t) (.int i ui)) Q E s := by
  by_cases h0 : 0 ≤ i
  · rw [if_pos h0] at hc
    have hlt : i.toNat < ks.length := (List.getElem?_eq_some_iff.mp hc).1
    refine KBw.item_K hk (by (first | lia | omega)) h0 (by (first | lia | omega)) (fun t' tk' h1 h2 => ?_) hs ht
    have e : ks.getD i.toNat 0 = c := by rw [List.getD_eq_getElem?_getD, hc]; rfl
    rw [e]; exact h _ _
  · rw [if_neg h0] at hc; cases hc

theorem slice_lit {prog : Program} {w : PySem.World} {A : Around} {E : Value → Shared → Prop} {s : Shared} {value slice : PySem.Expr} {b : Array UInt8} {t : Tok} {h₀ : Heap} {L : Addr} {m : PySem.Str → Option Value} {news : List (Addr × Obj)} {l u : Value} {lo hi : Option Int} {Q : Value → Shared → Prop} {ks ks' : List Int}
    (hF : Fr h₀ L s.heap m) (hN : News h₀ L s.heap news) (hk : KBw.bInts b = ks) (hl : IsPart l lo) (hu : IsPart u hi) (hz : ks.length ≤ 16777216)
    (he : (ks.drop (lo.elim 0 (clipAt ks.length))).take (hi.elim ks.length (clipAt ks.length) - lo.elim 0 (clipAt ks.length)) = ks')
    (h : ∀ b' h' t' k, Fr h₀ L h' m → News h₀ L h' news → KBw.bInts b' = ks' → Q (.bytes b' t') { s with heap := h', toks := k })
    (hs : subscripted slice false (.bytes b t) (.ref s.heap.objs.size) = operate [.ref s.heap.objs.size, .bytes b t] (getItem (.bytes b t) (.ref s.heap.objs.size)))
    (ht : ∀ r, letTemporaryGo value (.bytes b t) r = pure ()) :
    wpAny (model prog w) A (subscriptTail value slice (.bytes b t) (.ref s.heap.objs.size)) Q E { s with heap := s.heap.push { cls := .type "slice", data := .fields #[l, u, .none] } } :=
  KBc.slice_K hF hN hk hl hu hz (fun h' t' k F' N' e => h _ h' t' k F' N' (e.trans he)) hs ht

theorem by_len_lk : typeLookup (.type "bytes") "__len__" = pure (some (.builtin "bytes.__len__")) := by rw [typeLookup_type, builtinLookup_eq_fast]; kernel_rfl
section
variable {prog : Program} {w : PySem.World} {A : Around} {E : Value → Shared → Prop} {s : Shared}
noncomputable abbrev ByteAt (b : Array UInt8) (i : Nat) (v : Value) : Prop := ∃ c u, b[i]? = some c ∧ v = .int ((c.toNat : Nat) : Int) u
theorem lb_extend {R : Result → Shared → Prop} (hh : A.handled = none) (b : Array UInt8) (t : Tok) (S : Addr) (res : Value) (c₀ : Nat) (hS : s.heap.get? S = some { cls := .type "list", data := .seq #[] c₀ })
    (hR : ∀ h' tk acc' c', (∀ x o, x ≠ S → s.heap.get? x = some o → h'.get? x = some o) → h'.get? S = some { cls := .type "list", dict := none, data := .seq acc' c', slots := #[] } →
      ItemsOf (ByteAt b) acc' b.size → R (.ok (.ret res)) { s with heap := h', toks := tk }) (hn : b.size ≤ sizeLine) :
    wpAny (model prog w) A.in1 (Builtin.List.listExtendWith (.ref S) (.bytes b t) res)
      (fun fin s' => match fin with | .done f => R (.ok f) s' | .again c' => c'.quiet = true ∧ codeAny (model prog w) A c' R s') (fun e s' => R (.error e) s') s := by
  have hSI : S ≠ s.heap.objs.size := Nat.ne_of_lt (Heap.lt_size hS)
  have hSf : S ∉ [s.heap.objs.size] := fun hm => hSI (List.mem_singleton.mp hm)
  unfold Builtin.List.listExtendWith
  refine wpAny_bind (wpAny_typeOf (T := "bytes") (v := .bytes b t) rfl ?_)
  have h1 : Builtin.List.listSameRef (.ref S) (.bytes b t) = false := rfl
  have h2 : (Value.type "bytes" == Value.type "list") = false := by decide
  have h3 : (Value.type "bytes" == Value.type "tuple") = false := by decide
  simp only [h1, h2, h3, Bool.or_false, Bool.false_eq_true, if_false]
  refine wpAny_bind (KBw.pyIter_bytes ?_)
  have W := KBw.walks (prog := prog) (w := w) (A := A.in1) hh s.heap.objs.size b t
  have hst : KBw.IsBytesIter (s.heap.push { cls := .type "bytes_iterator", data := .fields #[.bytes b t, .int 0 0] }) s.heap.objs.size b t 0 := ⟨_, Heap.get?_push_size _ rfl, rfl, rfl⟩
  refine wpAny_bind (wpAny_holding ?_)
  unfold Builtin.List.listLengthHint
  refine wpAny_bind (wpAny_specialOf (T := "bytes") (v := .bytes b t) rfl by_len_lk ?_)
  wp_delta
  refine wpAny_bind (wpAny_isInstance (T := "bytes") (v := .bytes b t) (b := true) rfl (by rw [isSubtype_type]; kernel_rfl) ?_)
  show wpAny _ _ (typeOf (Value.bytes b t) >>= _) _ _ _
  refine wpAny_bind (wpAny_typeOf (T := "bytes") (v := .bytes b t) rfl ?_)
  refine wpAny_pure ?_
  rw [if_neg (by decide)]
  refine wpAny_pure ⟨plainId_quiet F.plain_extend_loop _, codeAny_extend_loopS W.toS hn _ hSf _ b.size 0 _ _ _ rfl (Nat.zero_le _) hst (Heap.get?_push_of_some _ hS) (ItemsOf.nil _) fun s' acc' c' hm hS' hacc => ?_⟩
  rw [Moved.eq_with hm]
  refine hR s'.heap s'.toks acc' c' (fun x ob hb e => hm.heap x ob (fun hmem => ?_) (Heap.get?_push_of_some _ e)) hS' hacc
  rcases List.mem_cons.mp hmem with e' | hmem
  · exact hb e'
  · exact absurd (Heap.lt_size e) (by rw [List.mem_singleton.mp hmem]; exact Nat.lt_irrefl _)
theorem lb_init {R : Result → Shared → Prop} (hh : A.handled = none) (b : Array UInt8) (t : Tok) (S : Addr) (hS : s.heap.get? S = some { cls := .type "list", data := .seq #[] })
    (hR : ∀ h' tk acc' c', (∀ x o, x ≠ S → s.heap.get? x = some o → h'.get? x = some o) → h'.get? S = some { cls := .type "list", dict := none, data := .seq acc' c', slots := #[] } →
      ItemsOf (ByteAt b) acc' b.size → R (.ok (.ret .none)) { s with heap := h', toks := tk }) (hn : b.size ≤ sizeLine) :
    wpAny (model prog w) A.in1 (Builtin.«list.__init__» ⟨[.ref S, .bytes b t], []⟩)
      (fun fin s' => match fin with | .done f => R (.ok f) s' | .again c' => c'.quiet = true ∧ codeAny (model prog w) A c' R s') (fun e s' => R (.error e) s') s := by
  show wpAny _ _ (do let old ← Builtin.List.listItems (.ref S); Builtin.List.listUpdate (.ref S) (fun _ => #[]); letGo old.toList.reverse; Builtin.List.listExtendWith (.ref S) (.bytes b t) .none) _ _ s
  refine wpAny_bind ?_
  unfold Builtin.List.listItems
  refine wpAny_bind (wpAny_seqItems hS rfl (wpAny_pure ?_))
  show wpAny _ _ (updateSeq S (fun _ => #[]) >>= fun _ => letGo (#[] : Array Value).toList.reverse >>= fun _ => Builtin.List.listExtendWith (.ref S) (.bytes b t) .none) _ _ s
  refine wpAny_bind (wpAny_updateSeq hS rfl ?_)
  have hS₂ := Heap.get?_update_self (Obj.mapSeq (fun _ => (#[] : Array Value))) hS rfl
  have oth : ∀ x o, x ≠ S → s.heap.get? x = some o → (s.heap.update S (Obj.mapSeq (fun _ => (#[] : Array Value)))).get? x = some o :=
    fun x o hb e => (Heap.get?_update_other _ _ (Ne.symm hb)).trans e
  refine wpAny_bind (wpAny_letGo ?_)
  refine lb_extend (hn := hn) hh b t S .none _ hS₂ fun h' tk acc' c' hk hS' hacc => ?_
  exact hR h' tk acc' c' (fun x o hb e => hk x o hb (oth x o hb e)) hS' hacc
theorem lb_call {Q : Value → Shared → Prop} (hh : A.handled = none) (b : Array UInt8) (t : Tok)
    (hQ : ∀ h' tk acc' c', (∀ x o, s.heap.get? x = some o → h'.get? x = some o) →
      h'.get? s.heap.objs.size = some { cls := .type "list", dict := none, data := .seq acc' c', slots := #[] } → Q (.ref s.heap.objs.size) { s with heap := h', toks := tk }) (hn : b.size ≤ sizeLine) :
    wpAny (model prog w) A (call (.type "list") [.bytes b t]) Q E s := by
  refine callType_codes (Q₁ := fun obj s₁ => obj = .ref s.heap.objs.size ∧ s₁ = { s with heap := s.heap.push { cls := .type "list", data := .seq #[] } }) F.called_list (F.typeCall_list_1 _) F.entry_list_init
    (code_list_new _ ⟨rfl, rfl⟩) fun obj s₁ h₁ => ?_
  obtain ⟨rfl, rfl⟩ := h₁
  have hS : (s.heap.push { cls := .type "list", data := .seq #[] }).get? s.heap.objs.size = some { cls := .type "list", data := .seq #[] } := Heap.get?_push_size _ rfl
  refine ⟨⟨_, hS, rfl⟩, F.args_list_init_2 _ _, lb_init (A := A.in1) (hn := hn) hh b t _ hS fun h' tk acc' c' hk hS' hacc => ?_⟩
  exact ⟨rfl, hQ h' tk acc' c' (fun x o e => hk x o (Nat.ne_of_lt (Heap.lt_size e)) (Heap.get?_push_of_some _ e)) hS'⟩
variable {h₀ : Heap} {L : Addr} {m : PySem.Str → Option Value} {news : List (Addr × Obj)}
theorem lb_K {b : Array UInt8} {t : Tok} {ks : List Int} {Q : Value → Shared → Prop} (F : Fr h₀ L s.heap m) (N : News h₀ L s.heap news) (hh : A.handled = none) (hk : KBw.bInts b = ks) (hn : ks.length ≤ 16777216)
    (h : ∀ l vs c h' tk, Fr h₀ L h' m → News h₀ L h' ((l, listOf (List.toArray vs) c) :: news) → (∀ p ∈ news, p.1 < l) → Q (.ref l) { s with heap := h', toks := tk }) :
    wpAny (model prog w) A (call (.type "list") [.bytes b t]) Q E s := by
  subst hk
  rw [KBw.ints_length] at hn
  refine lb_call hh b t (fun h' tk acc' c' hk' hS' => ?_) (by rw [sizeLine_eq]; exact hn)
  refine h _ acc'.toList c' h' tk ⟨F.ns.keeps hk', fun x o e => hk' x o (F.keep x o e), F.above⟩ (fun q hq => ?_) (fun p hp => Heap.lt_size (N p hp).1)
  rcases List.mem_cons.mp hq with rfl | hq
  · exact ⟨hS', Nat.ne_of_gt F.ns.lt, none_sz F⟩
  · exact ⟨hk' _ _ (N q hq).1, (N q hq).2⟩
theorem tm_rmul (a : Int) (t : Tok) (l : Addr) (items : Array Value) :
    Meets (Builtin.«int.__rmul__» ⟨[.int a t, .ref l], []⟩) (fun _ R s => s.heap.get? l = some { cls := .type "tuple", data := .seq items } ∧ R (.ok (.ret Value.notImplemented)) s) :=
  .of_wp fun prog w A R s h => by obtain ⟨hp, g, d, tk, os⟩ := s; obtain ⟨hl, h⟩ := h; wp_walk; exact ⟨_, rfl, h⟩
theorem tm_noFill : fillsNumberSlot (.type "tuple") "mul" = pure false :=
  PySem.fillsNumberSlot_seq (id := "tuple.__mul__") (r := some (.builtin "tuple.__rmul__")) F.slot_tuple_mul.lookup (by decide +kernel) F.slot_tuple_rmul.lookup (by decide +kernel)
theorem tm_repeat : seqRepeat? (.type "tuple") = pure (some (.builtin "tuple.__mul__")) := by
  unfold seqRepeat?
  rw [PySem.seqSlot_of (T := "tuple") (name := "__mul__") (id := "tuple.__mul__") F.slot_tuple_mul.lookup (by decide +kernel), PySem.seqSlot_of (T := "tuple") (name := "__rmul__") (id := "tuple.__rmul__") F.slot_tuple_rmul.lookup (by decide +kernel)]
  rfl
theorem tm_items {M : Model} {l : Addr} {items : Array Value} {Q : Array Value → Shared → Prop} (hl : s.heap.get? l = some { cls := .type "tuple", data := .seq items }) (h : Q items s) : wpAny M A (Builtin.Tuple.tupleItemsOf (.ref l)) Q E s := by
  refine Classical.byContradiction fun nO => ?_
  obtain ⟨hp, g, d, tk, os⟩ := s
  refine nO ?_
  unfold Builtin.Tuple.tupleItemsOf
  refine wpAny_bind ?_
  wp_walk
  exact h
theorem tm_mul {Q : Value → Shared → Prop} {l : Addr} {items : Array Value} {x : Int} {u : Tok} (hl : s.heap.get? l = some { cls := .type "tuple", data := .seq items }) (h0 : 0 ≤ x) (h1 : x ≤ 1000) (hz : items.size ≤ 1000)
    (h : ∀ v s', (v = .ref l ∧ s' = s) ∨ (∃ ws : Array Value, v = .ref s.heap.objs.size ∧ s' = { s with heap := s.heap.push { cls := .type "tuple", data := .seq ws } }) → Q v s') :
    wpAny (model prog w) A (Builtin.«tuple.__mul__» ⟨[.ref l, .int x u], []⟩)
      (fun fin s' => ∃ v, fin = .done (.ret v) ∧ Q v s') E s := by
  have hT : s.TypeIs (.ref l) "tuple" := ⟨_, hl, rfl⟩
  show wpAny _ _ (asIndex (.int x u) >>= _) _ _ _
  refine wpAny_bind (wpAny_of_eq (rfl : asIndex (.int x u) = pure x) ?_)
  refine bm_if_false (by simp only [Bool.or_eq_false_iff, decide_eq_false_iff_not]; (first | lia | omega)) ?_
  refine wpAny_bind (tm_items hl ?_)
  have tail : wpAny (model prog w) A (if (decide (x ≤ 0) || items.isEmpty) = true then do ret (← Builtin.Tuple.tupleExact #[]) else do
      if ((items.size : Int) * x) > (2 ^ 63 - 1) / 8 then do rule "tuple.repeat.no-memory"; raiseNew (← newExc (.type "MemoryError") [])
      if Builtin.Tuple.tupleTooMany (items.size * x) then unsupported "tuple.__mul__:memory"
      ret (← Builtin.Tuple.tupleExact ((List.replicate x.toNat items).foldl (· ++ ·) #[])))
      (fun fin s' => ∃ v, fin = .done (.ret v) ∧ Q v s') E s := by
    cases hc : (decide (x ≤ 0) || items.isEmpty) with
    | true =>
      refine bm_if_true rfl ?_
      exact wpAny_bind (wpAny_newObj_type (wpAny_pure ⟨_, rfl, h _ _ (.inr ⟨_, rfl, rfl⟩)⟩) (by size_fits))
    | false =>
      have hb : (items.size : Int) * x ≤ 1000000 := by
        have := Int.mul_le_mul (show (items.size : Int) ≤ 1000 by (first | lia | omega)) h1 h0 (by (first | lia | omega))
        (first | lia | omega)
      refine bm_if_false rfl ?_
      rw [if_neg (by (first | lia | omega))]
      refine bm_if_false (by unfold Builtin.Tuple.tupleTooMany; rw [sizeLine_eq]; exact decide_eq_false (by (first | lia | omega))) ?_
      refine wpAny_bind (wpAny_newObj_type (wpAny_pure ⟨_, rfl, h _ _ (.inr ⟨_, rfl, rfl⟩)⟩) ?_)
      show (List.foldl (fun x1 x2 => x1 ++ x2) #[] (List.replicate x.toNat items)).size ≤ sizeLine
      rw [AutoListH.size_joined, sizeLine_eq, Array.size_empty]
      have e : ((x.toNat * items.size : Nat) : Int) = (items.size : Int) * x := by rw [Int.natCast_mul, Int.toNat_of_nonneg h0, Int.mul_comm]
      (first | lia | omega)
  cases he : (items.isEmpty || x == 1) with
  | true =>
    refine bm_if_true rfl ?_
    refine wpAny_bind (wpAny_bind (wpAny_typeOf hT (wpAny_pure ?_)))
    refine bm_if_true (by decide) ?_
    exact wpAny_bind (wpAny_rule (wpAny_pure ⟨_, rfl, h _ _ (.inl ⟨rfl, rfl⟩)⟩))
  | false => exact bm_if_false rfl tail
theorem tm_K {l : Addr} {vs : List Value} {x : Int} {u : Tok} {Q : Value → Shared → Prop} (Fm : Fr h₀ L s.heap m) (N : News h₀ L s.heap news) (hm : (l, tupObj vs) ∈ news) (h0 : 0 ≤ x) (h1 : x ≤ 1000) (hz : vs.length ≤ 1000)
    (h : ∀ D ws h' tk, Fr h₀ L h' m → News h₀ L h' ((D, tupObj ws) :: news) → (D = l ∨ ∀ p ∈ news, p.1 < D) → Q (.ref D) { s with heap := h', toks := tk }) :
    wpAny (model prog w) A (binaryOp .Mult (.ref l) (.int x u)) Q E s := by
  have hl := (N _ hm).1
  refine wpAny_binaryOp_repeat_ref (T := "tuple") (U := "int") (by decide) ⟨_, hl, rfl⟩ (fun s' => typeIs_int s' x u) tm_noFill F.fills_int_mul F.slot_int_rmul tm_repeat F.slot_int_index.lookup
    (call_meets F.slot_int_rmul (typeIs_int s x u) F.entry_int_rmul (F.args_int_rmul_2 _ _) (tm_rmul x u l _) ⟨hl, rfl, ⟨_, hl, rfl⟩, ?_⟩)
  refine wpAny_call_entry F.slot_tuple_mul ⟨_, hl, rfl⟩ F.entry_tuple_mul (tm_mul hl h0 h1 (by simpa using hz) fun v s' hv => ?_) (F.args_tuple_mul_2 _ _)
  rcases hv with ⟨rfl, rfl⟩ | ⟨ws, rfl, rfl⟩
  · exact (h l vs s'.heap s'.toks Fm (fun q hq => by
      rcases List.mem_cons.mp hq with rfl | hq
      · exact N _ hm
      · exact N q hq) (.inl rfl))
  · have N' := N.push Fm (tupObj ws.toList)
    exact h _ ws.toList _ s.toks (Fm.push _) N' (.inr fun p hp => Heap.lt_size (N p hp).1)
end

theorem ba_set_clean (as : Args) : cleanC (.builtin "bytearray.__setitem__" as) = true := by kernel_rfl
theorem by_no (n : PySem.Str) (h : n = "__index__" ∨ n = "__int__" ∨ n = "__float__") : typeLookup (.type "bytes") n = pure none := by
  rcases h with rfl | rfl | rfl <;> (rw [typeLookup_type, builtinLookup_eq_fast]; kernel_rfl)
theorem by_noBa : isSubtype (.type "bytes") (.type "bytearray") = pure false := by rw [isSubtype_type]; kernel_rfl
theorem by_noCx : isSubtype (.type "bytes") (.type "complex") = pure false := by rw [isSubtype_type]; kernel_rfl
noncomputable abbrev sliceAll : Obj := { cls := .type "slice", data := .fields #[.none, .none, .none] }
section
variable {prog : Program} {w : PySem.World} {A : Around} {E : Value → Shared → Prop} {s : Shared} {h₀ : Heap} {L l sl : Addr} {m : PySem.Str → Option Value} {news news' : List (Addr × Obj)} {b b' : Array UInt8} {t : Tok}
theorem sliceParts_all {M : Model} {Q : Value × Value × Value → Shared → Prop} (hs : s.heap.get? sl = some sliceAll) (h : Q (.none, .none, .none) s) : wpAny M A (Builtin.Bytes.sliceParts (.ref sl)) Q E s := by
  unfold Builtin.Bytes.sliceParts
  refine wpAny_bind (wpAny_field (x := .none) hs rfl rfl ?_)
  refine wpAny_bind (bm_if_true rfl (wpAny_pure ?_))
  refine bm_if_false rfl ?_
  refine wpAny_bind (wpAny_field (x := .none) hs rfl rfl ?_)
  refine wpAny_bind (bm_if_true rfl (wpAny_pure ?_))
  refine wpAny_bind (wpAny_field (x := .none) hs rfl rfl ?_)
  refine wpAny_bind (bm_if_true rfl (wpAny_pure ?_))
  exact wpAny_pure h
theorem ba_setAll_in {Q : PySem.Fin → Shared → Prop} (F : Fr h₀ L s.heap m) (N : News h₀ L s.heap news) (hm : (l, baObj b) ∈ news) (hs : (sl, sliceAll) ∈ news) (hz : b'.size ≤ 16777216)
    (h : ∀ l2 h1 f, Fr h₀ L h1 m → News h₀ L h1 ((l2, baObj b') :: news) → (∀ p ∈ news, p.1 < l2) → f b = b' → Q (.done (.ret .none)) { s with heap := h1.update l (Obj.mapBytearray f) }) :
    wpC (model prog w) A (Builtin.«bytearray.__setitem__» ⟨[.ref l, .ref sl, .bytes b' t], []⟩) Q E s := by
  have hl := (N _ hm).1
  have hsl := (N _ hs).1
  have hT : s.TypeIs (.ref sl) "slice" := ⟨_, hsl, rfl⟩
  have hTb : s.TypeIs (.bytes b' t) "bytes" := typeIs_bytes _ _ _
  unfold Builtin.«bytearray.__setitem__»
  refine wpC_no rfl ?_
  dsimp only
  refine wpC_bindA ?_
  unfold Builtin.Bytes.subscript?
  refine wpAny_bind (wpAny_specialOf hT slice_no_index (wpAny_pure ?_))
  dsimp only
  refine wpC_bindA (wpAny_typeOf hT ?_)
  refine wpC_no rfl ?_
  refine wpC_bindA (sliceParts_all hsl ?_)
  refine wpC_bindA ?_
  refine wpAny_isInstance hTb by_noBa ?_
  refine wpC_yes rfl ?_
  refine wpC_bindA ?_
  refine wpAny_bind (wpAny_bind (wpAny_specialOf hTb (by_no _ (.inl rfl)) (wpAny_pure ?_)))
  refine wpAny_bind (wpAny_bind (wpAny_specialOf hTb (by_no _ (.inr (.inl rfl))) (wpAny_pure ?_)))
  refine wpAny_bind (wpAny_bind (wpAny_specialOf hTb (by_no _ (.inr (.inr rfl))) (wpAny_pure ?_)))
  refine wpAny_isInstance hTb by_noCx ?_
  refine wpC_bindEq (a := none) rfl ?_
  refine wpC_no rfl ?_
  refine wpC_bindA (wpAny_rule ?_)
  refine wpC_bind (ba_bytes F N hz fun l2 h1 F1 N1 l1 => ?_)
  have hsl1 := (N1 _ (.tail _ hs)).1
  have hl1 := (N1 _ (.tail _ hm)).1
  have hl2 := (N1 _ (.head _)).1
  refine wpC_bind (wpC_holding (wpC_any (sliceParts_all hsl1 ?_)))
  refine wpC_bindA (ba_payload hl2 ?_)
  refine wpC_bindA (ba_payload hl1 ?_)
  refine wpC_bindEq (a := (0, (b.size : Int), 1)) ?_ ?_
  · have e := sliceIndices_raw none none none b.size (fun e => nomatch e)
    exact e.trans (by rw [sliceBounds_plain]; rfl)
  refine wpC_yes rfl (wpC_bindA (wpAny_rule ?_))
  have hf : ∀ x : Array UInt8, x.extract 0 (0 : Int).toNat ++ b' ++ x.extract (max (0 : Int) (b.size : Int)).toNat x.size = b' ++ x.extract b.size x.size := fun x => by simp
  have hw : ∀ Q' : PySem.Fin → Shared → Prop, Q' (.done (.ret .none)) { s with heap := h1.update l (Obj.mapBytearray fun x => x.extract 0 (0 : Int).toNat ++ b' ++ x.extract (max (0 : Int) (b.size : Int)).toNat x.size) } → wpC (model prog w) A (do
      Builtin.Bytes.write (.ref l) fun x => x.extract 0 (0 : Int).toNat ++ b' ++ x.extract (max (0 : Int) (b.size : Int)).toNat x.size
      ret .none) Q' E { s with heap := h1 } := fun Q' hq => by
    refine wpC_bindA (ba_write hl1 ?_ (wpC_pure hq))
    rw [hf, sizeLine_eq]; simp; (first | lia | omega)
  have hq := h l2 h1 (fun x => x.extract 0 (0 : Int).toNat ++ b' ++ x.extract (max (0 : Int) (b.size : Int)).toNat x.size) F1 N1 l1 (by simp)
  by_cases hc : ((b'.size : Int) != max 0 (b.size : Int) - 0) = true
  · refine wpC_yes hc (wpC_bind ?_)
    unfold Builtin.Bytes.checkResize
    refine wpC_bind (wpC_bind (exported_clean ?_))
    show wpC _ _ (Builtin.Bytes.exportsOf (.ref l) >>= fun x => pure (decide (x > 0))) _ _ _
    exact wpC_bindA (wpAny_bind (wpAny_load hl1 (wpAny_pure (wpC_pure (wpC_no rfl (wpC_pure (hw _ hq)))))))
  · exact wpC_no (Bool.eq_false_iff.mpr hc) (hw _ hq)
theorem ba_setAll {Q : Unit → Shared → Prop} (F : Fr h₀ L s.heap m) (N : News h₀ L s.heap news) (U : Upd l (baObj b) (baObj b') news news') (hs : (sl, sliceAll) ∈ news) (hz : b'.size ≤ 16777216)
    (h : ∀ h', Fr h₀ L h' m → News h₀ L h' news' → Q () { s with heap := h' }) : wpC (model prog w) A (setItem (.ref l) (.ref sl) (.bytes b' t)) Q E s := by
  refine Classical.byContradiction fun nO => ?_
  obtain ⟨pre, post, rfl, rfl, a, c⟩ := U.split
  refine nO ?_
  have hm : (l, baObj b) ∈ pre ++ (l, baObj b) :: post := List.mem_append.mpr (.inr (.head _))
  have hT : s.TypeIs (.ref l) "bytearray" := ⟨_, (N _ hm).1, rfl⟩
  unfold setItem
  refine wpC_holding ?_
  refine wpC_bindA (wpAny_sequenceKey hT (by decide) ?_)
  refine wpC_bind ?_
  unfold callSpecial?
  refine wpC_bindA (wpAny_specialOf hT ba_set_slot.lookup (wpC_holding ?_))
  refine wpC_bindEq (ba_set_slot.bind _) (wpC_bind (wpC_call (codeC_call_builtin ba_set_slot.plain (ba_set_clean _) ba_set_entry (ba_set_slot.check _ _ _ _ _ _ _ _ hT (ba_set_args _ _ _) ?_))))
  refine ba_setAll_in F N hm hs hz fun l2 h1 f F1 N1 l1 e => wpC_pure (wpC_pure ?_)
  have N2 : News h₀ L h1 (((l2, baObj b') :: pre) ++ (l, baObj b) :: post) := N1
  obtain ⟨U1, U2⟩ := news_upd (o' := baObj b') (f := Obj.mapBytearray f) F1 N2 (fun q hq => (List.mem_cons.mp hq).elim (fun e => by subst e; exact Nat.ne_of_gt (l1 _ hm)) (a q)) c (by show Obj.mapBytearray f (baObj b) = _; unfold Obj.mapBytearray; simp [e]) rfl
  exact h _ U1 fun q hq => U2 q (.tail _ hq)
end
noncomputable def setAll (ov v : Value) (p pos : Pos) (env : Env) : Sem Unit := do
  let iv ← holding [v, ov] (eval (.Slice none none none p) env)
  standAt pos
  holding [v, ov, iv] (setItem ov iv v)
  release [iv, v, ov] []
theorem c_setAll {M : Model} {A : Around} {E : Value → Shared → Prop} {s : Shared} {env : Env} {o : PySem.Expr} {p pos : Pos} {v : Value} {Q : Unit → Shared → Prop} (h : wpAny M A (eval o env) (fun ov s₁ => wpC M A (setAll ov v p pos env) Q E s₁) E s) : wpC M A (assign (.Subscript o (.Slice none none none p) pos) env v) Q E s := by
  rw [arm_assign_Subscript]
  exact wpC_bind (wpC_holding (wpC_any h))
theorem setAll_K {prog : Program} {w : PySem.World} {A : Around} {E : Value → Shared → Prop} {s : Shared} {h₀ : Heap} {L l : Addr} {m : PySem.Str → Option Value} {news news' : List (Addr × Obj)} {b b' : Array UInt8} {bs : List Int} {t : Tok} {p pos : Pos} {env : Env} {Q : Unit → Shared → Prop} (F : Fr h₀ L s.heap m) (N : News h₀ L s.heap news) (U : Upd l (baObj b) (baObj b') news news') (hb : KBw.bInts b' = bs) (hz : bs.length ≤ 1000)
    (h : ∀ h', Fr h₀ L h' m → News h₀ L h' news' → Q () { s with heap := h' }) : wpC (model prog w) A (setAll (.ref l) (.bytes b' t) p pos env) Q E s := by
  unfold setAll
  refine wpC_bindA (wpAny_holding ?_)
  rw [arm_eval_Slice]
  refine wpAny_bind (wpAny_pure (wpAny_bind (wpAny_holding (wpAny_pure (wpAny_bind (wpAny_holding (wpAny_pure ?_)))))))
  refine wpAny_bind (wpAny_alloc (wpAny_pure ?_))
  have N1 := N.push F sliceAll
  have hsz : b'.size ≤ 16777216 := by rw [← KBw.ints_length, hb]; (first | lia | omega)
  refine wpC_bindA (wpAny_standAt (wpC_bind (wpC_holding ?_)))
  refine ba_setAll (s := { s with heap := s.heap.push sliceAll }) (F.push _) N1 (Upd.tail ?_ U) (.head _) hsz fun h' F' N' => wpC_any (wpAny_release (h _ F' fun q hq => N' q (.tail _ hq)))
  refine Classical.byContradiction fun nO => ?_
  obtain ⟨pre, post, rfl, -, -, -⟩ := U.split
  refine nO ?_
  exact Nat.ne_of_gt (Heap.lt_size (N (l, baObj b) (List.mem_append.mpr (.inr (.head _)))).1)

noncomputable abbrev pen (x y : Int) (tx ty : Tok) (c : Nat) : Obj := listOf #[.int x tx, .int y ty] c
noncomputable abbrev big : Int := 10 ^ 200
theorem draw_mod {x n : Int} (h : 1 ≤ n) : 0 ≤ x.fmod n ∧ x.fmod n < n := by
  rw [Int.fmod_eq_emod_of_nonneg x (by (first | lia | omega))]
  exact ⟨Int.emod_nonneg x (by (first | lia | omega)), Int.emod_lt_of_pos x (by (first | lia | omega))⟩
theorem draw_div {x n : Int} (h : 1 ≤ n) (h0 : 0 ≤ x) (hb : x < big) : 0 ≤ x.fdiv n ∧ x.fdiv n < big := by
  rw [Int.fdiv_eq_ediv_of_nonneg x (by (first | lia | omega))]
  exact ⟨Int.ediv_nonneg h0 (by (first | lia | omega)), Int.lt_of_le_of_lt (Int.ediv_le_self n h0) hb⟩
theorem draw_pow {y : Int} (h0 : 0 ≤ y) (h1 : y < 2 ^ 20) : 0 ≤ (2066 * (y + 1) + 8269) ^ 11 ∧ (2066 * (y + 1) + 8269 : Int) ^ 11 < big := by
  have a : 0 ≤ 2066 * (y + 1) + 8269 := by (first | lia | omega)
  have b : 2066 * (y + 1) + 8269 ≤ 2 ^ 32 := by (first | lia | omega)
  refine ⟨Int.pow_nonneg a, ?_⟩
  generalize 2066 * (y + 1) + 8269 = z at a b
  obtain ⟨n, rfl⟩ := Int.eq_ofNat_of_zero_le a
  have b' : n ≤ 2 ^ 32 := by (first | lia | omega)
  have q : n ^ 11 ≤ (2 ^ 32) ^ 11 := Nat.pow_le_pow_left b' 11
  have e : ((n : Int) ^ 11) = ((n ^ 11 : Nat) : Int) := by rw [Int.natCast_pow]
  rw [e]
  have r : (2 ^ 32) ^ 11 < 10 ^ 200 := by decide
  have : (n ^ 11 : Nat) < 10 ^ 200 := Nat.lt_of_le_of_lt q r
  show ((n ^ 11 : Nat) : Int) < big
  have hb : big = ((10 ^ 200 : Nat) : Int) := by decide
  rw [hb]
  exact Int.ofNat_lt.mpr this
noncomputable def dX (p : Int × Int) : Int := if p.1 = 0 then (2066 * (p.2 + 1) + 8269) ^ 11 else p.1
noncomputable def dgt (p : Int × Int) (many : Int) : Int := (dX p).fmod many
noncomputable def nxt (p : Int × Int) (many : Int) : Int × Int := ((dX p).fdiv many, if p.1 = 0 then p.2 + 1 else p.2)
noncomputable def TabOk (ps : Array Value) (qual : PySem.Str) (codes : List (Addr × Obj)) : Prop :=
  TriplesOk ps.toList ∧ ∀ pos cv, codeAmong pos ps.toList = some cv → ∃ c' oc vs t, cv = .ref c' ∧ (c', oc) ∈ codes ∧ oc.data = .fields vs ∧ vs[1]? = some (.str qual t)
theorem TabOk.nil {qual : PySem.Str} : TabOk #[] qual [] := ⟨trivial, fun pos cv h => by cases h⟩
theorem TabOk.more {ps : Array Value} {qual : PySem.Str} {codes codes' : List (Addr × Obj)} (h : TabOk ps qual codes) (k : ∀ q ∈ codes, q ∈ codes') : TabOk ps qual codes' :=
  ⟨h.1, fun pos cv e => by obtain ⟨c', oc, vs, t, a, b, r⟩ := h.2 pos cv e; exact ⟨c', oc, vs, t, a, k _ b, r⟩⟩
theorem among_snoc {pos p : Pos} {c v : Value} : ∀ (l : List Value), TriplesOk l → codeAmong p (l ++ [rawInt pos.line, rawInt pos.col, c]) = some v → codeAmong p l = some v ∨ v = c := by
  intro l
  fun_induction TriplesOk l with
  | case1 =>
    intro _ h
    simp only [List.nil_append, codeAmong, rawInt] at h
    split at h
    · exact .inr (Option.some.inj h).symm
    · cases h
  | case2 a _ b _ x rest ih =>
    intro ht h
    simp only [List.cons_append, codeAmong] at h ⊢
    split at h
    · rename_i q; rw [if_pos q]; exact .inl h
    · rename_i q; rw [if_neg q]; exact ih ht h
  | case3 => intro ht; exact ht.elim
theorem triples_snoc {a b : Int} {t u : Tok} {c : Value} : ∀ (l : List Value), TriplesOk l → TriplesOk (l ++ [.int a t, .int b u, c]) := by
  intro l
  fun_induction TriplesOk l with
  | case1 => intro _; exact trivial
  | case2 a _ b _ x rest ih => intro ht; exact ih ht
  | case3 => intro ht; exact ht.elim
theorem TabOk.push {ps : Array Value} {qual : PySem.Str} {codes : List (Addr × Obj)} {pos : Pos} {c' : Addr} {oc : Obj} {vs : Array Value} {t : Tok} (h : TabOk ps qual codes) (h1 : oc.data = .fields vs) (h2 : vs[1]? = some (.str qual t)) :
    TabOk (ps ++ #[rawInt pos.line, rawInt pos.col, .ref c']) qual ((c', oc) :: codes) := by
  have e : (ps ++ #[rawInt pos.line, rawInt pos.col, .ref c']).toList = ps.toList ++ [rawInt pos.line, rawInt pos.col, .ref c'] := by simp
  refine ⟨by rw [e]; exact triples_snoc _ h.1, fun p cv q => ?_⟩
  rw [e] at q
  rcases among_snoc _ h.1 q with q | rfl
  · obtain ⟨c1, o1, v1, t1, a, b, r⟩ := h.2 p cv q
    exact ⟨c1, o1, v1, t1, a, .tail _ b, r⟩
  · exact ⟨c', oc, vs, t, rfl, .head _, h1, h2⟩

section
variable {b : Bool} {prog : Program} {w : PySem.World} {A A₀ : Around} {s : Shared} {K : Frag} {L : Addr} {h₀ base : Heap} {m mg mb : PySem.Str → Option Value} {news : List (Addr × Obj)} {p : Program} {loose : List PySem.Str} {mean : ExcName → Option Value} {R : Result → Shared → Prop}
theorem codeX_expr {e : PySem.Expr} {env : Env}
    (h : wpX b (model prog w) (A.deeper env) (eval e env) (fun v s' => R (.ok (.ret v)) s')
      (fun e' s' => wpAny (model prog w) (A.deeper env) (leaving env e') (fun _ s'' => R (.error e') s'') (fun e'' s'' => R (.error e'') s'') s') s) :
    codeX b (model prog w) A (.expr e env) R s := by
  refine codeX_of_tree rfl ?_
  show wpX b _ (A.deeper env) (do point; ret (← (eval e env).onRaise (leaving env))) _ _ s
  exact wpX_bindA (wpAny_point (wpX_bind (wpX_onRaise (wpX_mono h (fun v s' h' => wpX_pure h') fun _ _ h' => wpX_any h'))))
theorem codeX_lam {env : Env} {outer : List Env} {name qual : PySem.Str} {params : Arguments} {body : PySem.Expr} {scope : Scope} {cl : List (PySem.Str × Addr)} {pm ctv : Value} {c' : Addr} {f : Addr} {args : Args} {binds : List (PySem.Str × Value)}
    (B : Below A₀ base outer h₀) (F : Fr h₀ L s.heap m) (X₀ : K.In h₀) (N : News h₀ L s.heap news) (T : Top p loose mean mg mb h₀) (hA : A.frames = some (env :: outer)) (hf : env.frame = some L) (hke : env.scope.kind = .function)
    (ho : (f, PySem.W.kla_obj name qual params body scope cl pm c' ctv) ∈ news) (hcd : s.heap.CodeRec (.ref c') qual) (hroom : A.depth < recursionLimit)
    (hbind : bindArgs (PySem.W.kla_fn name qual params body scope cl pm (.ref c') ctv) args = pure binds) (hloc : ∀ y ∈ binds, scope.names.lookup y.1 = some .local)
    (h : ∀ g L' h₁, Fr h₀ L g m → Fr g L' h₁ (fun y => binds.reverse.lookup y) → News g L' h₁ news → Below A base (env :: outer) g → K.In g → Top p loose mean mg mb g →
      wpX b (model prog w) (A.deeper (envX qual scope L' f (.ref c') cl)) (eval body (envX qual scope L' f (.ref c') cl))
        (fun v s' => LeaveK h₀ L m g R v s')
        (fun e s' => wpAny (model prog w) (A.deeper (envX qual scope L' f (.ref c') cl)) (leaving (envX qual scope L' f (.ref c') cl) e) (fun _ s'' => R (.error e) s'') (fun e' s'' => R (.error e') s'') s')
        { s with heap := h₁, toks := s.toks + binds.length })
    (hco : scope.isCoroutine = false) (hgen : scope.isGenerator = false) (hk : scope.kind = .function)
    (hcell : ∀ x ∈ scope.names, x.2 ≠ .cell) : codeX b (model prog w) A (.call (.ref f) args) R s := by
  refine Classical.byContradiction fun nO => ?_
  obtain ⟨FG, BG, st, lv⟩ := groundX (R := R) B F N hA hf hke
  refine nO ?_
  refine codeX_of_tree rfl (wpX_any ?_)
  show wpAny _ A.in1 (callAny (.ref f) args) _ _ s
  refine wpAny_bind (m := load f) (wpAny_load (N _ ho).1 ?_)
  refine Classical.byContradiction fun nO => ?_
  obtain ⟨c, oc, vs, tq, hc, hoc, hdc, hq⟩ := hcd
  refine nO ?_
  cases hc
  have hbind' := hbind
  show wpAny _ _ (callFunction f (PySem.W.kla_fn name qual params body scope cl pm (.ref c') ctv) args) _ _ _
  delta callFunction
  dsimp only
  rw [hco, hgen]
  refine wpAny_bind (m := field (.ref c') 1) (wpAny_field hoc hdc hq (wpAny_bind (wpAny_pure ?_)))
  rw [hbind']
  refine wpAny_bind (wpAny_pure (wpAny_bind (wpAny_newFunctionEnv hcell hloc (fun h₁ hns hsb => ?_) hk)))
  have hk₁ : ∀ b o, s.heap.get? b = some o → h₁.get? b = some o := fun b o e => hsb.extBut b o (Nat.ne_of_lt (Heap.lt_size e)) (Heap.get?_push_of_some _ e)
  refine wpAny_bind (wpAny_enterFrame (((T.nolimit).keeps F.keep).fresh _ hsb) hroom (wpAny_pure (And.intro rfl ?_)))
  show codeX b _ _ (.expr body (envX qual scope s.heap.objs.size f (.ref c') cl)) _ _
  exact codeX_expr (wpX_mono (h _ s.heap.objs.size h₁ FG ⟨hns, fun b o e => hk₁ b o (of_hideAll _ e), Nat.le_of_eq (hideAll_size _ _)⟩
    (fun p hp => ⟨hk₁ _ _ (N p hp).1, Nat.ne_of_lt (Heap.lt_size (N p hp).1), hideAll_none _ (List.mem_map_of_mem hp)⟩) BG (X₀.keeps st) (T.keeps st)) (fun v s' hl => lv _ _ hl) fun _ _ y => y)
end

section
variable {P : Prop}
theorem no_k (h : false = true) : P := Bool.noConfusion h
theorem no_o {β : Type} {b : β} (h : none = some b) : P := nomatch h
theorem and_k {a b : Bool} (h : (a && b) = true) (K : a = true → b = true → P) : P := by
  cases a with
  | true => exact K rfl h
  | false => exact no_k h
theorem dec_k {p : Prop} [Decidable p] {b : Bool} (h : (decide p && b) = true) (K : p → b = true → P) : P := and_k h fun h1 => K (of_decide_eq_true h1)
noncomputable def orO {α : Type} (o : Option α) (f : α → Bool) (e : Bool) : Bool := Option.rec e f o
theorem orO_k {α : Type} {o : Option α} {f : α → Bool} {e : Bool} (h : orO o f e = true) (K : ∀ a, o = some a → f a = true → P) (K' : e = true → P) : P := by
  cases o with
  | some a => exact K a rfl h
  | none => exact K' h
noncomputable abbrev onO {α : Type} (o : Option α) (f : α → Bool) : Bool := orO o f false
theorem onO_k {α : Type} {o : Option α} {f : α → Bool} (h : onO o f = true) (K : ∀ a, o = some a → f a = true → P) : P := orO_k h K no_k
noncomputable def opO {α β : Type} (o : Option α) (f : α → Option β) : Option β := Option.rec none f o
theorem opO_k {α β : Type} {o : Option α} {f : α → Option β} {b : β} (h : opO o f = some b) (K : ∀ a, o = some a → f a = some b → P) : P := by
  cases o with
  | some a => exact K a rfl h
  | none => exact no_o h
noncomputable def opB {β : Type} (a : Bool) (f : Option β) : Option β := Bool.rec none f a
theorem opB_k {β : Type} {a : Bool} {f : Option β} {b : β} (h : opB a f = some b) (K : a = true → f = some b → P) : P := by
  cases a with
  | true => exact K rfl h
  | false => exact no_o h
noncomputable def orB {β : Type} (a : Bool) (f e : β) : β := Bool.rec e f a
theorem orB_k {β : Type} {a : Bool} {f e b : β} (h : orB a f e = b) (K : a = true → f = b → P) (K' : a = false → e = b → P) : P := by
  cases a with
  | true => exact K rfl h
  | false => exact K' rfl h
end
noncomputable def orP {β : Type} (a b : Option β) : Option β := Option.rec b some a
theorem orP_k {β : Type} {a b : Option β} {x : β} (h : orP a b = some x) {P : Prop} (K : a = some x → P) (K' : b = some x → P) : P := by
  cases a with
  | some y => exact K h
  | none => exact K' h
theorem dco_k {β : Type} {p : Prop} [Decidable p] {f : Option β} {b : β} {P : Prop} (h : opB (decide p) f = some b) (K : p → f = some b → P) : P := opB_k h fun h1 => K (of_decide_eq_true h1)
noncomputable def obind {α β : Type} (o : Option α) (f : α → Option β) : Option β := Option.rec none f o

noncomputable abbrev hashF (ks : List Int) : Int := List.foldl (fun a' k' => Builtin.bitAnd (Builtin.bitXor a' k' * 16777619) 4294967295) 2166136261 ks
inductive SI where
  | lit (n : Int) | var (i : Nat) (off : Int) | hx (i n : Nat) | hxa (i n : Nat) | hxm (i n : Nat) | rng (a b : Int) | any
inductive SB where
  | lit (l : List SI) | var (i : Nat) | any | ln (x : SI)
inductive SV where
  | none | bool (b : Bool) | int (i : SI) | str (s : PySem.Str) | bytes (b : SB) | ref (i : Nat) | obj (a : Nat) | ty (t : String) | bi (f : String) | foul (i : Nat) | strA
inductive SO where
  | inst (C d : Nat) | sd (es : List (PySem.Str × SV)) | idict (kvs : List (Int × SV)) | list (vs : List SV) | tup (vs : List SV) | ba (b : SB) | rgo (n : Int) | rit (x left : Int) | lit (l i : Nat) | exc (j : Nat) | excd (what : PySem.Str) | cell (v : SV) | cell0 | opq (i : Nat) | idictF (kvs : List (Int × SV)) (j : Nat) | seqA (t : String) | bit (b : SB) (i : Nat) | pen (j : Nat) | penA (n : Nat) | tab (q : PySem.Str) | lam (body : PySem.Expr) (scope : Scope) (q : PySem.Str) (m : List (PySem.Str × SV))
structure St where
  nx : Nat
  heap : List (Nat × SO)
  loc : List (PySem.Str × SV)
structure Cs where
  ι : Nat → Int
  β : Nat → List Int
  φ : Nat → Value
  /-- the numbers of the pen, draw by draw -/
  π : Nat → Int × Int
  /-- draws made before -/
  nb : Nat
structure Vl where
  n : Nat
  ρ : Nat → Addr
  ω : Nat → Obj
  z : Shared
  /-- what else lies on the ledger -/
  r : List (Addr × Obj)
noncomputable def Same (z s : Shared) : Prop := ({ s with heap := z.heap, toks := z.toks } : Shared) = z
structure Vl.le (V V' : Vl) : Prop where
  a : V.n ≤ V'.n
  r : ∀ i < V.n, V'.ρ i = V.ρ i
  w : ∀ i < V.n, V'.ω i = V.ω i
  z : V'.z = V.z
  j : ∀ p ∈ V.r, p ∈ V'.r
theorem Vl.le_refl (V : Vl) : V.le V := ⟨Nat.le_refl _, fun _ _ => rfl, fun _ _ => rfl, rfl, fun _ h => h⟩
theorem Vl.le_trans {V V' V'' : Vl} (h : V.le V') (h' : V'.le V'') : V.le V'' := ⟨Nat.le_trans h.1 h'.1, fun i hi => (h'.2 i (Nat.lt_of_lt_of_le hi h.1)).trans (h.2 i hi), fun i hi => (h'.3 i (Nat.lt_of_lt_of_le hi h.1)).trans (h.3 i hi), h'.4.trans h.4, fun p hp => h'.5 p (h.5 p hp)⟩
noncomputable def IRel (C : Cs) (x : Int) : SI → Prop
  | .lit n => x = n
  | .var i o => x = C.ι i + o
  | .hx i n => x = hashF (List.replicate n (C.ι i))
  | .hxa i n => x = Builtin.bitXor (hashF (List.replicate n (C.ι i))) (C.ι i)
  | .hxm i n => x = Builtin.bitXor (hashF (List.replicate n (C.ι i))) (C.ι i) * 16777619
  | .rng a b => a ≤ x ∧ x ≤ b
  | .any => True
inductive All2 {α β : Type} (R : α → β → Prop) : List α → List β → Prop
  | nil : All2 R [] []
  | cons {a : α} {b : β} {as : List α} {bs : List β} : R a b → All2 R as bs → All2 R (a :: as) (b :: bs)
theorem All2.imp {α β : Type} {R S : α → β → Prop} (h : ∀ a b, R a b → S a b) {as : List α} {bs : List β} (x : All2 R as bs) : All2 S as bs := by
  induction x with
  | nil => exact .nil
  | cons x _ ih => exact .cons (h _ _ x) ih
theorem All2.len {α β : Type} {R : α → β → Prop} {as : List α} {bs : List β} (x : All2 R as bs) : as.length = bs.length := by
  induction x with
  | nil => rfl
  | cons _ _ ih => exact congrArg (· + 1) ih
theorem All2.app {α β : Type} {R : α → β → Prop} {as as' : List α} {bs bs' : List β} (x : All2 R as bs) (y : All2 R as' bs') : All2 R (as ++ as') (bs ++ bs') := by
  induction x with
  | nil => exact y
  | cons x _ ih => exact .cons x ih
noncomputable def BRel (C : Cs) (b : Array UInt8) : SB → Prop
  | .lit l => All2 (IRel C) (KBw.bInts b) l
  | .var i => KBw.bInts b = C.β i
  | .any => True
  | .ln x => IRel C ((KBw.bInts b).length : Int) x ∧ (KBw.bInts b).length ≤ 1000
noncomputable def FoulV (V : Vl) (v : Value) : Prop := (∃ x t, v = .int x t) ∨ (∃ z t, v = .str z t) ∨ ∃ a o, v = .ref a ∧ (a, o) ∈ V.r ∧ (o.cls = .type "list" ∨ o.cls = .type "tuple")
noncomputable def VRel (C : Cs) (V : Vl) (v : Value) (x : SV) : Prop := SV.rec (motive := fun _ => Prop) (v = .none) (fun b => v = .bool b) (fun i => ∃ z t, v = .int z t ∧ IRel C z i) (fun s => ∃ t, v = .str s t) (fun b => ∃ z t, v = .bytes z t ∧ BRel C z b) (fun i => v = .ref (V.ρ i) ∧ i < V.n) (fun a => v = .ref a) (fun t => v = .type t) (fun f => v = .builtin f) (fun _ => FoulV V v) (∃ s t, v = .str s t) x
section
variable {C : Cs} {V : Vl}
theorem VRel.none : VRel C V .none .none := rfl
theorem VRel.bool (b : Bool) : VRel C V (.bool b) (.bool b) := rfl
theorem VRel.int {x : Int} {i : SI} (t : Tok) (h : IRel C x i) : VRel C V (.int x t) (.int i) := ⟨_, _, rfl, h⟩
theorem VRel.str (s : PySem.Str) (t : Tok) : VRel C V (.str s t) (.str s) := ⟨_, rfl⟩
theorem VRel.bytes {b : Array UInt8} {sb : SB} (t : Tok) (h : BRel C b sb) : VRel C V (.bytes b t) (.bytes sb) := ⟨_, _, rfl, h⟩
theorem VRel.ref {i : Nat} (h : i < V.n) : VRel C V (.ref (V.ρ i)) (.ref i) := ⟨rfl, h⟩
theorem VRel.obj (a : Nat) : VRel C V (.ref a) (.obj a) := rfl
theorem VRel.ty (t : String) : VRel C V (.type t) (.ty t) := rfl
theorem VRel.bi (f : String) : VRel C V (.builtin f) (.bi f) := rfl
theorem VRel.strA (s : PySem.Str) (t : Tok) : VRel C V (.str s t) .strA := ⟨_, _, rfl⟩
theorem VRel.up {V' : Vl} (l : V.le V') {v : Value} {x : SV} (h : VRel C V v x) : VRel C V' v x := by
  cases x
  case ref => exact ⟨by rw [l.2 _ h.2]; exact h.1, Nat.lt_of_lt_of_le h.2 l.1⟩
  case foul => exact h.imp_right (Or.imp_right fun h => h.elim fun a h => h.elim fun o h => ⟨a, o, h.1, l.5 _ h.2.1, h.2.2⟩)
  all_goals exact h
end
theorem VsRel.up {C : Cs} {V V' : Vl} (l : V.le V') {vs : List Value} {xs : List SV} (h : All2 (VRel C V) vs xs) : All2 (VRel C V') vs xs := h.imp fun _ _ => VRel.up l
inductive ERel (w : PySem.World) (C : Cs) (V : Vl) : List DictEntry → List (PySem.Str × SV) → Prop
  | nil : ERel w C V [] []
  | cons {name : PySem.Str} {t : Tok} {v : Value} {x : SV} {es : List DictEntry} {xs : List (PySem.Str × SV)} : VRel C V v x → ERel w C V es xs → ERel w C V ({ hash := PyData.keyHash w.params name, key := .str name t, val := v } :: es) ((name, x) :: xs)
theorem ERel.up {w : PySem.World} {C : Cs} {V V' : Vl} (l : V.le V') {es : List DictEntry} {xs : List (PySem.Str × SV)} (x : ERel w C V es xs) : ERel w C V' es xs := by
  induction x with
  | nil => exact .nil
  | cons h _ ih => exact .cons (h.up l) ih
noncomputable def leq (a : List Nat) : List Nat → Bool := List.rec (motive := fun _ => List Nat → Bool) (fun b => List.rec (motive := fun _ => Bool) true (fun _ _ _ => false) b) (fun x _ ih b => List.rec (motive := fun _ => Bool) false (fun y r _ => Bool.rec (motive := fun _ => Bool) false (ih r) (Nat.beq x y)) b) a
theorem leq_iff {a b : List Nat} : leq a b = true ↔ a = b := by
  induction a generalizing b with
  | nil => cases b with
    | nil => exact ⟨fun _ => rfl, fun _ => rfl⟩
    | cons => exact ⟨fun h => no_k h, fun h => nomatch h⟩
  | cons x a ih => cases b with
    | nil => exact ⟨fun h => no_k h, fun h => nomatch h⟩
    | cons y b =>
      show orB (Nat.beq x y) (leq a b) false = true ↔ _
      refine ⟨fun h => orB_k h (fun q h => by rw [Nat.eq_of_beq_eq_true q, ih.mp h]) fun _ h => no_k h, fun h => ?_⟩
      rw [(List.cons.inj h).1, Nat.beq_refl]
      exact ih.mpr (List.cons.inj h).2
noncomputable def seq (a b : PySem.Str) : Bool := leq a.cps.toList b.cps.toList
theorem seq_iff {a b : PySem.Str} : seq a b = true ↔ a = b := by
  unfold seq
  rw [leq_iff]
  constructor
  · intro h
    obtain ⟨⟨l⟩⟩ := a
    obtain ⟨⟨l'⟩⟩ := b
    have h : l = l' := h
    rw [h]
  · rintro rfl; rfl
theorem seq_no {a b : PySem.Str} (h : seq a b = false) : a ≠ b := fun e => by rw [seq_iff.mpr e] at h; cases h
noncomputable def sget {α : Type} (x : PySem.Str) (l : List (PySem.Str × α)) : Option α := List.rec none (fun p _ ih => if seq x p.1 then some p.2 else ih) l
theorem sget_cons {α : Type} {x y : PySem.Str} {v u : α} {r : List (PySem.Str × α)} (h : sget x ((y, u) :: r) = some v) {P : Prop} (K : x = y → u = v → P) (K' : seq x y = false → sget x r = some v → P) : P := by
  have h : (if seq x y then some u else sget x r) = some v := h
  cases q : seq x y with
  | true => exact K (seq_iff.mp q) (by rw [if_pos q] at h; exact Option.some.inj h)
  | false => exact K' q (by rw [if_neg (by rw [q]; exact Bool.false_ne_true)] at h; exact h)
theorem sget_at {α : Type} {x : PySem.Str} {u : α} {r : List (PySem.Str × α)} : sget x ((x, u) :: r) = some u := if_pos (seq_iff.mpr rfl)
theorem sget_off {α : Type} {x y : PySem.Str} {u : α} {r : List (PySem.Str × α)} (q : seq x y = false) : sget x ((y, u) :: r) = sget x r := if_neg (by rw [q]; exact Bool.false_ne_true)
noncomputable def CellsIn (V : Vl) (cl : List (PySem.Str × Addr)) (l : List (PySem.Str × SV)) : Prop := ∀ x v, sget x l = some v → ∃ i, v = .ref i ∧ i < V.n ∧ cl.lookup x = some (V.ρ i)
theorem CellsIn.up {V V' : Vl} (l : V.le V') {cl : List (PySem.Str × Addr)} {m : List (PySem.Str × SV)} (h : CellsIn V cl m) : CellsIn V' cl m := fun x v e => by
  refine Classical.byContradiction fun nO => ?_
  obtain ⟨i, h1, h2, h3⟩ := h x v e
  refine nO ?_
  exact ⟨i, h1, Nat.lt_of_lt_of_le h2 l.1, by rw [l.2 _ h2]; exact h3⟩
noncomputable abbrev noArgs : Arguments := ⟨[], [], none, [], [], none, []⟩
noncomputable def KRel (C : Cs) (V : Vl) (a : Int × Value) (b : Int × SV) : Prop := a.1 = b.1 ∧ VRel C V a.2 b.2
noncomputable def ORel (prog : Program) (w : PySem.World) (C : Cs) (V : Vl) (o : Obj) (x : SO) : Prop := SO.rec (motive := fun _ => Prop)
  (fun K d => o = instObj K (V.ρ d) ∧ d < V.n)
  (fun xs => ∃ es n, o = dictOf es n ∧ ERel w C V es xs)
  (fun ks => ∃ kvs : List (Int × Value), o.IsDictOf (intKind prog w) kvs ∧ All2 (KRel C V) kvs ks)
  (fun xs => ∃ (vs : List Value) (n : Nat), o = listOf vs.toArray n ∧ All2 (VRel C V) vs xs)
  (fun xs => ∃ vs : List Value, o = tupObj vs ∧ All2 (VRel C V) vs xs)
  (fun sb => ∃ b, o = baObj b ∧ BRel C b sb)
  (fun n => ∃ t u v, o = { cls := .type "range", dict := none, data := .fields #[.int 0 t, .int n u, .int 1 v], slots := #[] })
  (fun x l => o = { cls := .type "range_iterator", dict := none, data := .fields #[rawInt x, rawInt l, rawInt 1], slots := #[] })
  (fun l i => l < V.n ∧ o.cls = .type "list_iterator" ∧ o.data = .fields #[.ref (V.ρ l), .int i 0])
  (fun j => ∃ t, o = excD 59 t (V.ρ j) ∧ j < V.n)
  (fun what => ∃ tk ta tb, o = excDict w what tk ta tb)
  (fun x => ∃ v, o.data = .cell (some v) ∧ VRel C V v x)
  (o.data = .cell none)
  (fun i => o = V.ω i ∧ i < V.n)
  (fun ks j => ∃ kvs : List (Int × Value), o = V.ω j ∧ j < V.n ∧ (V.ω j).IsDictOf (intKind prog w) kvs ∧ All2 (KRel C V) kvs ks)
  (fun t => o.cls = .type t)
  (fun sb i => ∃ b t, BRel C b sb ∧ o.cls = .type "bytes_iterator" ∧ o.data = .fields #[.bytes b t, .int i 0])
  (fun j => ∃ tx ty c, o = Mine.pen (C.π j).1 (C.π j).2 tx ty c ∧ 0 ≤ (C.π j).1 ∧ (C.π j).1 < big ∧ 0 ≤ (C.π j).2 ∧ (C.π j).2 ≤ C.nb + j)
  (fun n => ∃ x y tx ty c, o = Mine.pen x y tx ty c ∧ 0 ≤ x ∧ x < big ∧ 0 ≤ y ∧ y ≤ C.nb + n)
  (fun q => ∃ ps, o = tabObj ps ∧ TabOk ps q V.r)
  (fun body scope q m => ∃ name clos pm ctv c', o = PySem.W.kla_obj name q noArgs body scope clos pm c' ctv ∧ CellsIn V clos m ∧ ∃ oc vs t, (c', oc) ∈ V.r ∧ oc.data = .fields vs ∧ vs[1]? = some (.str q t)) x
section
variable {prog : Program} {w : PySem.World} {C : Cs} {V : Vl}
theorem ORel.inst {K d : Nat} (h : d < V.n) : ORel prog w C V (instObj K (V.ρ d)) (.inst K d) := ⟨rfl, h⟩
theorem ORel.sd {es : List DictEntry} {xs : List (PySem.Str × SV)} {n : Nat} (h : ERel w C V es xs) : ORel prog w C V (dictOf es n) (.sd xs) := ⟨_, _, rfl, h⟩
theorem ORel.idict {o : Obj} {kvs : List (Int × Value)} {ks : List (Int × SV)} (h : o.IsDictOf (intKind prog w) kvs) (r : All2 (KRel C V) kvs ks) : ORel prog w C V o (.idict ks) := ⟨_, h, r⟩
theorem ORel.list {vs : List Value} {xs : List SV} {n : Nat} (h : All2 (VRel C V) vs xs) : ORel prog w C V (listOf vs.toArray n) (.list xs) := ⟨_, _, rfl, h⟩
theorem ORel.tup {vs : List Value} {xs : List SV} (h : All2 (VRel C V) vs xs) : ORel prog w C V (tupObj vs) (.tup xs) := ⟨_, rfl, h⟩
theorem ORel.ba {b : Array UInt8} {sb : SB} (h : BRel C b sb) : ORel prog w C V (baObj b) (.ba sb) := ⟨_, rfl, h⟩
theorem ORel.rgo {n : Int} (t u v : Tok) : ORel prog w C V { cls := .type "range", dict := none, data := .fields #[.int 0 t, .int n u, .int 1 v], slots := #[] } (.rgo n) := ⟨_, _, _, rfl⟩
theorem ORel.rit {x left : Int} : ORel prog w C V { cls := .type "range_iterator", dict := none, data := .fields #[rawInt x, rawInt left, rawInt 1], slots := #[] } (.rit x left) := rfl
theorem ORel.lit {o : Obj} {l i : Nat} (a : l < V.n) (b : o.cls = .type "list_iterator") (c : o.data = .fields #[.ref (V.ρ l), .int i 0]) : ORel prog w C V o (.lit l i) := ⟨a, b, c⟩
theorem ORel.exc {t j : Nat} (h : j < V.n) : ORel prog w C V (excD 59 t (V.ρ j)) (.exc j) := ⟨_, rfl, h⟩
theorem ORel.excd {what : PySem.Str} {tk ta tb : Tok} : ORel prog w C V (excDict w what tk ta tb) (.excd what) := ⟨_, _, _, rfl⟩
theorem ORel.cell {o : Obj} {v : Value} {x : SV} (e : o.data = .cell (some v)) (h : VRel C V v x) : ORel prog w C V o (.cell x) := ⟨_, e, h⟩
theorem ORel.cell0 {o : Obj} (e : o.data = .cell none) : ORel prog w C V o .cell0 := e
theorem ORel.opq {i : Nat} (h : i < V.n) : ORel prog w C V (V.ω i) (.opq i) := ⟨rfl, h⟩
theorem ORel.bit {o : Obj} {b : Array UInt8} {sb : SB} {t : Tok} {i : Nat} (h : BRel C b sb) (e : o.cls = .type "bytes_iterator") (e' : o.data = .fields #[.bytes b t, .int i 0]) : ORel prog w C V o (.bit sb i) := ⟨_, _, h, e, e'⟩
theorem ORel.pen {j : Nat} {tx ty : Tok} {c : Nat} (a : 0 ≤ (C.π j).1) (b : (C.π j).1 < big) (c' : 0 ≤ (C.π j).2) (d : (C.π j).2 ≤ C.nb + j) : ORel prog w C V (Mine.pen (C.π j).1 (C.π j).2 tx ty c) (.pen j) := ⟨_, _, _, rfl, a, b, c', d⟩
theorem ORel.penA {n : Nat} {x y : Int} {tx ty : Tok} {c : Nat} (a : 0 ≤ x) (b : x < big) (c' : 0 ≤ y) (d : y ≤ C.nb + n) : ORel prog w C V (Mine.pen x y tx ty c) (.penA n) := ⟨_, _, _, _, _, rfl, a, b, c', d⟩
theorem ORel.tab {ps : Array Value} {q : PySem.Str} (h : TabOk ps q V.r) : ORel prog w C V (tabObj ps) (.tab q) := ⟨_, rfl, h⟩
theorem ORel.lam {name q : PySem.Str} {body : PySem.Expr} {scope : Scope} {clos : List (PySem.Str × Addr)} {pm ctv : Value} {c' : Addr} {m : List (PySem.Str × SV)} (h : CellsIn V clos m) (h' : ∃ oc vs t, (c', oc) ∈ V.r ∧ oc.data = .fields vs ∧ vs[1]? = some (.str q t)) : ORel prog w C V (PySem.W.kla_obj name q noArgs body scope clos pm c' ctv) (.lam body scope q m) := ⟨_, _, _, _, _, rfl, h, h'⟩
theorem ORel.seqA {o : Obj} {t : String} (h : o.cls = .type t) : ORel prog w C V o (.seqA t) := h
theorem ORel.idictF {j : Nat} {kvs : List (Int × Value)} {ks : List (Int × SV)} (a : j < V.n) (h : (V.ω j).IsDictOf (intKind prog w) kvs) (r : All2 (KRel C V) kvs ks) : ORel prog w C V (V.ω j) (.idictF ks j) := ⟨_, rfl, a, h, r⟩
theorem KsRel.up {V' : Vl} (l : V.le V') {kvs : List (Int × Value)} {ks : List (Int × SV)} (r : All2 (KRel C V) kvs ks) : All2 (KRel C V') kvs ks := r.imp fun _ _ z => ⟨z.1, z.2.up l⟩
theorem ORel.up {V' : Vl} (l : V.le V') {o : Obj} {x : SO} (h : ORel prog w C V o x) : ORel prog w C V' o x := by
  cases x
  case inst => exact ⟨by rw [l.2 _ h.2]; exact h.1, Nat.lt_of_lt_of_le h.2 l.1⟩
  case sd => exact h.elim fun es h => h.elim fun n h => ⟨es, n, h.1, h.2.up l⟩
  case idict => exact h.elim fun kvs h => ⟨kvs, h.1, KsRel.up l h.2⟩
  case list => exact h.elim fun vs h => h.elim fun n h => ⟨vs, n, h.1, VsRel.up l h.2⟩
  case tup => exact h.elim fun vs h => ⟨vs, h.1, VsRel.up l h.2⟩
  case lit => exact ⟨Nat.lt_of_lt_of_le h.1 l.1, h.2.1, by rw [l.2 _ h.1]; exact h.2.2⟩
  case exc => exact h.elim fun t h => ⟨t, by rw [l.2 _ h.2]; exact h.1, Nat.lt_of_lt_of_le h.2 l.1⟩
  case cell => exact h.elim fun v h => ⟨v, h.1, h.2.up l⟩
  case opq => exact ⟨by rw [l.3 _ h.2]; exact h.1, Nat.lt_of_lt_of_le h.2 l.1⟩
  case idictF => exact h.elim fun kvs h => ⟨kvs, by rw [l.3 _ h.2.1]; exact h.1, Nat.lt_of_lt_of_le h.2.1 l.1, by rw [l.3 _ h.2.1]; exact h.2.2.1, KsRel.up l h.2.2.2⟩
  case tab => exact h.elim fun ps h => ⟨ps, h.1, h.2.more l.5⟩
  case lam =>
    refine Classical.byContradiction fun nO => ?_
    obtain ⟨name, clos, pm, ctv, c', e, h1, oc, vs, t, a, b⟩ := h
    refine nO ?_
    exact ⟨name, clos, pm, ctv, c', e, h1.up l, oc, vs, t, l.5 _ a, b⟩
  all_goals exact h
end
noncomputable def isI : SO → Bool
  | .idict _ => true
  | .idictF _ _ => true
  | _ => false
noncomputable def PRel (prog : Program) (w : PySem.World) (C : Cs) (V : Vl) (p : Addr × Obj) (q : Nat × SO) : Prop := q.1 < V.n ∧ p.1 = V.ρ q.1 ∧ ORel prog w C V p.2 q.2 ∧ (isI q.2 = true → (p.1 == sysModules) = false)
theorem PRel.up {prog : Program} {w : PySem.World} {C : Cs} {V V' : Vl} (l : V.le V') {p : Addr × Obj} {q : Nat × SO} (h : PRel prog w C V p q) : PRel prog w C V' p q :=
  ⟨Nat.lt_of_lt_of_le h.1 l.1, h.2.1.trans (l.2 _ h.1).symm, h.2.2.1.up l, h.2.2.2⟩
noncomputable def iget {α : Type} (i : Nat) (l : List (Nat × α)) : Option α := List.rec none (fun p _ ih => if Nat.beq i p.1 then some p.2 else ih) l
noncomputable def iset {α : Type} (i : Nat) (v : α) (l : List (Nat × α)) : List (Nat × α) := List.rec [] (fun p r ih => if Nat.beq i p.1 then (p.1, v) :: r else p :: ih) l
theorem iget_cons {α : Type} {i j : Nat} {u v : α} {r : List (Nat × α)} (h : iget i ((j, u) :: r) = some v) {P : Prop} (K : i = j → u = v → Nat.beq i j = true → P) (K' : Nat.beq i j = false → iget i r = some v → P) : P := by
  have h : (if Nat.beq i j then some u else iget i r) = some v := h
  cases q : Nat.beq i j with
  | true => exact K (Nat.eq_of_beq_eq_true q) (by rw [if_pos q] at h; exact Option.some.inj h) q
  | false => exact K' q (by rw [if_neg (by rw [q]; exact Bool.false_ne_true)] at h; exact h)
theorem iset_at {α : Type} {i j : Nat} {u v : α} {r : List (Nat × α)} (q : Nat.beq i j = true) : iset i v ((j, u) :: r) = (j, v) :: r := if_pos q
theorem iset_off {α : Type} {i j : Nat} {u v : α} {r : List (Nat × α)} (q : Nat.beq i j = false) : iset i v ((j, u) :: r) = (j, u) :: iset i v r := if_neg (by rw [q]; exact Bool.false_ne_true)
noncomputable def LRel (C : Cs) (V : Vl) (m : PySem.Str → Option Value) (l : List (PySem.Str × SV)) : Prop := ∀ x sv, sget x l = some sv → ∃ v, m x = some v ∧ VRel C V v sv
theorem LRel.up {C : Cs} {V V' : Vl} (l : V.le V') {m : PySem.Str → Option Value} {ls : List (PySem.Str × SV)} (h : LRel C V m ls) : LRel C V' m ls := fun x sv e => (h x sv e).imp fun _ z => ⟨z.1, z.2.up l⟩
theorem LRel.store {C : Cs} {V : Vl} {m : PySem.Str → Option Value} {ls : List (PySem.Str × SV)} (h : LRel C V m ls) {x : PySem.Str} {v : Value} {sv : SV} (hv : VRel C V v sv) : LRel C V (fun y => if y = x then some v else m y) ((x, sv) :: ls) := fun y z e =>
  sget_cons e (fun e1 e2 => ⟨v, if_pos e1, e2 ▸ hv⟩) fun q e => (h y z e).imp fun u z => ⟨(if_neg (seq_no q)).trans z.1, z.2⟩
noncomputable def Rep (prog : Program) (w : PySem.World) (C : Cs) (V : Vl) (σ : St) (h₀ : Heap) (L : Addr) (s : Shared) (m : PySem.Str → Option Value) (news : List (Addr × Obj)) : Prop :=
  (V.n = σ.nx ∧ Same V.z s) ∧ Fr h₀ L s.heap m ∧ News h₀ L s.heap (news ++ V.r) ∧ LRel C V m σ.loc ∧ All2 (PRel prog w C V) news σ.heap ∧ ((news ++ V.r).map (·.1)).Nodup
section
variable {prog : Program} {w : PySem.World} {C : Cs} {V : Vl} {σ : St} {h₀ : Heap} {L : Addr} {s : Shared} {m : PySem.Str → Option Value} {news : List (Addr × Obj)}
theorem Rep.nx (R : Rep prog w C V σ h₀ L s m news) : V.n = σ.nx := R.1.1
theorem Rep.sm (R : Rep prog w C V σ h₀ L s m news) : Same V.z s := R.1.2
theorem Rep.fr (R : Rep prog w C V σ h₀ L s m news) : Fr h₀ L s.heap m := R.2.1
theorem Rep.nw (R : Rep prog w C V σ h₀ L s m news) : News h₀ L s.heap (news ++ V.r) := R.2.2.1
theorem Rep.lc (R : Rep prog w C V σ h₀ L s m news) : LRel C V m σ.loc := R.2.2.2.1
theorem Rep.hp (R : Rep prog w C V σ h₀ L s m news) : All2 (PRel prog w C V) news σ.heap := R.2.2.2.2.1
theorem Rep.nd (R : Rep prog w C V σ h₀ L s m news) : ((news ++ V.r).map (·.1)).Nodup := R.2.2.2.2.2
end
section
variable {prog : Program} {w : PySem.World} {C : Cs} {V : Vl}
theorem hget {news : List (Addr × Obj)} {hp : List (Nat × SO)} {i : Nat} {so : SO} (h : All2 (PRel prog w C V) news hp) (e : iget i hp = some so) : ∃ o, (V.ρ i, o) ∈ news ∧ ORel prog w C V o so ∧ (isI so = true → (V.ρ i == sysModules) = false) ∧ i < V.n := by
  induction h with
  | nil => exact no_o e
  | @cons p q ps qs h1 r ih =>
    refine iget_cons e (fun e1 e2 _ => ?_) fun _ e => (ih e).imp fun o z => ⟨.tail _ z.1, z.2⟩
    rw [e1, ← e2]
    exact ⟨p.2, by rw [← h1.2.1]; exact .head _, h1.2.2.1, h1.2.1 ▸ h1.2.2.2, h1.1⟩
theorem UpdF.upd {d : Addr} {o o' : Obj} {l : List (Addr × Obj)} {g : Obj → List (Addr × Obj)} (h : UpdF d o l g) : Upd d o o' l (g o') := by
  induction h with
  | head h => exact .head h
  | tail h _ ih => exact .tail h ih
theorem UpdF.mem {d : Addr} {o : Obj} {l : List (Addr × Obj)} {g : Obj → List (Addr × Obj)} (h : UpdF d o l g) : (d, o) ∈ l := by
  induction h with
  | head h => exact .head _
  | tail h _ ih => exact .tail _ ih
theorem hupd {rest : List (Addr × Obj)} {i : Nat} {so : SO} {news : List (Addr × Obj)} {hp : List (Nat × SO)} (h : All2 (PRel prog w C V) news hp) (e : iget i hp = some so) (nd : ((news ++ rest).map (·.1)).Nodup) :
    ∃ o g, ORel prog w C V o so ∧ UpdF (V.ρ i) o (news ++ rest) g ∧ ∀ V' o' so', isI so' = isI so → V.le V' → ORel prog w C V' o' so' → ∃ news', g o' = news' ++ rest ∧ All2 (PRel prog w C V') news' (iset i so' hp) ∧ news'.map (·.1) = news.map (·.1) := by
  induction h with
  | nil => cases e
  | @cons p q ps qs h1 r ih =>
    obtain ⟨d1, d2⟩ := List.nodup_cons.mp (show (p.1 :: (ps ++ rest).map (·.1)).Nodup from nd)
    refine iget_cons e (fun e1 e2 q1 => ?_) fun q1 e => ?_
    · obtain ⟨hl, ha, ho, hm⟩ := h1
      subst e1 e2
      refine ⟨p.2, fun o' => (V.ρ q.1, o') :: (ps ++ rest), ho, ?_, fun V' o' so' hI l ho' => ⟨(V.ρ q.1, o') :: ps, rfl, ?_, congrArg (· :: _) ha.symm⟩⟩
      · rw [← ha]; exact .head fun z hz e => d1 (e ▸ List.mem_map_of_mem hz)
      · rw [iset_at q1]
        exact .cons ⟨Nat.lt_of_lt_of_le hl l.1, (l.2 _ hl).symm, ho', fun z => ha ▸ hm (hI ▸ z)⟩ (r.imp fun _ _ => PRel.up l)
    · obtain ⟨o, g, k1, k2, k3⟩ := ih e d2
      refine ⟨o, fun o' => p :: g o', k1, .tail (fun z => d1 (z ▸ List.mem_map_of_mem (UpdF.mem k2))) k2, fun V' o' so' hI l ho' => ?_⟩
      refine Classical.byContradiction fun nO => ?_
      obtain ⟨news', u1, u2, u3⟩ := k3 V' o' so' hI l ho'
      refine nO ?_
      refine ⟨p :: news', congrArg (p :: ·) u1, ?_, congrArg (p.1 :: ·) u3⟩
      rw [iset_off q1]
      exact .cons (PRel.up l h1) u2
noncomputable def Vl.ext (V : Vl) (a : Addr) : Vl := ⟨V.n + 1, fun i => if i = V.n then a else V.ρ i, V.ω, V.z, V.r⟩
theorem Vl.le_ext (V : Vl) (a : Addr) : V.le (V.ext a) := ⟨Nat.le_succ _, fun i hi => if_neg (Nat.ne_of_lt hi), fun _ _ => rfl, rfl, fun _ h => h⟩
noncomputable def Vl.mem (V : Vl) (o : Obj) : Vl := ⟨V.n, V.ρ, fun i => if i = V.n then o else V.ω i, V.z, V.r⟩
theorem Vl.le_mem (V : Vl) (o : Obj) : V.le (V.mem o) := ⟨Nat.le_refl _, fun _ _ => rfl, fun i hi => if_neg (Nat.ne_of_lt hi), rfl, fun _ h => h⟩
theorem Vl.ext_at (V : Vl) (a : Addr) : (V.ext a).ρ V.n = a := if_pos rfl
theorem hnew {rest news : List (Addr × Obj)} {hp : List (Nat × SO)} {a : Addr} {o : Obj} {so : SO} (h : All2 (PRel prog w C V) news hp) (nd : ((news ++ rest).map (·.1)).Nodup) (hl : ∀ p ∈ news ++ rest, p.1 ≠ a) (hs : isI so = true → (a == sysModules) = false) (ho : ORel prog w C (V.ext a) o so) :
    All2 (PRel prog w C (V.ext a)) ((a, o) :: news) ((V.n, so) :: hp) ∧ ((((a, o) :: news) ++ rest).map (·.1)).Nodup := by
  refine ⟨.cons ⟨Nat.lt_succ_self _, (V.ext_at a).symm, ho, hs⟩ (h.imp fun _ _ => PRel.up (V.le_ext a)), ?_⟩
  exact List.nodup_cons.mpr ⟨fun q => (List.mem_map.mp q).elim fun p z => hl p z.1 z.2, nd⟩
end

noncomputable def kgt (a : Nat) (K : Frag) : Option Obj := List.rec (motive := fun _ => Option Obj) none (fun p _ ih => Bool.rec (motive := fun _ => Option Obj) ih (some p.2) (Nat.beq a p.1)) K
theorem kgt_eq {a : Nat} {K : Frag} : kgt a K = K.lookup a := by
  induction K with
  | nil => rfl
  | cons p r ih =>
    obtain ⟨b, o⟩ := p
    rw [List.lookup_cons, ← ih]
    show orB (Nat.beq a b) (some o) (kgt a r) = _
    cases q : Nat.beq a b with
    | true => rw [Nat.eq_of_beq_eq_true q, beq_self_eq_true]; rfl
    | false => rw [beq_eq_false_iff_ne.mpr fun e => by rw [e, Nat.beq_refl] at q; cases q]; rfl
theorem sget_lookup {α : Type} {x : PySem.Str} {l : List (PySem.Str × α)} : sget x l = l.lookup x := by
  induction l with
  | nil => rfl
  | cons p r ih =>
    obtain ⟨y, v⟩ := p
    rw [List.lookup_cons, ← ih]
    cases q : seq x y with
    | true => rw [seq_iff.mp q, beq_self_eq_true]; exact sget_at
    | false => rw [beq_eq_false_iff_ne.mpr (seq_no q)]; exact sget_off q
theorem sget_mem {α : Type} {x : PySem.Str} {v : α} {l : List (PySem.Str × α)} (h : sget x l = some v) : (x, v) ∈ l := by
  induction l with
  | nil => exact no_o h
  | cons p r ih => exact sget_cons h (fun e1 e2 => by rw [e1, ← e2]; exact .head _) fun _ h => .tail _ (ih h)
theorem iget_mem {α : Type} {x : Nat} {v : α} {l : List (Nat × α)} (h : iget x l = some v) : (x, v) ∈ l := by
  induction l with
  | nil => exact no_o h
  | cons p r ih => exact iget_cons h (fun e1 e2 _ => by rw [e1, ← e2]; exact .head _) fun _ h => .tail _ (ih h)

section
variable {prog : Program} {w : PySem.World} {C : Cs} {V : Vl} {v : Value} {o : Obj}
theorem VRel.ref' {i : Nat} (h : VRel C V v (.ref i)) : v = .ref (V.ρ i) ∧ i < V.n := h
theorem VRel.int' {i : SI} (h : VRel C V v (.int i)) : ∃ x t, v = .int x t ∧ IRel C x i := h
theorem VRel.bytes' {i : SB} (h : VRel C V v (.bytes i)) : ∃ x t, v = .bytes x t ∧ BRel C x i := h
theorem VRel.str' {i : PySem.Str} (h : VRel C V v (.str i)) : ∃ t, v = .str i t := h
theorem VRel.strA' (h : VRel C V v .strA) : ∃ i t, v = .str i t := h
theorem VRel.none' (h : VRel C V v .none) : v = .none := h
theorem VRel.bool' {b : Bool} (h : VRel C V v (.bool b)) : v = .bool b := h
theorem VRel.obj' {a : Nat} (h : VRel C V v (.obj a)) : v = .ref a := h
theorem VRel.ty' {a : String} (h : VRel C V v (.ty a)) : v = .type a := h
theorem VRel.bi' {a : String} (h : VRel C V v (.bi a)) : v = .builtin a := h
theorem ORel.inst' {K d : Nat} (h : ORel prog w C V o (.inst K d)) : o = instObj K (V.ρ d) ∧ d < V.n := h
theorem ORel.sd' {xs : List (PySem.Str × SV)} (h : ORel prog w C V o (.sd xs)) : ∃ es n, o = dictOf es n ∧ ERel w C V es xs := h
theorem ORel.idict' {ks : List (Int × SV)} (h : ORel prog w C V o (.idict ks)) : ∃ kvs : List (Int × Value), o.IsDictOf (intKind prog w) kvs ∧ All2 (KRel C V) kvs ks := h
theorem ORel.list' {xs : List SV} (h : ORel prog w C V o (.list xs)) : ∃ (vs : List Value) (n : Nat), o = listOf vs.toArray n ∧ All2 (VRel C V) vs xs := h
theorem ORel.tup' {xs : List SV} (h : ORel prog w C V o (.tup xs)) : ∃ vs : List Value, o = tupObj vs ∧ All2 (VRel C V) vs xs := h
theorem ORel.ba' {sb : SB} (h : ORel prog w C V o (.ba sb)) : ∃ b, o = baObj b ∧ BRel C b sb := h
theorem ORel.opq' {i : Nat} (h : ORel prog w C V o (.opq i)) : o = V.ω i ∧ i < V.n := h
theorem ORel.pen' {j : Nat} (h : ORel prog w C V o (.pen j)) : ∃ tx ty c, o = Mine.pen (C.π j).1 (C.π j).2 tx ty c ∧ 0 ≤ (C.π j).1 ∧ (C.π j).1 < big ∧ 0 ≤ (C.π j).2 ∧ (C.π j).2 ≤ C.nb + j := h
theorem ORel.penA' {n : Nat} (h : ORel prog w C V o (.penA n)) : ∃ x y tx ty c, o = Mine.pen x y tx ty c ∧ 0 ≤ x ∧ x < big ∧ 0 ≤ y ∧ y ≤ C.nb + n := h
theorem ORel.idictF' {j : Nat} {ks : List (Int × SV)} (h : ORel prog w C V o (.idictF ks j)) : ∃ kvs : List (Int × Value), o = V.ω j ∧ j < V.n ∧ (V.ω j).IsDictOf (intKind prog w) kvs ∧ All2 (KRel C V) kvs ks := h
theorem ORel.rgo' {n : Int} (h : ORel prog w C V o (.rgo n)) : ∃ t u v, o = { cls := .type "range", dict := none, data := .fields #[.int 0 t, .int n u, .int 1 v], slots := #[] } := h
theorem ORel.rit' {x l : Int} (h : ORel prog w C V o (.rit x l)) : o = { cls := .type "range_iterator", dict := none, data := .fields #[rawInt x, rawInt l, rawInt 1], slots := #[] } := h
theorem ORel.lit' {l i : Nat} (h : ORel prog w C V o (.lit l i)) : l < V.n ∧ o.cls = .type "list_iterator" ∧ o.data = .fields #[.ref (V.ρ l), .int i 0] := h
theorem ORel.bit' {sb : SB} {i : Nat} (h : ORel prog w C V o (.bit sb i)) : ∃ b t, BRel C b sb ∧ o.cls = .type "bytes_iterator" ∧ o.data = .fields #[.bytes b t, .int i 0] := h
theorem ORel.exc' {j : Nat} (h : ORel prog w C V o (.exc j)) : ∃ t, o = excD 59 t (V.ρ j) ∧ j < V.n := h
theorem ORel.excd' {what : PySem.Str} (h : ORel prog w C V o (.excd what)) : ∃ tk ta tb, o = excDict w what tk ta tb := h
theorem ORel.cell' {x : SV} (h : ORel prog w C V o (.cell x)) : ∃ v, o.data = .cell (some v) ∧ VRel C V v x := h
theorem ORel.seqA' {t : String} (h : ORel prog w C V o (.seqA t)) : o.cls = .type t := h
theorem ORel.tab' {q : PySem.Str} (h : ORel prog w C V o (.tab q)) : ∃ ps, o = tabObj ps ∧ TabOk ps q V.r := h
theorem ORel.lam' {body : PySem.Expr} {scope : Scope} {q : PySem.Str} {m : List (PySem.Str × SV)} (h : ORel prog w C V o (.lam body scope q m)) : ∃ name clos pm ctv c', o = PySem.W.kla_obj name q noArgs body scope clos pm c' ctv ∧ CellsIn V clos m ∧ ∃ oc vs t, (c', oc) ∈ V.r ∧ oc.data = .fields vs ∧ vs[1]? = some (.str q t) := h
theorem ORel.cell0' (h : ORel prog w C V o .cell0) : o.data = .cell none := h
end

noncomputable def on1 {α : Type} (xs : List α) (f : α → Bool) : Bool := List.rec false (fun x r _ => List.rec (f x) (fun _ _ _ => false) r) xs
noncomputable def on2 {α : Type} (xs : List α) (f : α → α → Bool) : Bool := List.rec false (fun x r _ => on1 r (f x)) xs
noncomputable def on3 {α : Type} (xs : List α) (f : α → α → α → Bool) : Bool := List.rec false (fun x r _ => on2 r (f x)) xs
theorem on1_k {α β : Type} {R : β → α → Prop} {xs : List α} {f : α → Bool} (h : on1 xs f = true) {vs : List β} (hv : All2 R vs xs) {P : List β → Prop} (K : ∀ x v, f x = true → R v x → P [v]) : P vs := by
  cases hv with
  | nil => exact no_k h
  | cons h1 r => cases r with
    | nil => exact K _ _ h h1
    | cons => exact no_k h
theorem on2_k {α β : Type} {R : β → α → Prop} {xs : List α} {f : α → α → Bool} (h : on2 xs f = true) {vs : List β} (hv : All2 R vs xs) {P : List β → Prop} (K : ∀ x y v u, f x y = true → R v x → R u y → P [v, u]) : P vs := by
  cases hv with
  | nil => exact no_k h
  | cons h1 r => exact on1_k h r (P := fun vs => P (_ :: vs)) fun y u h h2 => K _ y _ u h h1 h2
theorem on3_k {α β : Type} {R : β → α → Prop} {xs : List α} {f : α → α → α → Bool} (h : on3 xs f = true) {vs : List β} (hv : All2 R vs xs) {P : List β → Prop} (K : ∀ x y z v u t, f x y z = true → R v x → R u y → R t z → P [v, u, t]) : P vs := by
  cases hv with
  | nil => exact no_k h
  | cons h1 r => exact on2_k h r (P := fun vs => P (_ :: vs)) fun y z u t h h2 h3 => K _ y z _ u t h h1 h2 h3
noncomputable def svRef (x : SV) : Option (Nat) := SV.rec (motive := fun _ => Option (Nat)) none (fun _ => none) (fun _ => none) (fun _ => none) (fun _ => none) some (fun _ => none) (fun _ => none) (fun _ => none) (fun _ => none) none x
theorem svRef_k {C : Cs} {V : Vl} {x : SV} {i : Nat} (h : svRef x = some i) {v : Value} (hv : VRel C V v x) {P : Value → Prop} (K : i < V.n → P (.ref (V.ρ i))) : P v := by
  cases x with
  | ref j => obtain rfl : j = i := Option.some.inj h; obtain ⟨rfl, hi⟩ := VRel.ref' hv; exact K hi
  | _ => exact no_o h
noncomputable def orRef (x : SV) (f : Nat → Bool) (e : Bool) : Bool := orO (svRef x) (fun i => f i) e
noncomputable abbrev onRef (x : SV) (f : Nat → Bool) : Bool := orRef x f false
theorem orRef_k {C : Cs} {V : Vl} {x : SV} {f : Nat → Bool} {e : Bool} (h : orRef x f e = true) {v : Value} (hv : VRel C V v x) {P : Value → Prop} (K : ∀ i, i < V.n → f i = true → P (.ref (V.ρ i))) (K' : e = true → P v) : P v := orO_k h (fun i hi h => svRef_k hi hv (P := P) fun q => K i q h) K'
theorem onRef_k {C : Cs} {V : Vl} {x : SV} {f : Nat → Bool} (h : onRef x f = true) {v : Value} (hv : VRel C V v x) {P : Value → Prop} (K : ∀ i, i < V.n → f i = true → P (.ref (V.ρ i))) : P v := orRef_k h hv K no_k
noncomputable def svInt (x : SV) : Option (SI) := SV.rec (motive := fun _ => Option (SI)) none (fun _ => none) some (fun _ => none) (fun _ => none) (fun _ => none) (fun _ => none) (fun _ => none) (fun _ => none) (fun _ => none) none x
theorem svInt_k {C : Cs} {V : Vl} {x : SV} {i : SI} (h : svInt x = some i) {v : Value} (hv : VRel C V v x) {P : Value → Prop} (K : ∀ z t, IRel C z i → P (.int z t)) : P v := by
  cases x with
  | int j => obtain rfl : j = i := Option.some.inj h; obtain ⟨z, t, rfl, hi⟩ := VRel.int' hv; exact K z t hi
  | _ => exact no_o h
noncomputable def orInt (x : SV) (f : SI → Bool) (e : Bool) : Bool := orO (svInt x) (fun i => f i) e
noncomputable abbrev onInt (x : SV) (f : SI → Bool) : Bool := orInt x f false
theorem orInt_k {C : Cs} {V : Vl} {x : SV} {f : SI → Bool} {e : Bool} (h : orInt x f e = true) {v : Value} (hv : VRel C V v x) {P : Value → Prop} (K : ∀ z t i, IRel C z i → f i = true → P (.int z t)) (K' : e = true → P v) : P v := orO_k h (fun i hi h => svInt_k hi hv (P := P) fun z t q => K z t i q h) K'
theorem onInt_k {C : Cs} {V : Vl} {x : SV} {f : SI → Bool} (h : onInt x f = true) {v : Value} (hv : VRel C V v x) {P : Value → Prop} (K : ∀ z t i, IRel C z i → f i = true → P (.int z t)) : P v := orInt_k h hv K no_k
noncomputable def svStr (x : SV) : Option (PySem.Str) := SV.rec (motive := fun _ => Option (PySem.Str)) none (fun _ => none) (fun _ => none) some (fun _ => none) (fun _ => none) (fun _ => none) (fun _ => none) (fun _ => none) (fun _ => none) none x
theorem svStr_k {C : Cs} {V : Vl} {x : SV} {i : PySem.Str} (h : svStr x = some i) {v : Value} (hv : VRel C V v x) {P : Value → Prop} (K : ∀ t, P (.str i t)) : P v := by
  cases x with
  | str j => obtain rfl : j = i := Option.some.inj h; obtain ⟨t, rfl⟩ := VRel.str' hv; exact K t
  | _ => exact no_o h
noncomputable def orStr (x : SV) (f : PySem.Str → Bool) (e : Bool) : Bool := orO (svStr x) (fun i => f i) e
noncomputable abbrev onStr (x : SV) (f : PySem.Str → Bool) : Bool := orStr x f false
theorem orStr_k {C : Cs} {V : Vl} {x : SV} {f : PySem.Str → Bool} {e : Bool} (h : orStr x f e = true) {v : Value} (hv : VRel C V v x) {P : Value → Prop} (K : ∀ t i, f i = true → P (.str i t)) (K' : e = true → P v) : P v := orO_k h (fun i hi h => svStr_k hi hv (P := P) fun t => K t i h) K'
theorem onStr_k {C : Cs} {V : Vl} {x : SV} {f : PySem.Str → Bool} (h : onStr x f = true) {v : Value} (hv : VRel C V v x) {P : Value → Prop} (K : ∀ t i, f i = true → P (.str i t)) : P v := orStr_k h hv K no_k
noncomputable def svBy (x : SV) : Option (SB) := SV.rec (motive := fun _ => Option (SB)) none (fun _ => none) (fun _ => none) (fun _ => none) some (fun _ => none) (fun _ => none) (fun _ => none) (fun _ => none) (fun _ => none) none x
theorem svBy_k {C : Cs} {V : Vl} {x : SV} {i : SB} (h : svBy x = some i) {v : Value} (hv : VRel C V v x) {P : Value → Prop} (K : ∀ z t, BRel C z i → P (.bytes z t)) : P v := by
  cases x with
  | bytes j => obtain rfl : j = i := Option.some.inj h; obtain ⟨z, t, rfl, hi⟩ := VRel.bytes' hv; exact K z t hi
  | _ => exact no_o h
noncomputable def orBy (x : SV) (f : SB → Bool) (e : Bool) : Bool := orO (svBy x) (fun i => f i) e
noncomputable abbrev onBy (x : SV) (f : SB → Bool) : Bool := orBy x f false
theorem orBy_k {C : Cs} {V : Vl} {x : SV} {f : SB → Bool} {e : Bool} (h : orBy x f e = true) {v : Value} (hv : VRel C V v x) {P : Value → Prop} (K : ∀ z t i, BRel C z i → f i = true → P (.bytes z t)) (K' : e = true → P v) : P v := orO_k h (fun i hi h => svBy_k hi hv (P := P) fun z t q => K z t i q h) K'
theorem onBy_k {C : Cs} {V : Vl} {x : SV} {f : SB → Bool} (h : onBy x f = true) {v : Value} (hv : VRel C V v x) {P : Value → Prop} (K : ∀ z t i, BRel C z i → f i = true → P (.bytes z t)) : P v := orBy_k h hv K no_k
noncomputable def svBo (x : SV) : Option (Bool) := SV.rec (motive := fun _ => Option (Bool)) none some (fun _ => none) (fun _ => none) (fun _ => none) (fun _ => none) (fun _ => none) (fun _ => none) (fun _ => none) (fun _ => none) none x
theorem svBo_k {C : Cs} {V : Vl} {x : SV} {i : Bool} (h : svBo x = some i) {v : Value} (hv : VRel C V v x) {P : Value → Prop} (K : P (.bool i)) : P v := by
  cases x with
  | bool j => obtain rfl : j = i := Option.some.inj h; obtain rfl := VRel.bool' hv; exact K
  | _ => exact no_o h
noncomputable def orBo (x : SV) (f : Bool → Bool) (e : Bool) : Bool := orO (svBo x) (fun i => f i) e
noncomputable abbrev onBo (x : SV) (f : Bool → Bool) : Bool := orBo x f false
theorem orBo_k {C : Cs} {V : Vl} {x : SV} {f : Bool → Bool} {e : Bool} (h : orBo x f e = true) {v : Value} (hv : VRel C V v x) {P : Value → Prop} (K : ∀ i, f i = true → P (.bool i)) (K' : e = true → P v) : P v := orO_k h (fun i hi h => svBo_k hi hv (P := P) (K i h)) K'
theorem onBo_k {C : Cs} {V : Vl} {x : SV} {f : Bool → Bool} (h : onBo x f = true) {v : Value} (hv : VRel C V v x) {P : Value → Prop} (K : ∀ i, f i = true → P (.bool i)) : P v := orBo_k h hv K no_k
noncomputable def svObj (x : SV) : Option (Nat) := SV.rec (motive := fun _ => Option (Nat)) none (fun _ => none) (fun _ => none) (fun _ => none) (fun _ => none) (fun _ => none) some (fun _ => none) (fun _ => none) (fun _ => none) none x
theorem svObj_k {C : Cs} {V : Vl} {x : SV} {i : Nat} (h : svObj x = some i) {v : Value} (hv : VRel C V v x) {P : Value → Prop} (K : P (.ref i)) : P v := by
  cases x with
  | obj j => obtain rfl : j = i := Option.some.inj h; obtain rfl := VRel.obj' hv; exact K
  | _ => exact no_o h
noncomputable def orObj (x : SV) (f : Nat → Bool) (e : Bool) : Bool := orO (svObj x) (fun i => f i) e
theorem orObj_k {C : Cs} {V : Vl} {x : SV} {f : Nat → Bool} {e : Bool} (h : orObj x f e = true) {v : Value} (hv : VRel C V v x) {P : Value → Prop} (K : ∀ i, f i = true → P (.ref i)) (K' : e = true → P v) : P v := orO_k h (fun i hi h => svObj_k hi hv (P := P) (K i h)) K'
noncomputable def svTy (x : SV) : Option (String) := SV.rec (motive := fun _ => Option (String)) none (fun _ => none) (fun _ => none) (fun _ => none) (fun _ => none) (fun _ => none) (fun _ => none) some (fun _ => none) (fun _ => none) none x
theorem svTy_k {C : Cs} {V : Vl} {x : SV} {i : String} (h : svTy x = some i) {v : Value} (hv : VRel C V v x) {P : Value → Prop} (K : P (.type i)) : P v := by
  cases x with
  | ty j => obtain rfl : j = i := Option.some.inj h; obtain rfl := VRel.ty' hv; exact K
  | _ => exact no_o h
noncomputable def orTy (x : SV) (f : String → Bool) (e : Bool) : Bool := orO (svTy x) (fun i => f i) e
theorem orTy_k {C : Cs} {V : Vl} {x : SV} {f : String → Bool} {e : Bool} (h : orTy x f e = true) {v : Value} (hv : VRel C V v x) {P : Value → Prop} (K : ∀ i, f i = true → P (.type i)) (K' : e = true → P v) : P v := orO_k h (fun i hi h => svTy_k hi hv (P := P) (K i h)) K'
noncomputable def svBi (x : SV) : Option (String) := SV.rec (motive := fun _ => Option (String)) none (fun _ => none) (fun _ => none) (fun _ => none) (fun _ => none) (fun _ => none) (fun _ => none) (fun _ => none) some (fun _ => none) none x
theorem svBi_k {C : Cs} {V : Vl} {x : SV} {i : String} (h : svBi x = some i) {v : Value} (hv : VRel C V v x) {P : Value → Prop} (K : P (.builtin i)) : P v := by
  cases x with
  | bi j => obtain rfl : j = i := Option.some.inj h; obtain rfl := VRel.bi' hv; exact K
  | _ => exact no_o h
noncomputable def orBi (x : SV) (f : String → Bool) (e : Bool) : Bool := orO (svBi x) (fun i => f i) e
noncomputable abbrev onBi (x : SV) (f : String → Bool) : Bool := orBi x f false
theorem orBi_k {C : Cs} {V : Vl} {x : SV} {f : String → Bool} {e : Bool} (h : orBi x f e = true) {v : Value} (hv : VRel C V v x) {P : Value → Prop} (K : ∀ i, f i = true → P (.builtin i)) (K' : e = true → P v) : P v := orO_k h (fun i hi h => svBi_k hi hv (P := P) (K i h)) K'
theorem onBi_k {C : Cs} {V : Vl} {x : SV} {f : String → Bool} (h : onBi x f = true) {v : Value} (hv : VRel C V v x) {P : Value → Prop} (K : ∀ i, f i = true → P (.builtin i)) : P v := orBi_k h hv K no_k
noncomputable def svNon (x : SV) : Option (Unit) := SV.rec (motive := fun _ => Option (Unit)) (some ()) (fun _ => none) (fun _ => none) (fun _ => none) (fun _ => none) (fun _ => none) (fun _ => none) (fun _ => none) (fun _ => none) (fun _ => none) none x
theorem svNon_k {C : Cs} {V : Vl} {x : SV} {_i : Unit} (h : svNon x = some _i) {v : Value} (hv : VRel C V v x) {P : Value → Prop} (K : P (.none)) : P v := by
  cases x with
  | none => obtain rfl := VRel.none' hv; exact K
  | _ => exact no_o h
noncomputable def orNon (x : SV) (f : Bool) (e : Bool) : Bool := orO (svNon x) (fun _ => f) e
noncomputable abbrev onNon (x : SV) (f : Bool) : Bool := orNon x f false
theorem orNon_k {C : Cs} {V : Vl} {x : SV} {f : Bool} {e : Bool} (h : orNon x f e = true) {v : Value} (hv : VRel C V v x) {P : Value → Prop} (K : f = true → P (.none)) (K' : e = true → P v) : P v := orO_k h (fun _ hi h => svNon_k hi hv (P := P) (K h)) K'
theorem onNon_k {C : Cs} {V : Vl} {x : SV} {f : Bool} (h : onNon x f = true) {v : Value} (hv : VRel C V v x) {P : Value → Prop} (K : f = true → P (.none)) : P v := orNon_k h hv K no_k
noncomputable def siRng (i : SI) : Option (Int × Int) := SI.rec (motive := fun _ => Option (Int × Int)) (fun _ => none) (fun _ _ => none) (fun _ _ => none) (fun _ _ => none) (fun _ _ => none) (fun a b => some (a, b)) none i
theorem siRng_ok {i : SI} {x : Int × Int} (h : siRng i = some x) : i = .rng x.1 x.2 := by
  cases i with
  | rng => exact Option.some.inj h ▸ rfl
  | _ => exact no_o h
noncomputable def siN (i : SI) : Option (Int) := SI.rec (motive := fun _ => Option (Int)) some (fun _ _ => none) (fun _ _ => none) (fun _ _ => none) (fun _ _ => none) (fun _ _ => none) none i
theorem siN_ok {i : SI} {x : Int} (h : siN i = some x) : i = .lit x := by
  cases i with
  | lit => exact Option.some.inj h ▸ rfl
  | _ => exact no_o h
noncomputable def siVar (i : SI) : Option (Nat × Int) := SI.rec (motive := fun _ => Option (Nat × Int)) (fun _ => none) (fun a b => some (a, b)) (fun _ _ => none) (fun _ _ => none) (fun _ _ => none) (fun _ _ => none) none i
theorem siVar_ok {i : SI} {x : Nat × Int} (h : siVar i = some x) : i = .var x.1 x.2 := by
  cases i with
  | var => exact Option.some.inj h ▸ rfl
  | _ => exact no_o h
noncomputable def siHx (i : SI) : Option (Nat × Nat) := SI.rec (motive := fun _ => Option (Nat × Nat)) (fun _ => none) (fun _ _ => none) (fun a b => some (a, b)) (fun _ _ => none) (fun _ _ => none) (fun _ _ => none) none i
theorem siHx_ok {i : SI} {x : Nat × Nat} (h : siHx i = some x) : i = .hx x.1 x.2 := by
  cases i with
  | hx => exact Option.some.inj h ▸ rfl
  | _ => exact no_o h
noncomputable def siHxa (i : SI) : Option (Nat × Nat) := SI.rec (motive := fun _ => Option (Nat × Nat)) (fun _ => none) (fun _ _ => none) (fun _ _ => none) (fun a b => some (a, b)) (fun _ _ => none) (fun _ _ => none) none i
theorem siHxa_ok {i : SI} {x : Nat × Nat} (h : siHxa i = some x) : i = .hxa x.1 x.2 := by
  cases i with
  | hxa => exact Option.some.inj h ▸ rfl
  | _ => exact no_o h
noncomputable def siHxm (i : SI) : Option (Nat × Nat) := SI.rec (motive := fun _ => Option (Nat × Nat)) (fun _ => none) (fun _ _ => none) (fun _ _ => none) (fun _ _ => none) (fun a b => some (a, b)) (fun _ _ => none) none i
theorem siHxm_ok {i : SI} {x : Nat × Nat} (h : siHxm i = some x) : i = .hxm x.1 x.2 := by
  cases i with
  | hxm => exact Option.some.inj h ▸ rfl
  | _ => exact no_o h
theorem siN_e {C : Cs} {z n : Int} {i : SI} (hz : IRel C z i) (h : siN i = some n) : z = n := by
  obtain rfl := siN_ok h
  exact hz
noncomputable def onN (i : SI) (f : Int → Bool) : Bool := SI.rec (motive := fun _ => Bool) f (fun _ _ => false) (fun _ _ => false) (fun _ _ => false) (fun _ _ => false) (fun _ _ => false) false i
theorem onN_k {C : Cs} {i : SI} {f : Int → Bool} (h : onN i f = true) {z : Int} (hz : IRel C z i) {P : Prop} (K : i = .lit z → f z = true → P) : P := by
  cases i with
  | lit n => obtain rfl : z = n := hz; exact K rfl h
  | _ => exact no_k h
noncomputable abbrev onLit (x : SV) (f : Int → Bool) : Bool := onInt x fun i => onN i f
theorem onLit_k {C : Cs} {V : Vl} {x : SV} {f : Int → Bool} (h : onLit x f = true) {v : Value} (hv : VRel C V v x) {P : Value → Prop} (K : ∀ z t, f z = true → P (.int z t)) : P v := onInt_k h hv fun z t _ hz h => onN_k h hz fun _ h => K z t h
theorem hp_k {α : Type} {as : SO → Option α} {C : α → SO} (ok : ∀ o x, as o = some x → o = C x) {o : Option SO} {f : α → Bool} {e : Bool} {P : Prop} (h : orO (obind o as) f e = true) (K : ∀ x, o = some (C x) → f x = true → P) (K' : e = true → P) : P := by
  cases o with
  | none => exact K' h
  | some o => exact orO_k h (fun x hx h => K x (congrArg some (ok o x hx)) h) K' 
noncomputable def asInst (o : SO) : Option (Nat × Nat) := SO.rec (motive := fun _ => Option (Nat × Nat)) (fun x0 x1 => some (x0, x1)) (fun _ => none) (fun _ => none) (fun _ => none) (fun _ => none) (fun _ => none) (fun _ => none) (fun _ _ => none) (fun _ _ => none) (fun _ => none) (fun _ => none) (fun _ => none) none (fun _ => none) (fun _ _ => none) (fun _ => none) (fun _ _ => none) (fun _ => none) (fun _ => none) (fun _ => none) (fun _ _ _ _ => none) o
theorem asInst_ok (o : SO) : ∀ x, asInst o = some x → o = .inst x.1 x.2 := by
  cases o with
  | inst => exact fun x h => Option.some.inj h ▸ rfl
  | _ => exact fun x h => no_o h
noncomputable def hpInst (σ : St) (i : Nat) (f : Nat → Nat → Bool) (e : Bool) : Bool := orO (obind (iget i σ.heap) asInst) (fun x => f x.1 x.2) e
theorem hpInst_e {σ : St} {i : Nat} {f : Nat → Nat → Bool} {e : Bool} {P : Prop} (h : hpInst σ i f e = true) (K : ∀ x0 x1, iget i σ.heap = some (.inst x0 x1) → f x0 x1 = true → P) (K' : e = true → P) : P := hp_k asInst_ok h (fun x hg h => K x.1 x.2 hg h) K'
noncomputable def asSd (o : SO) : Option (List (PySem.Str × SV)) := SO.rec (motive := fun _ => Option (List (PySem.Str × SV))) (fun _ _ => none) (fun x0 => some (x0)) (fun _ => none) (fun _ => none) (fun _ => none) (fun _ => none) (fun _ => none) (fun _ _ => none) (fun _ _ => none) (fun _ => none) (fun _ => none) (fun _ => none) none (fun _ => none) (fun _ _ => none) (fun _ => none) (fun _ _ => none) (fun _ => none) (fun _ => none) (fun _ => none) (fun _ _ _ _ => none) o
theorem asSd_ok (o : SO) : ∀ x, asSd o = some x → o = .sd x := by
  cases o with
  | sd => exact fun x h => Option.some.inj h ▸ rfl
  | _ => exact fun x h => no_o h
noncomputable def hpSd (σ : St) (i : Nat) (f : List (PySem.Str × SV) → Bool) (e : Bool) : Bool := orO (obind (iget i σ.heap) asSd) (fun x => f x) e
theorem hpSd_e {σ : St} {i : Nat} {f : List (PySem.Str × SV) → Bool} {e : Bool} {P : Prop} (h : hpSd σ i f e = true) (K : ∀ x0, iget i σ.heap = some (.sd x0) → f x0 = true → P) (K' : e = true → P) : P := hp_k asSd_ok h (fun x hg h => K x hg h) K'
noncomputable def asId (o : SO) : Option (List (Int × SV)) := SO.rec (motive := fun _ => Option (List (Int × SV))) (fun _ _ => none) (fun _ => none) (fun x0 => some (x0)) (fun _ => none) (fun _ => none) (fun _ => none) (fun _ => none) (fun _ _ => none) (fun _ _ => none) (fun _ => none) (fun _ => none) (fun _ => none) none (fun _ => none) (fun _ _ => none) (fun _ => none) (fun _ _ => none) (fun _ => none) (fun _ => none) (fun _ => none) (fun _ _ _ _ => none) o
theorem asId_ok (o : SO) : ∀ x, asId o = some x → o = .idict x := by
  cases o with
  | idict => exact fun x h => Option.some.inj h ▸ rfl
  | _ => exact fun x h => no_o h
noncomputable def hpId (σ : St) (i : Nat) (f : List (Int × SV) → Bool) (e : Bool) : Bool := orO (obind (iget i σ.heap) asId) (fun x => f x) e
theorem hpId_e {σ : St} {i : Nat} {f : List (Int × SV) → Bool} {e : Bool} {P : Prop} (h : hpId σ i f e = true) (K : ∀ x0, iget i σ.heap = some (.idict x0) → f x0 = true → P) (K' : e = true → P) : P := hp_k asId_ok h (fun x hg h => K x hg h) K'
noncomputable def asList (o : SO) : Option (List SV) := SO.rec (motive := fun _ => Option (List SV)) (fun _ _ => none) (fun _ => none) (fun _ => none) (fun x0 => some (x0)) (fun _ => none) (fun _ => none) (fun _ => none) (fun _ _ => none) (fun _ _ => none) (fun _ => none) (fun _ => none) (fun _ => none) none (fun _ => none) (fun _ _ => none) (fun _ => none) (fun _ _ => none) (fun _ => none) (fun _ => none) (fun _ => none) (fun _ _ _ _ => none) o
theorem asList_ok (o : SO) : ∀ x, asList o = some x → o = .list x := by
  cases o with
  | list => exact fun x h => Option.some.inj h ▸ rfl
  | _ => exact fun x h => no_o h
noncomputable def hpList (σ : St) (i : Nat) (f : List SV → Bool) (e : Bool) : Bool := orO (obind (iget i σ.heap) asList) (fun x => f x) e
theorem hpList_e {σ : St} {i : Nat} {f : List SV → Bool} {e : Bool} {P : Prop} (h : hpList σ i f e = true) (K : ∀ x0, iget i σ.heap = some (.list x0) → f x0 = true → P) (K' : e = true → P) : P := hp_k asList_ok h (fun x hg h => K x hg h) K'
noncomputable def asTup (o : SO) : Option (List SV) := SO.rec (motive := fun _ => Option (List SV)) (fun _ _ => none) (fun _ => none) (fun _ => none) (fun _ => none) (fun x0 => some (x0)) (fun _ => none) (fun _ => none) (fun _ _ => none) (fun _ _ => none) (fun _ => none) (fun _ => none) (fun _ => none) none (fun _ => none) (fun _ _ => none) (fun _ => none) (fun _ _ => none) (fun _ => none) (fun _ => none) (fun _ => none) (fun _ _ _ _ => none) o
theorem asTup_ok (o : SO) : ∀ x, asTup o = some x → o = .tup x := by
  cases o with
  | tup => exact fun x h => Option.some.inj h ▸ rfl
  | _ => exact fun x h => no_o h
noncomputable def hpTup (σ : St) (i : Nat) (f : List SV → Bool) (e : Bool) : Bool := orO (obind (iget i σ.heap) asTup) (fun x => f x) e
theorem hpTup_e {σ : St} {i : Nat} {f : List SV → Bool} {e : Bool} {P : Prop} (h : hpTup σ i f e = true) (K : ∀ x0, iget i σ.heap = some (.tup x0) → f x0 = true → P) (K' : e = true → P) : P := hp_k asTup_ok h (fun x hg h => K x hg h) K'
noncomputable def asBa (o : SO) : Option (SB) := SO.rec (motive := fun _ => Option (SB)) (fun _ _ => none) (fun _ => none) (fun _ => none) (fun _ => none) (fun _ => none) (fun x0 => some (x0)) (fun _ => none) (fun _ _ => none) (fun _ _ => none) (fun _ => none) (fun _ => none) (fun _ => none) none (fun _ => none) (fun _ _ => none) (fun _ => none) (fun _ _ => none) (fun _ => none) (fun _ => none) (fun _ => none) (fun _ _ _ _ => none) o
theorem asBa_ok (o : SO) : ∀ x, asBa o = some x → o = .ba x := by
  cases o with
  | ba => exact fun x h => Option.some.inj h ▸ rfl
  | _ => exact fun x h => no_o h
noncomputable def hpBa (σ : St) (i : Nat) (f : SB → Bool) (e : Bool) : Bool := orO (obind (iget i σ.heap) asBa) (fun x => f x) e
theorem hpBa_e {σ : St} {i : Nat} {f : SB → Bool} {e : Bool} {P : Prop} (h : hpBa σ i f e = true) (K : ∀ x0, iget i σ.heap = some (.ba x0) → f x0 = true → P) (K' : e = true → P) : P := hp_k asBa_ok h (fun x hg h => K x hg h) K'
noncomputable def asRgo (o : SO) : Option (Int) := SO.rec (motive := fun _ => Option (Int)) (fun _ _ => none) (fun _ => none) (fun _ => none) (fun _ => none) (fun _ => none) (fun _ => none) (fun x0 => some (x0)) (fun _ _ => none) (fun _ _ => none) (fun _ => none) (fun _ => none) (fun _ => none) none (fun _ => none) (fun _ _ => none) (fun _ => none) (fun _ _ => none) (fun _ => none) (fun _ => none) (fun _ => none) (fun _ _ _ _ => none) o
theorem asRgo_ok (o : SO) : ∀ x, asRgo o = some x → o = .rgo x := by
  cases o with
  | rgo => exact fun x h => Option.some.inj h ▸ rfl
  | _ => exact fun x h => no_o h
noncomputable def hpRgo (σ : St) (i : Nat) (f : Int → Bool) (e : Bool) : Bool := orO (obind (iget i σ.heap) asRgo) (fun x => f x) e
theorem hpRgo_e {σ : St} {i : Nat} {f : Int → Bool} {e : Bool} {P : Prop} (h : hpRgo σ i f e = true) (K : ∀ x0, iget i σ.heap = some (.rgo x0) → f x0 = true → P) (K' : e = true → P) : P := hp_k asRgo_ok h (fun x hg h => K x hg h) K'
noncomputable def asRit (o : SO) : Option (Int × Int) := SO.rec (motive := fun _ => Option (Int × Int)) (fun _ _ => none) (fun _ => none) (fun _ => none) (fun _ => none) (fun _ => none) (fun _ => none) (fun _ => none) (fun x0 x1 => some (x0, x1)) (fun _ _ => none) (fun _ => none) (fun _ => none) (fun _ => none) none (fun _ => none) (fun _ _ => none) (fun _ => none) (fun _ _ => none) (fun _ => none) (fun _ => none) (fun _ => none) (fun _ _ _ _ => none) o
theorem asRit_ok (o : SO) : ∀ x, asRit o = some x → o = .rit x.1 x.2 := by
  cases o with
  | rit => exact fun x h => Option.some.inj h ▸ rfl
  | _ => exact fun x h => no_o h
noncomputable def hpRit (σ : St) (i : Nat) (f : Int → Int → Bool) (e : Bool) : Bool := orO (obind (iget i σ.heap) asRit) (fun x => f x.1 x.2) e
theorem hpRit_e {σ : St} {i : Nat} {f : Int → Int → Bool} {e : Bool} {P : Prop} (h : hpRit σ i f e = true) (K : ∀ x0 x1, iget i σ.heap = some (.rit x0 x1) → f x0 x1 = true → P) (K' : e = true → P) : P := hp_k asRit_ok h (fun x hg h => K x.1 x.2 hg h) K'
noncomputable def asLit (o : SO) : Option (Nat × Nat) := SO.rec (motive := fun _ => Option (Nat × Nat)) (fun _ _ => none) (fun _ => none) (fun _ => none) (fun _ => none) (fun _ => none) (fun _ => none) (fun _ => none) (fun _ _ => none) (fun x0 x1 => some (x0, x1)) (fun _ => none) (fun _ => none) (fun _ => none) none (fun _ => none) (fun _ _ => none) (fun _ => none) (fun _ _ => none) (fun _ => none) (fun _ => none) (fun _ => none) (fun _ _ _ _ => none) o
theorem asLit_ok (o : SO) : ∀ x, asLit o = some x → o = .lit x.1 x.2 := by
  cases o with
  | lit => exact fun x h => Option.some.inj h ▸ rfl
  | _ => exact fun x h => no_o h
noncomputable def hpLit (σ : St) (i : Nat) (f : Nat → Nat → Bool) (e : Bool) : Bool := orO (obind (iget i σ.heap) asLit) (fun x => f x.1 x.2) e
theorem hpLit_e {σ : St} {i : Nat} {f : Nat → Nat → Bool} {e : Bool} {P : Prop} (h : hpLit σ i f e = true) (K : ∀ x0 x1, iget i σ.heap = some (.lit x0 x1) → f x0 x1 = true → P) (K' : e = true → P) : P := hp_k asLit_ok h (fun x hg h => K x.1 x.2 hg h) K'
noncomputable def asCell (o : SO) : Option (SV) := SO.rec (motive := fun _ => Option (SV)) (fun _ _ => none) (fun _ => none) (fun _ => none) (fun _ => none) (fun _ => none) (fun _ => none) (fun _ => none) (fun _ _ => none) (fun _ _ => none) (fun _ => none) (fun _ => none) (fun x0 => some (x0)) none (fun _ => none) (fun _ _ => none) (fun _ => none) (fun _ _ => none) (fun _ => none) (fun _ => none) (fun _ => none) (fun _ _ _ _ => none) o
theorem asCell_ok (o : SO) : ∀ x, asCell o = some x → o = .cell x := by
  cases o with
  | cell => exact fun x h => Option.some.inj h ▸ rfl
  | _ => exact fun x h => no_o h
noncomputable def asOpq (o : SO) : Option (Nat) := SO.rec (motive := fun _ => Option (Nat)) (fun _ _ => none) (fun _ => none) (fun _ => none) (fun _ => none) (fun _ => none) (fun _ => none) (fun _ => none) (fun _ _ => none) (fun _ _ => none) (fun _ => none) (fun _ => none) (fun _ => none) none (fun x0 => some (x0)) (fun _ _ => none) (fun _ => none) (fun _ _ => none) (fun _ => none) (fun _ => none) (fun _ => none) (fun _ _ _ _ => none) o
theorem asOpq_ok (o : SO) : ∀ x, asOpq o = some x → o = .opq x := by
  cases o with
  | opq => exact fun x h => Option.some.inj h ▸ rfl
  | _ => exact fun x h => no_o h
noncomputable def asIdF (o : SO) : Option (List (Int × SV) × Nat) := SO.rec (motive := fun _ => Option (List (Int × SV) × Nat)) (fun _ _ => none) (fun _ => none) (fun _ => none) (fun _ => none) (fun _ => none) (fun _ => none) (fun _ => none) (fun _ _ => none) (fun _ _ => none) (fun _ => none) (fun _ => none) (fun _ => none) none (fun _ => none) (fun x0 x1 => some (x0, x1)) (fun _ => none) (fun _ _ => none) (fun _ => none) (fun _ => none) (fun _ => none) (fun _ _ _ _ => none) o
theorem asIdF_ok (o : SO) : ∀ x, asIdF o = some x → o = .idictF x.1 x.2 := by
  cases o with
  | idictF => exact fun x h => Option.some.inj h ▸ rfl
  | _ => exact fun x h => no_o h
noncomputable def asSeqA (o : SO) : Option (String) := SO.rec (motive := fun _ => Option (String)) (fun _ _ => none) (fun _ => none) (fun _ => none) (fun _ => none) (fun _ => none) (fun _ => none) (fun _ => none) (fun _ _ => none) (fun _ _ => none) (fun _ => none) (fun _ => none) (fun _ => none) none (fun _ => none) (fun _ _ => none) (fun x0 => some (x0)) (fun _ _ => none) (fun _ => none) (fun _ => none) (fun _ => none) (fun _ _ _ _ => none) o
theorem asSeqA_ok (o : SO) : ∀ x, asSeqA o = some x → o = .seqA x := by
  cases o with
  | seqA => exact fun x h => Option.some.inj h ▸ rfl
  | _ => exact fun x h => no_o h
noncomputable def asBit (o : SO) : Option (SB × Nat) := SO.rec (motive := fun _ => Option (SB × Nat)) (fun _ _ => none) (fun _ => none) (fun _ => none) (fun _ => none) (fun _ => none) (fun _ => none) (fun _ => none) (fun _ _ => none) (fun _ _ => none) (fun _ => none) (fun _ => none) (fun _ => none) none (fun _ => none) (fun _ _ => none) (fun _ => none) (fun x0 x1 => some (x0, x1)) (fun _ => none) (fun _ => none) (fun _ => none) (fun _ _ _ _ => none) o
theorem asBit_ok (o : SO) : ∀ x, asBit o = some x → o = .bit x.1 x.2 := by
  cases o with
  | bit => exact fun x h => Option.some.inj h ▸ rfl
  | _ => exact fun x h => no_o h
noncomputable def hpBit (σ : St) (i : Nat) (f : SB → Nat → Bool) (e : Bool) : Bool := orO (obind (iget i σ.heap) asBit) (fun x => f x.1 x.2) e
theorem hpBit_e {σ : St} {i : Nat} {f : SB → Nat → Bool} {e : Bool} {P : Prop} (h : hpBit σ i f e = true) (K : ∀ x0 x1, iget i σ.heap = some (.bit x0 x1) → f x0 x1 = true → P) (K' : e = true → P) : P := hp_k asBit_ok h (fun x hg h => K x.1 x.2 hg h) K'
noncomputable def asPen (o : SO) : Option (Nat) := SO.rec (motive := fun _ => Option (Nat)) (fun _ _ => none) (fun _ => none) (fun _ => none) (fun _ => none) (fun _ => none) (fun _ => none) (fun _ => none) (fun _ _ => none) (fun _ _ => none) (fun _ => none) (fun _ => none) (fun _ => none) none (fun _ => none) (fun _ _ => none) (fun _ => none) (fun _ _ => none) (fun x0 => some (x0)) (fun _ => none) (fun _ => none) (fun _ _ _ _ => none) o
theorem asPen_ok (o : SO) : ∀ x, asPen o = some x → o = .pen x := by
  cases o with
  | pen => exact fun x h => Option.some.inj h ▸ rfl
  | _ => exact fun x h => no_o h
noncomputable def hpPen (σ : St) (i : Nat) (f : Nat → Bool) (e : Bool) : Bool := orO (obind (iget i σ.heap) asPen) (fun x => f x) e
theorem hpPen_e {σ : St} {i : Nat} {f : Nat → Bool} {e : Bool} {P : Prop} (h : hpPen σ i f e = true) (K : ∀ x0, iget i σ.heap = some (.pen x0) → f x0 = true → P) (K' : e = true → P) : P := hp_k asPen_ok h (fun x hg h => K x hg h) K'
noncomputable def asPenA (o : SO) : Option (Nat) := SO.rec (motive := fun _ => Option (Nat)) (fun _ _ => none) (fun _ => none) (fun _ => none) (fun _ => none) (fun _ => none) (fun _ => none) (fun _ => none) (fun _ _ => none) (fun _ _ => none) (fun _ => none) (fun _ => none) (fun _ => none) none (fun _ => none) (fun _ _ => none) (fun _ => none) (fun _ _ => none) (fun _ => none) (fun x0 => some (x0)) (fun _ => none) (fun _ _ _ _ => none) o
theorem asPenA_ok (o : SO) : ∀ x, asPenA o = some x → o = .penA x := by
  cases o with
  | penA => exact fun x h => Option.some.inj h ▸ rfl
  | _ => exact fun x h => no_o h
noncomputable def hpPenA (σ : St) (i : Nat) (f : Nat → Bool) (e : Bool) : Bool := orO (obind (iget i σ.heap) asPenA) (fun x => f x) e
theorem hpPenA_e {σ : St} {i : Nat} {f : Nat → Bool} {e : Bool} {P : Prop} (h : hpPenA σ i f e = true) (K : ∀ x0, iget i σ.heap = some (.penA x0) → f x0 = true → P) (K' : e = true → P) : P := hp_k asPenA_ok h (fun x hg h => K x hg h) K'
noncomputable def asTab (o : SO) : Option (PySem.Str) := SO.rec (motive := fun _ => Option (PySem.Str)) (fun _ _ => none) (fun _ => none) (fun _ => none) (fun _ => none) (fun _ => none) (fun _ => none) (fun _ => none) (fun _ _ => none) (fun _ _ => none) (fun _ => none) (fun _ => none) (fun _ => none) none (fun _ => none) (fun _ _ => none) (fun _ => none) (fun _ _ => none) (fun _ => none) (fun _ => none) (fun x0 => some (x0)) (fun _ _ _ _ => none) o
theorem asTab_ok (o : SO) : ∀ x, asTab o = some x → o = .tab x := by
  cases o with
  | tab => exact fun x h => Option.some.inj h ▸ rfl
  | _ => exact fun x h => no_o h
noncomputable def asLam (o : SO) : Option (PySem.Expr × Scope × PySem.Str × List (PySem.Str × SV)) := SO.rec (motive := fun _ => Option (PySem.Expr × Scope × PySem.Str × List (PySem.Str × SV))) (fun _ _ => none) (fun _ => none) (fun _ => none) (fun _ => none) (fun _ => none) (fun _ => none) (fun _ => none) (fun _ _ => none) (fun _ _ => none) (fun _ => none) (fun _ => none) (fun _ => none) none (fun _ => none) (fun _ _ => none) (fun _ => none) (fun _ _ => none) (fun _ => none) (fun _ => none) (fun _ => none) (fun x0 x1 x2 x3 => some (x0, x1, x2, x3)) o
theorem asLam_ok (o : SO) : ∀ x, asLam o = some x → o = .lam x.1 x.2.1 x.2.2.1 x.2.2.2 := by
  cases o with
  | lam => exact fun x h => Option.some.inj h ▸ rfl
  | _ => exact fun x h => no_o h
noncomputable def asExc (o : SO) : Option (Nat) := SO.rec (motive := fun _ => Option (Nat)) (fun _ _ => none) (fun _ => none) (fun _ => none) (fun _ => none) (fun _ => none) (fun _ => none) (fun _ => none) (fun _ _ => none) (fun _ _ => none) (fun x0 => some (x0)) (fun _ => none) (fun _ => none) none (fun _ => none) (fun _ _ => none) (fun _ => none) (fun _ _ => none) (fun _ => none) (fun _ => none) (fun _ => none) (fun _ _ _ _ => none) o
theorem asExc_ok (o : SO) : ∀ x, asExc o = some x → o = .exc x := by
  cases o with
  | exc => exact fun x h => Option.some.inj h ▸ rfl
  | _ => exact fun x h => no_o h
noncomputable def asExcd (o : SO) : Option (PySem.Str) := SO.rec (motive := fun _ => Option (PySem.Str)) (fun _ _ => none) (fun _ => none) (fun _ => none) (fun _ => none) (fun _ => none) (fun _ => none) (fun _ => none) (fun _ _ => none) (fun _ _ => none) (fun _ => none) (fun x0 => some (x0)) (fun _ => none) none (fun _ => none) (fun _ _ => none) (fun _ => none) (fun _ _ => none) (fun _ => none) (fun _ => none) (fun _ => none) (fun _ _ _ _ => none) o
theorem asExcd_ok (o : SO) : ∀ x, asExcd o = some x → o = .excd x := by
  cases o with
  | excd => exact fun x h => Option.some.inj h ▸ rfl
  | _ => exact fun x h => no_o h
noncomputable def mapO {α β : Type} (f : α → Option β) (l : List α) : Option (List β) := List.rec (some []) (fun x _ ih => opO (f x) fun y => opO ih fun r => some (y :: r)) l
theorem mapO_ok {α β γ : Type} {R : γ → α → Prop} {S : γ → β → Prop} {f : α → Option β} (hf : ∀ v x y, R v x → f x = some y → S v y) {vs : List γ} {xs : List α} (h : All2 R vs xs) : ∀ {ys : List β}, mapO f xs = some ys → All2 S vs ys := by
  induction h with
  | nil => intro ys e; obtain rfl := Option.some.inj e; exact .nil
  | cons h1 _ ih => intro ys e; refine opO_k e fun y hy e => opO_k e fun r hr e => ?_; obtain rfl := Option.some.inj e; exact .cons (hf _ _ _ h1 hy) (ih hr)
noncomputable def onCons {α : Type} (l : List α) (f : α → List α → Bool) : Bool := List.rec false (fun x r _ => f x r) l
theorem onCons_k {α : Type} {l : List α} {f : α → List α → Bool} (h : onCons l f = true) {P : Prop} (K : ∀ x r, l = x :: r → f x r = true → P) : P := by
  cases l with
  | nil => exact no_k h
  | cons x r => exact K x r rfl h
theorem all2_cons {α β : Type} {R : α → β → Prop} {as : List α} {b : β} {bs : List β} (h : All2 R as (b :: bs)) : ∃ a as', as = a :: as' ∧ R a b ∧ All2 R as' bs := by cases h with | cons h r => exact ⟨_, _, rfl, h, r⟩
theorem All2.eq {α : Type} {as bs : List α} (h : All2 (fun a b => a = b) as bs) : as = bs := by
  induction h with
  | nil => rfl
  | cons h _ ih => rw [h, ih]
noncomputable def all2O {α β : Type} (f : α → β → Option Unit) (a : List α) : List β → Option Unit := List.rec (motive := fun _ => List β → Option Unit) (fun b => List.rec (some ()) (fun _ _ _ => none) b) (fun x _ ih b => List.rec none (fun y r _ => opO (f x y) fun _ => ih r) b) a
theorem all2O_ok {α β γ δ : Type} {R : γ → α → Prop} {S : δ → β → Prop} {P : γ → δ → Prop} {f : α → β → Option Unit} (hf : ∀ v u a b r, R v a → S u b → f a b = some r → P v u) {vs : List γ} {as : List α} (h1 : All2 R vs as) : ∀ {us : List δ} {bs : List β} {r : Unit}, All2 S us bs → all2O f as bs = some r → All2 P vs us := by
  induction h1 with
  | nil =>
    intro us bs r h2 h
    cases h2 with
    | nil => exact .nil
    | cons => exact no_o h
  | cons h1 _ ih =>
    intro us bs r h2 h
    cases h2 with
    | nil => exact no_o h
    | cons h2 r => exact opO_k h fun _ q h => .cons (hf _ _ _ _ _ h1 h2 q) (ih r h)
theorem get_k {α : Type} {as : SO → Option α} {C : α → SO} (ok : ∀ o x, as o = some x → o = C x) {o : Option SO} {x : α} (h : obind o as = some x) : o = some (C x) := by
  cases o with
  | none => exact no_o h
  | some o => exact congrArg some (ok o x h)
noncomputable def svLit (x : SV) : Option Int := opO (svInt x) siN
theorem svLit_k {C : Cs} {V : Vl} {x : SV} {n : Int} (h : svLit x = some n) {v : Value} (hv : VRel C V v x) {P : Value → Prop} (K : ∀ t, P (.int n t)) : P v := opO_k h fun i hi h => svInt_k hi hv (P := P) fun z t hz => by rw [siN_e hz h]; exact K t
noncomputable def cellO (o : SO) : Bool := Nat.beq o.ctorIdx 11 || Nat.beq o.ctorIdx 12
theorem cellO_I {o : SO} (h : cellO o = true) {v : SV} : isI (.cell v) = isI o := by
  cases o <;> first | rfl | exact no_k h
theorem svRef_ok {x : SV} {i : Nat} (h : svRef x = some i) : x = .ref i := by
  cases x
  case ref => exact Option.some.inj h ▸ rfl
  all_goals exact no_o h
theorem svObj_ok {x : SV} {i : Nat} (h : svObj x = some i) : x = .obj i := by
  cases x
  case obj => exact Option.some.inj h ▸ rfl
  all_goals exact no_o h
theorem svInt_ok {x : SV} {i : SI} (h : svInt x = some i) : x = .int i := by
  cases x
  case int => exact Option.some.inj h ▸ rfl
  all_goals exact no_o h
theorem svStr_ok {x : SV} {i : PySem.Str} (h : svStr x = some i) : x = .str i := by
  cases x
  case str => exact Option.some.inj h ▸ rfl
  all_goals exact no_o h
theorem svTy_ok {x : SV} {i : String} (h : svTy x = some i) : x = .ty i := by
  cases x
  case ty => exact Option.some.inj h ▸ rfl
  all_goals exact no_o h
theorem svBi_ok {x : SV} {i : String} (h : svBi x = some i) : x = .bi i := by
  cases x
  case bi => exact Option.some.inj h ▸ rfl
  all_goals exact no_o h
theorem svBy_ok {x : SV} {i : SB} (h : svBy x = some i) : x = .bytes i := by
  cases x
  case bytes => exact Option.some.inj h ▸ rfl
  all_goals exact no_o h
theorem svBo_ok {x : SV} {i : Bool} (h : svBo x = some i) : x = .bool i := by
  cases x
  case bool => exact Option.some.inj h ▸ rfl
  all_goals exact no_o h
noncomputable def svFoul (x : SV) : Option Nat := SV.rec (motive := fun _ => Option Nat) none (fun _ => none) (fun _ => none) (fun _ => none) (fun _ => none) (fun _ => none) (fun _ => none) (fun _ => none) (fun _ => none) some none x
theorem svFoul_ok {x : SV} {i : Nat} (h : svFoul x = some i) : x = .foul i := by
  cases x
  case foul => exact Option.some.inj h ▸ rfl
  all_goals exact no_o h
theorem ref_inj {i j : Nat} (h : SV.ref i = .ref j) : i = j := Option.some.inj (congrArg svRef h)
noncomputable def exNe (e : PySem.Expr) (i : Nat) : Bool := !Nat.beq e.ctorIdx i
noncomputable def exName (e : PySem.Expr) : Option (PySem.Str × Pos) := PySem.Expr.casesOn (motive_1 := fun _ => Option (PySem.Str × Pos)) e (fun _ _ _ => none) (fun _ _ _ => none) (fun _ _ _ _ => none) (fun _ _ _ => none) (fun _ _ _ _ => none) (fun _ _ _ _ => none) (fun _ _ _ => none) (fun _ _ _ => none) (fun _ _ _ _ => none) (fun _ _ _ _ => none) (fun _ _ _ _ _ => none) (fun _ _ _ _ => none) (fun _ _ => none) (fun _ _ => none) (fun _ _ => none) (fun _ _ _ _ => none) (fun _ _ _ _ => none) (fun _ _ _ _ => none) (fun _ _ => none) (fun _ _ _ => none) (fun _ _ _ => none) (fun _ _ _ => none) (fun _ _ => none) (fun x0 x1 => some (x0, x1)) (fun _ _ => none) (fun _ _ _ => none) (fun _ _ _ _ => none)
theorem exName_ok {e : PySem.Expr} {x : PySem.Str × Pos} (h : exName e = some x) : e = .Name x.1 x.2 := by
  cases e
  case Name => exact Option.some.inj h ▸ rfl
  all_goals exact no_o h
noncomputable def exSubscript (e : PySem.Expr) : Option (PySem.Expr × PySem.Expr × Pos) := PySem.Expr.casesOn (motive_1 := fun _ => Option (PySem.Expr × PySem.Expr × Pos)) e (fun _ _ _ => none) (fun _ _ _ => none) (fun _ _ _ _ => none) (fun _ _ _ => none) (fun _ _ _ _ => none) (fun _ _ _ _ => none) (fun _ _ _ => none) (fun _ _ _ => none) (fun _ _ _ _ => none) (fun _ _ _ _ => none) (fun _ _ _ _ _ => none) (fun _ _ _ _ => none) (fun _ _ => none) (fun _ _ => none) (fun _ _ => none) (fun _ _ _ _ => none) (fun _ _ _ _ => none) (fun _ _ _ _ => none) (fun _ _ => none) (fun _ _ _ => none) (fun _ _ _ => none) (fun x0 x1 x2 => some (x0, x1, x2)) (fun _ _ => none) (fun _ _ => none) (fun _ _ => none) (fun _ _ _ => none) (fun _ _ _ _ => none)
theorem exSubscript_ok {e : PySem.Expr} {x : PySem.Expr × PySem.Expr × Pos} (h : exSubscript e = some x) : e = .Subscript x.1 x.2.1 x.2.2 := by
  cases e
  case Subscript => exact Option.some.inj h ▸ rfl
  all_goals exact no_o h
noncomputable def exTuple (e : PySem.Expr) : Option (List PySem.Expr × Nat × Pos) := PySem.Expr.casesOn (motive_1 := fun _ => Option (List PySem.Expr × Nat × Pos)) e (fun _ _ _ => none) (fun _ _ _ => none) (fun _ _ _ _ => none) (fun _ _ _ => none) (fun _ _ _ _ => none) (fun _ _ _ _ => none) (fun _ _ _ => none) (fun _ _ _ => none) (fun _ _ _ _ => none) (fun _ _ _ _ => none) (fun _ _ _ _ _ => none) (fun _ _ _ _ => none) (fun _ _ => none) (fun _ _ => none) (fun _ _ => none) (fun _ _ _ _ => none) (fun _ _ _ _ => none) (fun _ _ _ _ => none) (fun _ _ => none) (fun _ _ _ => none) (fun _ _ _ => none) (fun _ _ _ => none) (fun _ _ => none) (fun _ _ => none) (fun _ _ => none) (fun x0 x1 x2 => some (x0, x1, x2)) (fun _ _ _ _ => none)
theorem exTuple_ok {e : PySem.Expr} {x : List PySem.Expr × Nat × Pos} (h : exTuple e = some x) : e = .Tuple x.1 x.2.1 x.2.2 := by
  cases e
  case Tuple => exact Option.some.inj h ▸ rfl
  all_goals exact no_o h
noncomputable def exSlice (e : PySem.Expr) : Option (Option PySem.Expr × Option PySem.Expr × Option PySem.Expr × Pos) := PySem.Expr.casesOn (motive_1 := fun _ => Option (Option PySem.Expr × Option PySem.Expr × Option PySem.Expr × Pos)) e (fun _ _ _ => none) (fun _ _ _ => none) (fun _ _ _ _ => none) (fun _ _ _ => none) (fun _ _ _ _ => none) (fun _ _ _ _ => none) (fun _ _ _ => none) (fun _ _ _ => none) (fun _ _ _ _ => none) (fun _ _ _ _ => none) (fun _ _ _ _ _ => none) (fun _ _ _ _ => none) (fun _ _ => none) (fun _ _ => none) (fun _ _ => none) (fun _ _ _ _ => none) (fun _ _ _ _ => none) (fun _ _ _ _ => none) (fun _ _ => none) (fun _ _ _ => none) (fun _ _ _ => none) (fun _ _ _ => none) (fun _ _ => none) (fun _ _ => none) (fun _ _ => none) (fun _ _ _ => none) (fun x0 x1 x2 x3 => some (x0, x1, x2, x3))
theorem exSlice_ok {e : PySem.Expr} {x : Option PySem.Expr × Option PySem.Expr × Option PySem.Expr × Pos} (h : exSlice e = some x) : e = .Slice x.1 x.2.1 x.2.2.1 x.2.2.2 := by
  cases e
  case Slice => exact Option.some.inj h ▸ rfl
  all_goals exact no_o h
noncomputable def exAttribute (e : PySem.Expr) : Option (PySem.Expr × PySem.Str × Pos) := PySem.Expr.casesOn (motive_1 := fun _ => Option (PySem.Expr × PySem.Str × Pos)) e (fun _ _ _ => none) (fun _ _ _ => none) (fun _ _ _ _ => none) (fun _ _ _ => none) (fun _ _ _ _ => none) (fun _ _ _ _ => none) (fun _ _ _ => none) (fun _ _ _ => none) (fun _ _ _ _ => none) (fun _ _ _ _ => none) (fun _ _ _ _ _ => none) (fun _ _ _ _ => none) (fun _ _ => none) (fun _ _ => none) (fun _ _ => none) (fun _ _ _ _ => none) (fun _ _ _ _ => none) (fun _ _ _ _ => none) (fun _ _ => none) (fun _ _ _ => none) (fun x0 x1 x2 => some (x0, x1, x2)) (fun _ _ _ => none) (fun _ _ => none) (fun _ _ => none) (fun _ _ => none) (fun _ _ _ => none) (fun _ _ _ _ => none)
theorem exAttribute_ok {e : PySem.Expr} {x : PySem.Expr × PySem.Str × Pos} (h : exAttribute e = some x) : e = .Attribute x.1 x.2.1 x.2.2 := by
  cases e
  case Attribute => exact Option.some.inj h ▸ rfl
  all_goals exact no_o h
noncomputable def exCall (e : PySem.Expr) : Option (PySem.Expr × List PySem.Expr × List Keyword × Pos) := PySem.Expr.casesOn (motive_1 := fun _ => Option (PySem.Expr × List PySem.Expr × List Keyword × Pos)) e (fun _ _ _ => none) (fun _ _ _ => none) (fun _ _ _ _ => none) (fun _ _ _ => none) (fun _ _ _ _ => none) (fun _ _ _ _ => none) (fun _ _ _ => none) (fun _ _ _ => none) (fun _ _ _ _ => none) (fun _ _ _ _ => none) (fun _ _ _ _ _ => none) (fun _ _ _ _ => none) (fun _ _ => none) (fun _ _ => none) (fun _ _ => none) (fun _ _ _ _ => none) (fun x0 x1 x2 x3 => some (x0, x1, x2, x3)) (fun _ _ _ _ => none) (fun _ _ => none) (fun _ _ _ => none) (fun _ _ _ => none) (fun _ _ _ => none) (fun _ _ => none) (fun _ _ => none) (fun _ _ => none) (fun _ _ _ => none) (fun _ _ _ _ => none)
noncomputable def nodupB (l : List PySem.Str) : Bool := List.rec true (fun n r ih => (r.all fun y => !seq n y) && ih) l
noncomputable def paramsIn (p : Arguments) : Option (List PySem.Str) := opB (p.posonlyargs.isEmpty && (p.vararg.isNone && (p.kwonlyargs.isEmpty && p.kwarg.isNone))) (some (p.args.map (·.arg)))
noncomputable def cellNs (fd : FuncData) : List PySem.Str := (cellsFrom 0 fd.scope.names []).map (·.1)
structure FnIs (K : Frag) (fd : FuncData) : Prop where
  g : fd.globals = mainGlobals
  b : fd.builtins = builtinsNs
  cl : fd.closure = []
  cd : codeIn K fd.code fd.qualname = true
  co : fd.scope.isCoroutine = false
  gn : fd.scope.isGenerator = false
  k : fd.scope.kind = .function
noncomputable def fnOk0 (K : Frag) (fd : FuncData) : Bool := Nat.beq fd.globals mainGlobals && (Nat.beq fd.builtins builtinsNs && (fd.closure.isEmpty && (codeIn K fd.code fd.qualname && (decide (fd.scope.isCoroutine = false) && (decide (fd.scope.isGenerator = false) && decide (fd.scope.kind = .function))))))
theorem fnOk0_ok {K : Frag} {fd : FuncData} (h : fnOk0 K fd = true) : FnIs K fd :=
  and_k h fun h1 h => and_k h fun h2 h => and_k h fun h3 h => and_k h fun h4 h => dec_k h fun h5 h => dec_k h fun h6 h => ⟨Nat.eq_of_beq_eq_true h1, Nat.eq_of_beq_eq_true h2, List.isEmpty_iff.mp h3, h4, h5, h6, of_decide_eq_true h⟩
noncomputable def fnOk (K : Frag) (b : Bool) (fd : FuncData) (ns : List PySem.Str) : Bool := fnOk0 K fd && (nodupB ns && orB b (nodupB (cellNs fd) && ((cellNs fd).all (fun n => fd.scope.names.lookup n != some .local) && ns.all fun n => fd.scope.names.lookup n == some .local || fd.scope.names.lookup n == some .cell)) (fd.scope.names.all (fun x => decide (x.2 ≠ .cell)) && ns.all fun n => decide (fd.scope.names.lookup n = some .local)))
noncomputable def dFunc (d : Data) : Option FuncData := match d with | .func f => some f | _ => none
theorem dFunc_ok {d : Data} {f : FuncData} (h : dFunc d = some f) : d = .func f := by
  cases d
  case func => exact Option.some.inj h ▸ rfl
  all_goals exact no_o h
noncomputable def dSts (b : FuncBody) : Option (List Stmt) := match b with | .stmts l => some l | .expr _ => none
theorem dSts_ok {b : FuncBody} {l : List Stmt} (h : dSts b = some l) : b = .stmts l := by
  cases b with
  | stmts => exact Option.some.inj h ▸ rfl
  | expr => exact no_o h
noncomputable def fnR (K : Frag) (a : Nat) : Option (FuncData × List PySem.Str × List Stmt) := opO (kgt a K) fun o => opO (dFunc o.data) fun fd => opO (paramsIn fd.params) fun ns => opO (dSts fd.body) fun body => some (fd, ns, body)
theorem fnR_ok {K : Frag} {a : Nat} {r : FuncData × List PySem.Str × List Stmt} (h : fnR K a = some r) : ∃ oc od osl, K.lookup a = some ⟨oc, od, .func r.1, osl⟩ ∧ paramsIn r.1.params = some r.2.1 ∧ r.1.body = .stmts r.2.2 :=
  opO_k h fun o ho h => opO_k h fun fd hf h => opO_k h fun ns hn h => opO_k h fun body hb h => by
    refine Classical.byContradiction fun nO => ?_
    obtain rfl := Option.some.inj h
    obtain ⟨oc, od, dt, osl⟩ := o
    refine nO ?_
    rw [kgt_eq] at ho
    exact ⟨oc, od, osl, by rw [ho, show dt = .func fd from dFunc_ok hf], hn, dSts_ok hb⟩
noncomputable def fnB (K : Frag) (f : Nat) (b : Bool) : Bool := keepIn K (.ref f) && onO (fnR K f) fun r => fnOk K b r.1 r.2.1
inductive At where
  | m (f : Nat) | a
noncomputable def valB (u : Value) (v : SV) : Bool := match u with
  | .ref a => onO (svObj v) fun b => Nat.beq a b
  | .int n _ => onO (svInt v) fun i => onO (siN i) fun m => decide (n = m)
  | .str s _ => onO (svStr v) fun t => seq s t
  | .type t => onO (svTy v) fun t' => decide (t = t')
  | .builtin t => onO (svBi v) fun t' => decide (t = t')
  | _ => false
noncomputable def globB (K : Frag) (x : PySem.Str) (v : SV) : Bool := onO (nsIn K mainGlobals x) fun o => orO o (fun u => valB u v) (!seq x (Str.ofString "__name__") && onO (bootBuiltins x) fun u => valB u v)
noncomputable def atB (K : Frag) (C : Nat) (x : PySem.Str) (a : At) : Bool := plainGet K C x && At.rec (motive := fun _ => Bool) (fun f => decide (findIn K (.ref C) x = some (some (.ref f))) && isFn K (.ref f)) (hasDictIn K C && (onO (findIn K (.ref C) x) (noGet K) && (decide (findIn K (.ref C) "__setattr__" = some (some (.builtin "object.__setattr__"))) && (plainOver K C && decide (takerIn K C x = some none))))) a
noncomputable def cfVal (r : CFound) : Option Value := match r with | .val v => some v | _ => none
theorem cfVal_ok {r : CFound} {v : Value} (h : cfVal r = some v) : r = .val v := by
  cases r
  case val => exact Option.some.inj h ▸ rfl
  all_goals exact no_o h
noncomputable def caB (K : Frag) (C : Nat) (x : PySem.Str) (a : Nat) : Bool := decide (specialIn K (.ref C) "__getattribute__" = some (some (.builtin "type.__getattribute__"))) && onO (typeIn K (.ref C)) fun mc => readsIn K C mc && onO (findCls K (.ref C) mc x) fun r => onO (cfVal r) fun v => decide (v = .ref a)
noncomputable def clsB (K : Frag) (C fI : Nat) : Bool := makesIn K C && (isFn K (.ref fI) && (keepIn K (.ref C) && decide (findIn K (.ref C) "__init__" = some (some (.ref fI)))))
theorem valB_ok {C : Cs} {V : Vl} {u : Value} {v : SV} (h : valB u v = true) : VRel C V u v := by
  cases u
  case ref => refine onO_k h fun b hb h => ?_; rw [svObj_ok hb, ← Nat.eq_of_beq_eq_true h]; exact .obj _
  case int t => 
    refine onO_k h fun i hi h => onO_k h fun m hm h => ?_
    rw [svInt_ok hi, siN_ok hm, ← of_decide_eq_true h]; exact .int t rfl
  case str t => refine onO_k h fun b hb h => ?_; rw [svStr_ok hb, ← seq_iff.mp h]; exact .str _ t
  case type => refine onO_k h fun b hb h => ?_; rw [svTy_ok hb, ← of_decide_eq_true h]; exact .ty _
  case builtin => refine onO_k h fun b hb h => ?_; rw [svBi_ok hb, ← of_decide_eq_true h]; exact .bi _
  all_goals exact no_k h

inductive Tk where
  | ex (e : PySem.Expr) | ars (es : List PySem.Expr) | st (s : Stmt) | sts (ss : List Stmt) | tst (e : PySem.Expr) | call (f : SV) (args : List SV) | loop (it : Nat) (t : PySem.Expr) (body : List Stmt) | whl (t : PySem.Expr) (body : List Stmt)
inductive Rs where
  | v (x : SV) | vs (l : List SV) | nx | rt (x : SV) | bk | b (x : Bool)
noncomputable abbrev Kt := Rs → St → Bool
structure Sc where
  sc : Scope
  cells : List (PySem.Str × SV)
  comp : Option (Nat × PySem.Str × SV)
  /-- nothing may be raised -/
  q : Bool
  /-- in clean contexts alone -/
  cl : Bool
  /-- the table of the frame's code, and the name of the functions made there -/
  tb : Option (Nat × PySem.Str)
noncomputable def Sc.any (sc : Sc) : Sc := { sc with cl := false }
noncomputable abbrev Ev := Sc → Nat → Tk → St → Kt → Bool
inductive FRel (C : Cs) (V : Vl) : Flow → Rs → Prop
  | nx : FRel C V .next .nx
  | rt {v : Value} {x : SV} : VRel C V v x → FRel C V (.ret v) (.rt x)
  | bk : FRel C V .brk .bk
structure Cfg where
  K : Frag
  /-- global names -/
  gl : List (PySem.Str × SV)
  /-- attributes of the instances of classes -/
  ct : List (Nat × List (PySem.Str × At))
  /-- attributes of classes -/
  ca : List (Nat × List (PySem.Str × Nat))
  /-- classes that are called -/
  cs : List (Nat × Nat)
  /-- functions (true: with cells) -/
  fo : List (Nat × Bool)
  /-- bounds of the letters -/
  bd : List (Int × Int)
  /-- lengths of the letters that stand for octets -/
  bl : List SI
  /-- the buckets: letter, mask, place -/
  hs : List (Nat × Nat × Int × Int)
  /-- the octets that are noughts, as many as this number -/
  zl : Option (Nat × SI)
  /-- the draws: how many, what is drawn -/
  dr : List (Int × SI)
  /-- octets of one draw: the draw, how many, the letter -/
  oc : List (Nat × SI × Nat)
  /-- whether the contracts of octets and of foul things stand -/
  fl : Bool
  /-- the frames of at least this depth left do not raise themselves -/
  top : Nat
  /-- what may be raised -/
  kx : PySem.Str → St → Bool
noncomputable def ExcOk (prog : Program) (w : PySem.World) (K : Frag) (p : Program) (loose : List PySem.Str) : Prop :=
  ∀ {A : Around} {cn : PySem.Str} {cs : Scope} {a : Addr} {ccd : Value} {cl : List (PySem.Str × Addr)} {outer : List Env} {A₀ : Around} {base h₀ : Heap} {L : Addr} {m : PySem.Str → Option Value} {news : List (Addr × Obj)} {s : Shared} {Q E : Value → Shared → Prop} {what : PySem.Str} {tk : Tok}, Below A₀ base outer h₀ → Fr h₀ L s.heap m → K.In h₀ → News h₀ L s.heap news → (∃ mean mg mb, Top p loose mean mg mb h₀) → cs.kind = .function → A.frames = some (envX cn cs L a ccd cl :: outer) → A.handled = none → A.depth + 3 ≤ 900 → A.units + 60 ≤ 9000 →
    (∀ e dx t ta tb h' tk', Fr h₀ L h' m → News h₀ L h' ((e, excD 59 t dx) :: (dx, excDict w what tk ta tb) :: news) → e ≠ dx → (∀ p ∈ news, p.1 ≠ e) → (∀ p ∈ news, p.1 ≠ dx) → Q (.ref e) { s with heap := h', toks := tk' }) →
    wpAny (model prog w) A (call (.ref 59) [.str what tk]) Q E s
noncomputable def DrawOk (prog : Program) (w : PySem.World) (K : Frag) (p : Program) (loose : List PySem.Str) : Prop :=
  ∀ {A : Around} {cn : PySem.Str} {cs : Scope} {a : Addr} {ccd : Value} {cl : List (PySem.Str × Addr)} {outer : List Env} {A₀ : Around} {base h₀ : Heap} {L : Addr} {m : PySem.Str → Option Value} {news : List (Addr × Obj)} {s : Shared} {Q E : Value → Shared → Prop} {P : Addr} {x y : Int} {tx ty tm : Tok} {c : Nat} {g : Obj → List (Addr × Obj)} {many : Int}, Below A₀ base outer h₀ → Fr h₀ L s.heap m → K.In h₀ → News h₀ L s.heap news → (∃ mean mg mb, Top p loose mean mg mb h₀) → cs.kind = .function → A.frames = some (envX cn cs L a ccd cl :: outer) → A.handled = none → A.depth + 3 ≤ 900 → A.units + 60 ≤ 9000 →
    UpdF P (Mine.pen x y tx ty c) news g → 0 ≤ x → x < big → 0 ≤ y → y < 2 ^ 20 → 1 ≤ many →
    (∀ td tx' ty' c' h' tk', 0 ≤ dgt (x, y) many → dgt (x, y) many < many → 0 ≤ (nxt (x, y) many).1 → (nxt (x, y) many).1 < big → Fr h₀ L h' m → News h₀ L h' (g (Mine.pen (nxt (x, y) many).1 (nxt (x, y) many).2 tx' ty' c')) → Q (.int (dgt (x, y) many) td) { s with heap := h', toks := tk' }) →
    wpAny (model prog w) A (call (.ref 1308) [.ref P, .int many tm]) Q E s
noncomputable def OctOk (prog : Program) (w : PySem.World) (K : Frag) (p : Program) (loose : List PySem.Str) : Prop :=
  ∀ {A : Around} {cn : PySem.Str} {cs : Scope} {a : Addr} {ccd : Value} {cl : List (PySem.Str × Addr)} {outer : List Env} {A₀ : Around} {base h₀ : Heap} {L : Addr} {m : PySem.Str → Option Value} {news : List (Addr × Obj)} {s : Shared} {Q E : Value → Shared → Prop} {P : Addr} {x y n : Int} {tx ty tm : Tok} {c : Nat} {g : Obj → List (Addr × Obj)}, Below A₀ base outer h₀ → Fr h₀ L s.heap m → K.In h₀ → News h₀ L s.heap news → (∃ mean mg mb, Top p loose mean mg mb h₀) → cs.kind = .function → A.frames = some (envX cn cs L a ccd cl :: outer) → A.handled = none → A.depth + 4 ≤ 900 → A.units + 80 ≤ 9000 →
    UpdF P (Mine.pen x y tx ty c) news g → 0 ≤ x → x < big → 0 ≤ y → y ≤ 2000 → 1 ≤ n → n ≤ 4 →
    (∀ b td tx' ty' c' h' tk', KBw.bInts b = List.replicate n.toNat (dgt (x, y) 256) → 0 ≤ (nxt (x, y) 256).1 → (nxt (x, y) 256).1 < big → Fr h₀ L h' m → News h₀ L h' (g (Mine.pen (nxt (x, y) 256).1 (nxt (x, y) 256).2 tx' ty' c')) → Q (.bytes b td) { s with heap := h', toks := tk' }) →
    wpAny (model prog w) A (call (.ref 1315) [.ref P, .int n tm]) Q E s
noncomputable def FoulIs (b : Array UInt8) (extra : List (Addr × Obj)) (v : Value) : Prop := (extra = [] ∧ ∃ b' t, v = .bytes b' t ∧ ((KBw.bInts b').length = (KBw.bInts b).length + 1 ∨ (KBw.bInts b').length + 1 = (KBw.bInts b).length)) ∨ (extra = [] ∧ ((∃ x t, v = .int x t) ∨ ∃ z t, v = .str z t)) ∨ ∃ a o, extra = [(a, o)] ∧ v = .ref a ∧ (o.cls = .type "list" ∨ o.cls = .type "tuple")
noncomputable def FoulOk (prog : Program) (w : PySem.World) (K : Frag) (p : Program) (loose : List PySem.Str) : Prop :=
  ∀ {A : Around} {cn : PySem.Str} {cs : Scope} {a : Addr} {ccd : Value} {cl : List (PySem.Str × Addr)} {outer : List Env} {A₀ : Around} {base h₀ : Heap} {L : Addr} {m : PySem.Str → Option Value} {news : List (Addr × Obj)} {s : Shared} {Q E : Value → Shared → Prop} {P : Addr} {x y : Int} {tx ty tm : Tok} {b : Array UInt8} {c : Nat} {g : Obj → List (Addr × Obj)}, Below A₀ base outer h₀ → Fr h₀ L s.heap m → K.In h₀ → News h₀ L s.heap news → (∃ mean mg mb, Top p loose mean mg mb h₀) → cs.kind = .function → A.frames = some (envX cn cs L a ccd cl :: outer) → A.handled = none → A.depth + 4 ≤ 900 → A.units + 80 ≤ 9000 →
    UpdF P (Mine.pen x y tx ty c) news g → 0 ≤ x → x < big → 0 ≤ y → y ≤ 2000 → (KBw.bInts b).length ≤ 50 →
    (∀ v x' y' tx' ty' c' h' tk' extra, FoulIs b extra v → (∀ e ∈ extra, ∀ p ∈ news, p.1 ≠ e.1) → 0 ≤ x' → x' < big → 0 ≤ y' → y' ≤ y + 1 → Fr h₀ L h' m → News h₀ L h' (extra ++ g (Mine.pen x' y' tx' ty' c')) → Q v { s with heap := h', toks := tk' }) →
    wpAny (model prog w) A (call (.ref 1329) [.ref P, .bytes b tm]) Q E s
noncomputable def ExcCls (K : Frag) : Prop := ∃ nm q N' bs bm hdct sn sub ab col dd k0 k1 k2 k3 k5 newId, K.lookup 59 = some (excClassObj nm q 59 N' bs bm hdct sn sub ab col dd k0 k1 k2 k3 k5 newId) ∧ (Value.ref 59 :: bm).contains (.type "BaseException") = true
structure Gv where
  prog : Program
  w : PySem.World
  cf : Cfg
  p : Program
  loose : List PySem.Str
  C : Cs
  hexc : ExcOk prog w cf.K p loose
  hexk : ExcCls cf.K
  hdraw : DrawOk prog w cf.K p loose
  hfl : cf.fl = true → C.nb ≤ 1000 ∧ OctOk prog w cf.K p loose ∧ FoulOk prog w cf.K p loose
  hgl : ∀ p ∈ cf.gl, globB cf.K p.1 p.2 = true
  hct : ∀ p ∈ cf.ct, ∀ q ∈ p.2, atB cf.K p.1 q.1 q.2 = true
  hca : ∀ p ∈ cf.ca, ∀ q ∈ p.2, caB cf.K p.1 q.1 q.2 = true
  hcs : ∀ p ∈ cf.cs, clsB cf.K p.1 p.2 = true
  hfo : ∀ p ∈ cf.fo, fnB cf.K p.1 p.2 = true
  h59 : keepIn cf.K (.ref 59) = true
  hbd : ∀ i p, cf.bd[i]? = some p → p.1 ≤ C.ι i ∧ C.ι i ≤ p.2
  hbl : ∀ i x, cf.bl[i]? = some x → IRel C ((C.β i).length : Int) x ∧ (C.β i).length ≤ 50
  hzl : ∀ j n, cf.zl = some (j, n) → ∀ x, IRel C x n → 0 ≤ x → C.β j = List.replicate x.toNat 0
  hdr : ∀ j many x, cf.dr[j]? = some (many, x) → IRel C (dgt (C.π j) many) x ∧ C.π (j + 1) = nxt (C.π j) many
  hoc : ∀ q ∈ cf.oc, ∀ x, IRel C x q.2.1 → C.β q.2.2 = List.replicate x.toNat (dgt (C.π q.1) 256)
  hnb : C.nb ≤ 100000
  hhs : ∀ q ∈ cf.hs, Builtin.bitAnd (hashF (List.replicate q.2.1 (C.ι q.1))) q.2.2.1 = q.2.2.2
noncomputable abbrev Gv.K (G : Gv) : Frag := G.cf.K
noncomputable abbrev Gv.kx (G : Gv) : PySem.Str → St → Bool := G.cf.kx
noncomputable def EFl (G : Gv) (V₀ : Vl) (h₀ : Heap) (L : Addr) (E : Value → Shared → Prop) : Prop :=
  ∀ (V : Vl) (σ : St) (what : PySem.Str) (e dx t : Addr) (tk ta tb : Tok) (m : PySem.Str → Option Value) (news : List (Addr × Obj)) (s : Shared), V₀.le V → G.kx what σ = true → Fr h₀ L s.heap m → News h₀ L s.heap ((e, excD 59 t dx) :: (dx, excDict G.w what tk ta tb) :: (news ++ V.r)) → e ≠ dx → (∀ p ∈ news ++ V.r, p.1 ≠ e) → All2 (PRel G.prog G.w G.C V) news σ.heap → (V.n = σ.nx ∧ Same V.z s) → ((news ++ V.r).map (·.1)).Nodup → E (.ref e) s
noncomputable def EOk (G : Gv) (V₀ : Vl) (base h₀ : Heap) (L : Addr) (d : Nat) (frames : List Env) (E : Value → Shared → Prop) : Prop :=
  (d < G.cf.top → EFl G V₀ h₀ L E) ∧ ∀ (V : Vl) (σ : St) (what : PySem.Str) (e : Addr) (g' h' : Heap) (m : PySem.Str → Option Value) (news : List (Addr × Obj)) (s : Shared), V₀.le V → G.kx what σ = true → Fr h₀ L g' m → g'.UpToSlots h' → RaisedX G.w base g' frames e what (news ++ V.r) h' → All2 (PRel G.prog G.w G.C V) news σ.heap → (V.n = σ.nx ∧ Same V.z s) → ((news ++ V.r).map (·.1)).Nodup → E (.ref e) { s with heap := h' }
inductive EnvIs (C : Cs) (V : Vl) (L : Addr) : Env → Sc → Prop
  | fn {cn : PySem.Str} {scp : Scope} {a : Addr} {ccd : Value} {cl : List (PySem.Str × Addr)} {cs : List (PySem.Str × SV)} {q b : Bool} {tb : Option (Nat × PySem.Str)} : CellsIn V cl cs → EnvIs C V L (envX cn scp L a ccd cl) ⟨scp, cs, none, q, b, tb⟩
  | blk {cn : PySem.Str} {sc₀ scp : Scope} {a : Addr} {ccd : Value} {cl₀ cl : List (PySem.Str × Addr)} {cs : List (PySem.Str × SV)} {i : Nat} {x : PySem.Str} {v : SV} {u : Value} {m : PySem.Str → Option Value} {q b : Bool} {tb : Option (Nat × PySem.Str)} :
    CellsIn V cl cs → i < V.n → LCg.NsObj (V.ω i) m → m x = some u → VRel C V u v → EnvIs C V L (compEnvC scp cl (V.ρ i) (envX cn sc₀ L a ccd cl₀)) ⟨relabel scp (envX cn sc₀ L a ccd cl₀), cs, some (i, x, v), q, b, tb⟩
structure Fx (G : Gv) (V₀ : Vl) (A : Around) (env : Env) (h₀ : Heap) (L : Addr) (sc : Sc) (d : Nat) (E : Value → Shared → Prop) : Prop where
  e : EnvIs G.C V₀ L env sc
  k : sc.sc.kind = .function
  o : ∃ cn sc₀ a ccd cl A₀ base outer, sc₀.kind = .function ∧ Below A₀ base outer h₀ ∧ A.frames = some (envX cn sc₀ L a ccd cl :: outer) ∧ (sc.q = false → EOk G V₀ base h₀ L d (envX cn sc₀ L a ccd cl :: outer) E)
  hh : A.handled = none
  hd : A.depth + d ≤ 900
  hu : A.units + 20 * d ≤ 9000
  X : G.K.In h₀
  tb : ∀ t q, sc.tb = some (t, q) → t < V₀.n ∧ (∃ c, env.code = .ref c ∧ PySem.W.CodeHd h₀ c (V₀.ρ t)) ∧ env.qual ++ Str.ofString "<lambda>" = q
  T : ∃ mean mg mb, Top G.p G.loose mean mg mb h₀
theorem Fx.fn {G : Gv} {V₀ : Vl} {A : Around} {env : Env} {h₀ : Heap} {L : Addr} {sc : Sc} {d : Nat} {E : Value → Shared → Prop} (fx : Fx G V₀ A env h₀ L sc d E) (h : sc.comp = none) : ∃ cn a ccd cl, env = envX cn sc.sc L a ccd cl := by
  cases fx.e with
  | fn => exact ⟨_, _, _, _, rfl⟩
  | blk => cases h
theorem EnvIs.any {C : Cs} {V : Vl} {L : Addr} {env : Env} {sc : Sc} (h : EnvIs C V L env sc) : EnvIs C V L env sc.any := by
  cases h with
  | fn h => exact .fn h
  | blk h1 h2 h3 h4 h5 => exact .blk h1 h2 h3 h4 h5
theorem Fx.any {G : Gv} {V₀ : Vl} {A : Around} {env : Env} {h₀ : Heap} {L : Addr} {sc : Sc} {d : Nat} {E : Value → Shared → Prop} (fx : Fx G V₀ A env h₀ L sc d E) : Fx G V₀ A env h₀ L sc.any d E := ⟨fx.e.any, fx.k, fx.o, fx.hh, fx.hd, fx.hu, fx.X, fx.tb, fx.T⟩
noncomputable abbrev RepG (G : Gv) := Rep G.prog G.w G.C
noncomputable abbrev WPG (G : Gv) {α : Type} (A : Around) (t : Sem α) (Q : α → Shared → Prop) (E : Value → Shared → Prop) (s : Shared) : Prop := wpAny (model G.prog G.w) A t Q E s
noncomputable abbrev WPX (G : Gv) (sc : Sc) {α : Type} (A : Around) (t : Sem α) (Q : α → Shared → Prop) (E : Value → Shared → Prop) (s : Shared) : Prop := wpX sc.cl (model G.prog G.w) A t Q E s
theorem Sc.of {G : Gv} {sc : Sc} {α : Type} {A : Around} {t : Sem α} {Q : α → Shared → Prop} {E : Value → Shared → Prop} {s : Shared} (h : WPX G sc.any A t Q E s) : WPG G A t Q E s := any_X h
noncomputable def EndsF {α : Type} (G : Gv) (V : Vl) (h₀ : Heap) (L : Addr) (R : Vl → α → Rs → Prop) (k : Kt) (Q : α → Shared → Prop) : Prop :=
  ∀ (V' : Vl) (r : Rs) (a : α) (σ' : St) (s' : Shared) (m' : PySem.Str → Option Value) (news' : List (Addr × Obj)), V.le V' → k r σ' = true → R V' a r → RepG G V' σ' h₀ L s' m' news' → Q a s'
noncomputable def Ends {α : Type} (G : Gv) (V : Vl) (h₀ : Heap) (L : Addr) (m : PySem.Str → Option Value) (R : Vl → α → Rs → Prop) (k : Kt) (Q : α → Shared → Prop) : Prop :=
  ∀ (V' : Vl) (r : Rs) (a : α) (σ' : St) (s' : Shared) (news' : List (Addr × Obj)), V.le V' → k r σ' = true → R V' a r → RepG G V' σ' h₀ L s' m news' → Q a s'
inductive RV (C : Cs) (V : Vl) : Value → Rs → Prop
  | mk {v : Value} {x : SV} : VRel C V v x → RV C V v (.v x)
inductive RVs (C : Cs) (V : Vl) : List Value → Rs → Prop
  | mk {vs : List Value} {xs : List SV} : All2 (VRel C V) vs xs → RVs C V vs (.vs xs)
inductive RB (V : Vl) : Bool → Rs → Prop
  | mk (b : Bool) : RB V b (.b b)
noncomputable def Hold (G : Gv) (sc : Sc) (d : Nat) (t : Tk) (σ : St) (k : Kt) : Prop :=
  ∀ (V₀ : Vl) (A : Around) (env : Env) (h₀ : Heap) (L : Addr) (E : Value → Shared → Prop), Fx G V₀ A env h₀ L sc d E → PassesOwn (model G.prog G.w) A env E → ∀ (V : Vl) (s : Shared) (m : PySem.Str → Option Value) (news : List (Addr × Obj)), V₀.le V → RepG G V σ h₀ L s m news →
  match t with
  | .ex e => ∀ Q, Ends G V h₀ L m (RV G.C) k Q → WPX G sc A (eval e env) Q E s
  | .ars es => ∀ pos Q, Ends G V h₀ L m (RVs G.C) k Q → WPX G sc A (spliced (backTo pos (starEach es env))) Q E s
  | .st st => sc.comp = none → ∀ Q, EndsF G V h₀ L (FRel G.C) k Q → WPX G sc A (exec st env) Q E s
  | .sts ss => sc.comp = none → ∀ Q, EndsF G V h₀ L (FRel G.C) k Q → WPX G sc A (execs ss env) Q E s
  | .tst e => ∀ Q, Ends G V h₀ L m RB k Q → WPX G sc A (isTrue e env (eval e env)) Q E s
  | .loop it t body => sc.comp = none → ∀ Q, EndsF G V h₀ L (FRel G.C) k Q → it < V.n → codeX sc.cl (model G.prog G.w) A (.forLoop t (.ref (V.ρ it)) body [] env) (fun r s' => match r with | .ok f => Q f s' | .error e => cameBackBy (model G.prog G.w) A env E e s') s
  | .whl t body => sc.comp = none → ∀ Q, EndsF G V h₀ L (FRel G.C) k Q → WhlRest G.prog G.w A E env t body [] Q 0 s
  | .call f xs => ∀ fv vs Q, VRel G.C V fv f → All2 (VRel G.C V) vs xs → Ends G V h₀ L m (RV G.C) k Q → WPX G sc A (call fv vs) Q E s
noncomputable def Snd (G : Gv) (self : Ev) : Prop := ∀ sc d t σ k, self sc d t σ k = true → Hold G sc d t σ k
noncomputable def kv (f : SV → St → Bool) : Kt | .v x, σ => f x σ | _, _ => false
noncomputable def kvs (f : List SV → St → Bool) : Kt | .vs x, σ => f x σ | _, _ => false
noncomputable def kb (f : Bool → St → Bool) : Kt | .b x, σ => f x σ | _, _ => false
section
variable {G : Gv} {V : Vl} {h₀ : Heap} {L : Addr} {m : PySem.Str → Option Value}
theorem ends_v {f : SV → St → Bool} {Q : Value → Shared → Prop} (h : ∀ V' v x σ' s' news', V.le V' → f x σ' = true → VRel G.C V' v x → RepG G V' σ' h₀ L s' m news' → Q v s') : Ends G V h₀ L m (RV G.C) (kv f) Q := by
  intro V' r a σ' s' news' l hk hr R
  cases hr with
  | mk hv => exact h V' a _ σ' s' news' l hk hv R
theorem ends_vs {f : List SV → St → Bool} {Q : List Value → Shared → Prop} (h : ∀ V' vs xs σ' s' news', V.le V' → f xs σ' = true → All2 (VRel G.C V') vs xs → RepG G V' σ' h₀ L s' m news' → Q vs s') : Ends G V h₀ L m (RVs G.C) (kvs f) Q := by
  intro V' r a σ' s' news' l hk hr R
  cases hr with
  | mk hv => exact h V' a _ σ' s' news' l hk hv R
theorem ends_b {f : Bool → St → Bool} {Q : Bool → Shared → Prop} (h : ∀ V' b σ' s' news', V.le V' → f b σ' = true → RepG G V' σ' h₀ L s' m news' → Q b s') : Ends G V h₀ L m RB (kb f) Q := by
  intro V' r a σ' s' news' l hk hr R
  cases hr
  exact h V' _ σ' s' news' l hk R
theorem Ends.up {α : Type} {V' : Vl} {R : Vl → α → Rs → Prop} {k : Kt} {Q : α → Shared → Prop} (h : Ends G V h₀ L m R k Q) (l : V.le V') : Ends G V' h₀ L m R k Q := fun V'' r a σ' s' news' l' => h V'' r a σ' s' news' (Vl.le_trans l l')
theorem EndsF.up {α : Type} {V' : Vl} {R : Vl → α → Rs → Prop} {k : Kt} {Q : α → Shared → Prop} (h : EndsF G V h₀ L R k Q) (l : V.le V') : EndsF G V' h₀ L R k Q := fun V'' r a σ' s' m' news' l' => h V'' r a σ' s' m' news' (Vl.le_trans l l')
end

section
variable {G : Gv} {V : Vl} {σ : St} {h₀ : Heap} {L : Addr} {s : Shared} {m : PySem.Str → Option Value} {news : List (Addr × Obj)}
theorem RAt (R : RepG G V σ h₀ L s m news) {i : Nat} {so : SO} (hg : iget i σ.heap = some so) {P : Prop} (K : ∀ o, (V.ρ i, o) ∈ news ++ V.r → ORel G.prog G.w G.C V o so → (isI so = true → (V.ρ i == sysModules) = false) → P) : P := by
  refine Classical.byContradiction fun nO => ?_
  obtain ⟨o, m1, o1, h, -⟩ := hget R.hp hg
  refine nO ?_
  exact K o (List.mem_append_left _ m1) o1 h
theorem RMove (R : RepG G V σ h₀ L s m news) {h' : Heap} {tk : Nat} (F : Fr h₀ L h' m) (N : News h₀ L h' (news ++ V.r)) : RepG G V σ h₀ L { s with heap := h', toks := tk } m news := ⟨R.1, F, N, R.2.2.2⟩
theorem RUpd (R : RepG G V σ h₀ L s m news) {i : Nat} {so : SO} (hg : iget i σ.heap = some so) {P : Prop} (K : ∀ o g, ORel G.prog G.w G.C V o so → UpdF (V.ρ i) o (news ++ V.r) g → (∀ o' so' h' tk, isI so' = isI so → ORel G.prog G.w G.C V o' so' → Fr h₀ L h' m → News h₀ L h' (g o') → ∃ news', RepG G V { σ with heap := iset i so' σ.heap } h₀ L { s with heap := h', toks := tk } m news') → P) : P := by
  refine Classical.byContradiction fun nO => ?_
  obtain ⟨o, g, h1, h2, h3⟩ := hupd (rest := V.r) R.hp hg R.nd
  refine nO ?_
  refine K o g h1 h2 fun o' so' h' tk hI ho' F N => ?_
  refine Classical.byContradiction fun nO => ?_
  obtain ⟨news', e1, e2, e3⟩ := h3 V o' so' hI V.le_refl ho'
  refine nO ?_
  exact ⟨news', R.1, F, e1 ▸ N, R.lc, e2, by rw [List.map_append, e3, ← List.map_append]; exact R.nd⟩
theorem rep_newN {V : Vl} {h₀ : Heap} {L : Addr} {s : Shared} {h' : Heap} {tk : Nat} {m : PySem.Str → Option Value} {news : List (Addr × Obj)} (R : RepG G V σ h₀ L s m news) {a : Addr} {o : Obj} {so : SO} (F' : Fr h₀ L h' m) (N' : News h₀ L h' ((a, o) :: (news ++ V.r))) (l1 : ∀ p ∈ news ++ V.r, p.1 ≠ a) (hI : isI so = true → (a == sysModules) = false) (ho : ORel G.prog G.w G.C (V.ext a) o so) :
    RepG G (V.ext a) { σ with nx := σ.nx + 1, heap := (σ.nx, so) :: σ.heap } h₀ L { s with heap := h', toks := tk } m ((a, o) :: news) ∧ VRel G.C (V.ext a) (.ref a) (.ref σ.nx) := by
  refine Classical.byContradiction fun nO => ?_
  obtain ⟨hn, F, N, hl, hr, nd⟩ := R
  obtain ⟨r1, nd1⟩ := hnew hr nd l1 hI ho
  refine nO ?_
  have hn' : V.n = σ.nx := hn.1
  have := VRel.ref (C := G.C) (V := V.ext a) (i := V.n) (Nat.lt_succ_self _)
  rw [V.ext_at a, hn'] at this
  rw [hn'] at r1
  exact ⟨⟨⟨congrArg (· + 1) hn', hn.2⟩, F', N', hl.up (V.le_ext a), r1, nd1⟩, this⟩
theorem Ends.v {k : Kt} {Q : Value → Shared → Prop} (hQ : Ends G V h₀ L m (RV G.C) k Q) {x : SV} {v : Value} (h : k (.v x) σ = true) (hv : VRel G.C V v x) (R : RepG G V σ h₀ L s m news) : Q v s := hQ V _ _ σ s news V.le_refl h (.mk hv) R
end

noncomputable def cellS (sc : Sc) (x : PySem.Str) (σ : St) (k : Kt) : Bool := onO (sget x sc.cells) fun u => onO (svRef u) fun i => onO (obind (iget i σ.heap) asCell) fun v => k (.v v) σ
noncomputable def nameS (c : Cfg) (sc : Sc) (x : PySem.Str) (σ : St) (k : Kt) : Bool := !seq x (Str.ofString "__debug__") && onO (sget x sc.sc.names) fun nk => NameKind.casesOn (motive := fun _ => Bool) nk (orO sc.comp (fun q => onO (obind (iget q.1 σ.heap) asOpq) fun j => seq x q.2.1 && (Nat.beq q.1 j && k (.v q.2.2) σ)) (onO (sget x σ.loc) fun v => k (.v v) σ)) (cellS sc x σ k) (!seq x (Str.ofString "__classdict__") && cellS sc x σ k) false (onO (sget x c.gl) fun v => k (.v v) σ)
noncomputable def locB (sc : Scope) (x : PySem.Str) : Bool := onO (sget x sc.names) fun nk => decide (nk = .local)
theorem locB_ok {sc : Scope} {x : PySem.Str} (h : locB sc x = true) : sc.names.lookup x = some .local := onO_k h fun nk hq h => by
  rw [← sget_lookup, hq, of_decide_eq_true h]
noncomputable def atGet (c : Cfg) (C : Nat) (x : PySem.Str) : Option At := opO (iget C c.ct) (sget x)
theorem at_ok {G : Gv} {C : Nat} {x : PySem.Str} {r : At} (h : atGet G.cf C x = some r) : atB G.K C x r = true := opO_k h fun l hl h => G.hct (C, l) (iget_mem hl) (x, r) (sget_mem h)
noncomputable def caGet (c : Cfg) (C : Nat) (x : PySem.Str) : Option Nat := opO (iget C c.ca) (sget x)
theorem ca_ok {G : Gv} {C : Nat} {x : PySem.Str} {r : Nat} (h : caGet G.cf C x = some r) : caB G.K C x r = true := opO_k h fun l hl h => G.hca (C, l) (iget_mem hl) (x, r) (sget_mem h)
theorem bneq {x y : PySem.Str} (h : ¬seq x y = true) : (x == y) = false := by
  cases q : x == y with
  | false => rfl
  | true => exact absurd (seq_iff.mpr (beq_iff_eq.mp q)) h
theorem EnvIs.its {C : Cs} {V : Vl} {L : Addr} {env : Env} {sc : Sc} (h : EnvIs C V L env sc) : env.scope = sc.sc ∧ env.globals = mainGlobals ∧ env.builtins = builtinsNs ∧ CellsIn V env.cells sc.cells := by
  cases h with
  | fn h => exact ⟨rfl, rfl, rfl, h⟩
  | blk h => exact ⟨rfl, rfl, rfl, h⟩
theorem cell_ok {G : Gv} {sc : Sc} {x : PySem.Str} {σ : St} {k : Kt} (h : cellS sc x σ k = true) {V₀ V : Vl} {cl : List (PySem.Str × Addr)} (hc : CellsIn V₀ cl sc.cells) {h₀ : Heap} {L : Addr} {s : Shared} {m : PySem.Str → Option Value} {news : List (Addr × Obj)} (hV : V₀.le V) (R : RepG G V σ h₀ L s m news) {Q : Value → Shared → Prop} (hQ : Ends G V h₀ L m (RV G.C) k Q) :
    ∃ c v, cl.lookup x = some c ∧ s.heap.IsCell c (some v) ∧ Q v s := by
  refine Classical.byContradiction fun nO => ?_
  refine onO_k h fun u hg h => onO_k h fun i hi h => onO_k h fun v hv h => RAt R (get_k asCell_ok hv) fun o m1 o1 _ => ?_
  obtain ⟨i', e, hlt, hl⟩ := hc x _ hg
  obtain rfl := ref_inj ((svRef_ok hi).symm.trans e)
  obtain ⟨y, hd, hu⟩ := ORel.cell' o1
  refine nO ?_
  refine ⟨_, _, hl, ⟨o, ?_, hd⟩, hQ.v h hu R⟩
  rw [← hV.2 _ hlt]
  exact (R.nw _ m1).1
theorem EnvIs.look {C : Cs} {V : Vl} {L : Addr} {env : Env} {sc : Sc} {q : Nat × PySem.Str × SV} (h : EnvIs C V L env sc) (e : sc.comp = some q) : q.1 < V.n ∧ ∃ m u, (∀ hp : Heap, hp.get? (V.ρ q.1) = some (V.ω q.1) → hp.Ns env.locals m) ∧ m q.2.1 = some u ∧ VRel C V u q.2.2 := by
  cases h with
  | fn => cases e
  | blk h1 h2 h3 h4 h5 => obtain rfl := Option.some.inj e; exact ⟨h2, _, _, fun _ z => h3.ns z, h4, h5⟩
theorem name_sound {G : Gv} {sc : Sc} {d : Nat} {x : PySem.Str} {pos : Pos} {σ : St} {k : Kt} (h : nameS G.cf sc x σ k = true) : Hold G sc d (.ex (.Name x pos)) σ k := by
  intro V₀ A env h₀ L E fx po V s m news hV R Q hQ
  refine wpX_any ?_
  refine Classical.byContradiction fun nO => ?_
  obtain ⟨es, eg, eb, ec⟩ := fx.e.its
  have hkf : env.scope.kind = .function := es ▸ fx.k
  have ek : env.kindOf x = sc.sc.names.lookup x := by rw [← es]; rfl
  obtain ⟨mean, mg, mb, T⟩ := fx.T
  have T := topRead_of T
  refine and_k h fun hdb h => onO_k h fun nk hkd h => ?_
  refine nO ?_
  have hdb := bneq (x := x) (y := Str.ofString "__debug__") (fun z => by rw [z] at hdb; cases hdb)
  rw [sget_lookup] at hkd
  cases nk with
  | «local» =>
    have h : orO sc.comp _ _ = true := h
    cases hcp : sc.comp with
    | none =>
      rw [hcp] at h
      refine Classical.byContradiction fun nO => ?_
      refine onO_k h fun v hg h => ?_
      obtain ⟨cn, a, ccd, cl, rfl⟩ := fx.fn hcp
      obtain ⟨u, h1, h2⟩ := R.lc x v hg
      refine nO ?_
      exact nameX_L R.fr h1 (hQ.v h h2 R) fx.k hkd hdb
    | some q =>
      rw [hcp] at h
      refine Classical.byContradiction fun nO => ?_
      refine onO_k h fun j hg h => and_k h fun h1 h => and_k h fun h2 h => RAt R (get_k asOpq_ok hg) fun o m1 o1 _ => ?_
      obtain ⟨q2, mm, u, q3, q4, q5⟩ := fx.e.look hcp
      obtain ⟨rfl, -⟩ := ORel.opq' o1
      refine nO ?_
      have z := (R.nw _ m1).1
      rw [← Nat.eq_of_beq_eq_true h2, hV.2 _ q2, hV.3 _ q2] at z
      exact wpAny_Name (wpAny_loadName_local hkf (ek.trans hkd) (q3 _ z) (seq_iff.mp h1 ▸ q4) (hQ.v h (q5.up hV) R)) hdb
  | cell =>
    refine Classical.byContradiction fun nO => ?_
    obtain ⟨c, v, c1, c2, c3⟩ := cell_ok h ec hV R hQ
    refine nO ?_
    exact wpAny_Name (wpAny_loadName_cell hkf (ek.trans hkd) c1 c2 c3) hdb
  | free =>
    refine Classical.byContradiction fun nO => ?_
    refine and_k h fun hcd h => ?_
    obtain ⟨c, v, c1, c2, c3⟩ := cell_ok h ec hV R hQ
    refine nO ?_
    exact wpAny_Name (wpAny_loadName_free hkf (ek.trans hkd) c1 c2 c3 (bneq fun z => by rw [z] at hcd; cases hcd)) hdb
  | globalExplicit => exact no_k h
  | globalImplicit =>
    refine onO_k h fun sv hg h => onO_k (G.hgl (x, sv) (sget_mem hg)) fun o ho hb => ?_
    cases o with
    | some u => exact Name_function_global hkf (ek.trans hkd) (loadGlobal_global (eg ▸ T.g.keeps R.fr.keep) (mg_of fx.X T.g ho) (hQ.v h (valB_ok hb) R)) hdb
    | none =>
      refine and_k hb fun hn hb => onO_k hb fun u hu hb => ?_
      have hnm : x ≠ Str.ofString "__name__" := fun e => by rw [seq_iff.mpr e] at hn; cases hn
      exact Name_function_global hkf (ek.trans hkd) (loadGlobal_builtin (eg ▸ T.g.keeps R.fr.keep) (mg_none_of fx.X T.g ho) (eb ▸ T.b.keeps R.fr.keep) ((T.builtins x hnm).trans hu) (hQ.v h (valB_ok hb) R)) hdb
noncomputable def constO (c : Const) : Option SV := match c with
  | .none => some .none
  | .bool b => some (.bool b)
  | .int i => some (.int (.lit i))
  | .str x => some (.str x)
  | .bytes x => some (.bytes (.lit (x.map fun c => .lit (c.toNat : Int))))
  | _ => none
theorem lits_rel {C : Cs} (x : List UInt8) : All2 (IRel C) (x.map fun c => (c.toNat : Int)) (x.map fun c => SI.lit (c.toNat : Int)) := by
  induction x with
  | nil => exact .nil
  | cons c x ih => exact .cons (show IRel C (c.toNat : Int) (.lit (c.toNat : Int)) from rfl) ih
noncomputable def constS (c : Const) (σ : St) (k : Kt) : Bool := onO (constO c) fun x => k (.v x) σ
theorem const_sound {G : Gv} {sc : Sc} {d : Nat} {c : Const} {kk : Nat} {pos : Pos} {σ : St} {k : Kt} (h : constS c σ k = true) : Hold G sc d (.ex (.Constant c kk pos)) σ k := by
  intro V₀ A env h₀ L E fx po V s m news hV R Q hQ
  refine wpX_any (onO_k h fun x hx h => ?_)
  cases c
  case none => obtain rfl := Option.some.inj hx; exact wpAny_Constant_none (hQ.v h .none R)
  case bool => obtain rfl := Option.some.inj hx; exact wpAny_Constant_bool (hQ.v h (.bool _) R)
  case int => obtain rfl := Option.some.inj hx; exact wpAny_Constant_int (hQ.v h (.int _ rfl) (RMove R R.fr R.nw))
  case str => obtain rfl := Option.some.inj hx; exact Constant_str (hQ.v h (.str _ _) (RMove R R.fr R.nw))
  case bytes x => obtain rfl := Option.some.inj hx; exact Constant_bytes (hQ.v h (.bytes _ (lits_rel x)) (RMove R R.fr R.nw))
  all_goals exact no_o hx

noncomputable def loI (bd : List (Int × Int)) (i : SI) : Option Int := SI.rec (motive := fun _ => Option Int) some (fun i o => opO bd[i]? fun p => some (p.1 + o)) (fun _ _ => none) (fun _ _ => none) (fun _ _ => none) (fun a _ => some a) none i
noncomputable def hiI (bd : List (Int × Int)) (i : SI) : Option Int := SI.rec (motive := fun _ => Option Int) some (fun i o => opO bd[i]? fun p => some (p.2 + o)) (fun _ _ => none) (fun _ _ => none) (fun _ _ => none) (fun _ b => some b) none i
theorem loI_ok {G : Gv} {x a : Int} {i : SI} (h : IRel G.C x i) (e : loI G.cf.bd i = some a) : a ≤ x := by
  cases i with
  | lit n => obtain rfl := Option.some.inj e; exact Int.le_of_eq (Eq.symm h)
  | var j o =>
    refine Classical.byContradiction fun nO => ?_
    refine opO_k e fun p h1 e => ?_
    obtain rfl := Option.some.inj e
    obtain rfl : x = G.C.ι j + o := h
    refine nO ?_
    exact Int.add_le_add_right (G.hbd j p h1).1 o
  | rng p q => obtain rfl := Option.some.inj e; exact h.1
  | _ => exact no_o e
theorem hiI_ok {G : Gv} {x a : Int} {i : SI} (h : IRel G.C x i) (e : hiI G.cf.bd i = some a) : x ≤ a := by
  cases i with
  | lit n => obtain rfl := Option.some.inj e; exact Int.le_of_eq h
  | var j o =>
    refine Classical.byContradiction fun nO => ?_
    refine opO_k e fun p h1 e => ?_
    obtain rfl := Option.some.inj e
    obtain rfl : x = G.C.ι j + o := h
    refine nO ?_
    exact Int.add_le_add_right (G.hbd j p h1).2 o
  | rng p q => obtain rfl := Option.some.inj e; exact h.2
  | _ => exact no_o e
noncomputable def bd2 {β : Type} (bd : List (Int × Int)) (a b : SI) (f : Int → Int → Int → Int → Option β) : Option β := opO (loI bd a) fun la => opO (hiI bd a) fun ha => opO (loI bd b) fun lb => opO (hiI bd b) fun hb => f la ha lb hb
theorem bd2_k {β : Type} {G : Gv} {x y : Int} {a b : SI} {f : Int → Int → Int → Int → Option β} {r : β} (e : bd2 G.cf.bd a b f = some r) (ha : IRel G.C x a) (hb : IRel G.C y b) {P : Prop} (K : ∀ la ua lb ub, la ≤ x → x ≤ ua → lb ≤ y → y ≤ ub → f la ua lb ub = some r → P) : P :=
  opO_k e fun la h1 e => opO_k e fun ua h2 e => opO_k e fun lb h3 e => opO_k e fun ub h4 e => K la ua lb ub (loI_ok ha h1) (hiI_ok ha h2) (loI_ok hb h3) (hiI_ok hb h4) e
noncomputable def ltG (bd : List (Int × Int)) (a b : SI) : Option Bool := bd2 bd a b fun la ha lb hb => orB (decide (ha < lb)) (some true) (opB (decide (hb ≤ la)) (some false))
noncomputable def var2 {β : Type} (a b : SI) (f : Int → Int → Option β) : Option β := opO (siVar a) fun p => opO (siVar b) fun q => opB (Nat.beq p.1 q.1) (f p.2 q.2)
theorem var2_k {β : Type} {C : Cs} {x y : Int} {a b : SI} {f : Int → Int → Option β} {r : β} (e : var2 a b f = some r) (ha : IRel C x a) (hb : IRel C y b) {P : Prop} (K : ∀ z o o', x = z + o → y = z + o' → f o o' = some r → P) : P :=
  opO_k e fun p hp e => opO_k e fun q hq e => opB_k e fun z e => by
    rw [siVar_ok hp] at ha
    rw [siVar_ok hq] at hb
    exact K _ _ _ ha (Nat.eq_of_beq_eq_true z ▸ hb) e
noncomputable def ltB (bd : List (Int × Int)) (a b : SI) : Option Bool := orP (var2 a b fun o o' => some (decide (o < o'))) (ltG bd a b)
theorem ltB_ok {G : Gv} {x y : Int} {a b : SI} {r : Bool} (ha : IRel G.C x a) (hb : IRel G.C y b) (e : ltB G.cf.bd a b = some r) : decide (x < y) = r := by
  refine Classical.byContradiction fun nO => orP_k e (fun e => var2_k e ha hb fun z o o' h1 h2 e => nO ?_) fun e => bd2_k e ha hb fun la ua lb ub h1 h2 h3 h4 e => orB_k e (fun q e => nO ?_) fun _ e => dco_k e fun q e => nO ?_
  · rw [h1, h2, ← Option.some.inj e]
    exact decide_eq_decide.mpr (Int.add_lt_add_iff_left z)
  · rw [← Option.some.inj e]
    have := of_decide_eq_true q
    exact decide_eq_true (by (first | lia | omega))
  · rw [← Option.some.inj e]
    exact decide_eq_false (by (first | lia | omega))
noncomputable def eqG (bd : List (Int × Int)) (a b : SI) : Option Bool := bd2 bd a b fun la ha lb hb => orB (decide (ha < lb ∨ hb < la)) (some false) (opB (decide (la = ha ∧ lb = hb ∧ la = lb)) (some true))
noncomputable def eqB (bd : List (Int × Int)) (a b : SI) : Option Bool := orP (var2 a b fun o o' => some (o == o')) (eqG bd a b)
theorem eqB_ok {G : Gv} {x y : Int} {a b : SI} {r : Bool} (ha : IRel G.C x a) (hb : IRel G.C y b) (e : eqB G.cf.bd a b = some r) : (x == y) = r := by
  refine Classical.byContradiction fun nO => orP_k e (fun e => var2_k e ha hb fun z o o' h1 h2 e => nO ?_) fun e => bd2_k e ha hb fun la ua lb ub h1 h2 h3 h4 e => orB_k e (fun q e => nO ?_) fun _ e => dco_k e fun q e => nO ?_
  · rw [h1, h2, ← Option.some.inj e]
    exact decide_eq_decide.mpr ⟨Int.add_left_cancel, fun h => h ▸ rfl⟩
  · rw [← Option.some.inj e]
    have := of_decide_eq_true q
    exact beq_eq_false_iff_ne.mpr (by (first | lia | omega))
  · rw [← Option.some.inj e]
    exact beq_iff_eq.mpr (by (first | lia | omega))
noncomputable def addI (a b : SI) : SI := SI.rec (motive := fun _ => SI) (fun x => SI.rec (motive := fun _ => SI) (fun y => .lit (x + y)) (fun i o => .var i (x + o)) (fun _ _ => .any) (fun _ _ => .any) (fun _ _ => .any) (fun _ _ => .any) .any b) (fun i o => SI.rec (motive := fun _ => SI) (fun y => .var i (o + y)) (fun _ _ => .any) (fun _ _ => .any) (fun _ _ => .any) (fun _ _ => .any) (fun _ _ => .any) .any b) (fun _ _ => .any) (fun _ _ => .any) (fun _ _ => .any) (fun _ _ => .any) .any a
theorem addI_ok {C : Cs} {x y : Int} {a b : SI} (ha : IRel C x a) (hb : IRel C y b) : IRel C (x + y) (addI a b) := by
  cases a with
  | lit n =>
    obtain rfl : x = n := ha
    cases b with
    | lit => obtain rfl : y = _ := hb; exact Eq.refl _
    | var i o => obtain rfl : y = _ := hb; exact Int.add_left_comm _ _ _
    | _ => exact trivial
  | var i o =>
    obtain rfl : x = _ := ha
    cases b with
    | lit => obtain rfl : y = _ := hb; exact Int.add_assoc _ _ _
    | _ => exact trivial
  | _ => exact trivial
noncomputable def subI (a b : SI) : SI := SI.rec (motive := fun _ => SI) (fun y => SI.rec (motive := fun _ => SI) (fun x => .lit (x - y)) (fun i o => .var i (o - y)) (fun _ _ => .any) (fun _ _ => .any) (fun _ _ => .any) (fun _ _ => .any) .any a) (fun _ _ => .any) (fun _ _ => .any) (fun _ _ => .any) (fun _ _ => .any) (fun _ _ => .any) .any b
theorem subI_ok {C : Cs} {x y : Int} {a b : SI} (ha : IRel C x a) (hb : IRel C y b) : IRel C (x - y) (subI a b) := by
  cases b with
  | lit n =>
    obtain rfl : y = n := hb
    cases a with
    | lit => obtain rfl : x = _ := ha; exact Eq.refl _
    | var i o => obtain rfl : x = _ := ha; exact Int.add_sub_assoc _ _ _
    | _ => exact trivial
  | _ => exact trivial

noncomputable def smallI (a : Int) : Bool := decide (Builtin.Int.intBits a ≤ 64)
noncomputable def inMod (bd : List (Int × Int)) (a b : SI) : Option Bool := opO (ltB bd a (.lit 0)) fun r => opO (ltB bd a b) fun q => opB (!r) (opB q (some true))
noncomputable def bitO (c : Cfg) (a b : SI) : Option SI := opO (siN b) fun m => orP (opO (siN a) fun x => some (.lit (Builtin.bitAnd x m))) (orP (opO (siHx a) fun p => opO (c.hs.find? fun q => Nat.beq q.1 p.1 && (Nat.beq q.2.1 p.2 && decide (q.2.2.1 = m))) fun q => some (.lit q.2.2.2)) (opO (siHxm a) fun p => opB (decide (m = 4294967295)) (some (.hx p.1 (p.2 + 1)))))
noncomputable def bitI (c : Cfg) (a b : SI) : SI := Option.rec .any (fun x => x) (bitO c a b)
noncomputable def scaleO (bd : List (Int × Int)) (x : Int) (b : SI) : Option SI := opB (decide (0 ≤ x)) (opO (loI bd b) fun l => opO (hiI bd b) fun h => some (.rng (x * l) (x * h)))
noncomputable def scaleI (bd : List (Int × Int)) (x : Int) (b : SI) : SI := Option.rec .any (fun r => r) (scaleO bd x b)
noncomputable def floorI (bd : List (Int × Int)) (a : SI) (y : Int) : Option SI := opO (loI bd a) fun l => opO (hiI bd a) fun h => opB (decide (0 < y ∧ 0 ≤ l ∧ h < 2 ^ 30 ∧ y < 2 ^ 30 ∧ l.fdiv y = h.fdiv y)) (some (.lit (l.fdiv y)))
noncomputable def mulI (c : Cfg) (a b : SI) : Option SI := orP (opO (siN a) fun x => opB (smallI x) (orP (opO (siN b) fun y => some (.lit (x * y))) (some (scaleI c.bd x b)))) (opO (siN b) fun y => orP (opO (siHxa a) fun p => opB (decide (y = 16777619)) (some (.hxm p.1 p.2))) (opB (smallI y) (some (scaleI c.bd y a))))
noncomputable def modI (c : Cfg) (a b : SI) : Option SI := orP (opO (siN a) fun x => opO (siN b) fun y => opB (decide (¬y = 0)) (some (.lit (x.fmod y)))) (orP (opO (inMod c.bd a b) fun _ => some a) (opO (siN b) fun y => opB (decide (0 < y)) (some (.rng 0 (y - 1)))))
noncomputable def divI (c : Cfg) (a b : SI) : Option SI := opO (siN b) fun y => orP (opO (siN a) fun x => opB (decide (¬y = 0)) (opB (decide (Builtin.divisionGoesByPylong x y = false)) (some (.lit (x.fdiv y))))) (floorI c.bd a y)
noncomputable def xorI (a b : SI) : Option SI := orP (opO (siN a) fun x => opO (siN b) fun y => some (.lit (Builtin.bitXor x y))) (opO (siVar b) fun q => opB (decide (q.2 = 0)) (orP (opO (siN a) fun x => opB (decide (x = 2166136261)) (some (.hxa q.1 0))) (opO (siHx a) fun p => opB (Nat.beq p.1 q.1) (some (.hxa p.1 p.2)))))
noncomputable def shlI (a b : SI) : Option SI := opO (siN a) fun x => opO (siN b) fun y => opB (decide (0 ≤ y ∧ (Builtin.Int.intBits x : Int) + y ≤ 2 ^ 27)) (some (.lit (x * 2 ^ y.toNat)))
noncomputable def shrI (a b : SI) : Option SI := opO (siN a) fun x => opO (siN b) fun y => opB (decide (0 ≤ y)) (some (.lit (x.fdiv (2 ^ y.toNat))))
noncomputable def OpOk (G : Gv) (g : SI → SI → Option SI) (op : Operator) : Prop := ∀ {A : Around} {E : Value → Shared → Prop} {s : Shared} {x y : Int} {t u : Tok} {a b r : SI} {Q : Value → Shared → Prop}, g a b = some r → IRel G.C x a → IRel G.C y b → (∀ z t' k, IRel G.C z r → Q (.int z t') { s with toks := k }) → WPG G A (binaryOp op (.int x t) (.int y u)) Q E s
noncomputable def binI (c : Cfg) (op : Operator) (a b : SI) : Option SI := match op with
  | .Add => some (addI a b)
  | .Sub => some (subI a b)
  | .Mult => mulI c a b
  | .Mod => modI c a b
  | .FloorDiv => divI c a b
  | .BitAnd => some (bitI c a b)
  | .BitXor => xorI a b
  | .LShift => shlI a b
  | .RShift => shrI a b
  | _ => none
section
variable {G : Gv} {A : Around} {E : Value → Shared → Prop} {s : Shared}
theorem hash_step (k : Int) (n : Nat) : hashF (List.replicate (n + 1) k) = Builtin.bitAnd (Builtin.bitXor (hashF (List.replicate n k)) k * 16777619) 4294967295 := by
  unfold hashF
  rw [List.replicate_succ', List.foldl_append]
  rfl
theorem bitI_ok {x y : Int} {a b : SI} (ha : IRel G.C x a) (hb : IRel G.C y b) : IRel G.C (Builtin.bitAnd x y) (bitI G.cf a b) := by
  unfold bitI
  cases q : bitO G.cf a b with
  | none => exact trivial
  | some r =>
    refine Classical.byContradiction fun nO => opO_k q fun m hm q => orP_k q (fun q => opO_k q fun x' hx q => nO ?_) fun q => orP_k q (fun q => opO_k q fun p hp q => opO_k q fun z hz q => nO ?_) fun q => opO_k q fun p hp q => dco_k q fun h q => nO ?_
    all_goals rw [siN_e hb hm, ← Option.some.inj q]
    · rw [siN_e ha hx]
      exact Eq.refl _
    · rw [siHx_ok hp] at ha
      have h1 := List.find?_some hz
      refine and_k h1 fun p1 h1 => and_k h1 fun p2 h1 => ?_
      have := G.hhs z (List.mem_of_find?_eq_some hz)
      rw [Nat.eq_of_beq_eq_true p1, Nat.eq_of_beq_eq_true p2, of_decide_eq_true h1] at this
      rw [show x = _ from ha]
      exact this
    · rw [siHxm_ok hp] at ha
      rw [h, show x = _ from ha]
      exact (hash_step _ _).symm
theorem inMod_ok {x y : Int} {a b : SI} {r : Bool} (ha : IRel G.C x a) (hb : IRel G.C y b) (h : inMod G.cf.bd a b = some r) : 0 ≤ x ∧ x < y :=
  opO_k h fun r h1 h => opO_k h fun q h2 h => opB_k h fun h3 h => opB_k h fun h4 _ => by
    have q1 := ltB_ok (y := 0) (b := .lit 0) ha (Eq.refl _) h1
    have q2 := ltB_ok ha hb h2
    rw [h4] at q2
    rw [Bool.not_eq_true'] at h3
    rw [h3] at q1
    exact ⟨Int.not_lt.mp (of_decide_eq_false q1), of_decide_eq_true q2⟩
theorem scaleI_ok {x y : Int} {b : SI} (hb : IRel G.C y b) : IRel G.C (x * y) (scaleI G.cf.bd x b) := by
  unfold scaleI
  cases q : scaleO G.cf.bd x b with
  | none => exact trivial
  | some r =>
    refine Classical.byContradiction fun nO => ?_
    refine dco_k q fun hx q => opO_k q fun l h1 q => opO_k q fun h h2 q => ?_
    obtain rfl := Option.some.inj q
    refine nO ?_
    exact ⟨Int.mul_le_mul_of_nonneg_left (loI_ok hb h1) hx, Int.mul_le_mul_of_nonneg_left (hiI_ok hb h2) hx⟩
theorem floorI_ok {x y : Int} {a r : SI} (ha : IRel G.C x a) (e : floorI G.cf.bd a y = some r) : IRel G.C (x.fdiv y) r ∧ 0 < y ∧ y < 2 ^ 30 :=
  opO_k e fun l h1 e => opO_k e fun h h2 e => dco_k e fun ⟨c1, c2, c3, c4, c5⟩ e => by
    obtain rfl := Option.some.inj e
    have q1 := loI_ok ha h1
    have q2 := hiI_ok ha h2
    have fd : ∀ z : Int, z.fdiv y = z / y := fun z => Int.fdiv_eq_ediv_of_nonneg _ (Int.le_of_lt c1)
    refine ⟨?_, c1, c4⟩
    rw [fd, fd] at c5
    show x.fdiv y = l.fdiv y
    rw [fd, fd]
    exact Int.le_antisymm (c5 ▸ Int.ediv_le_ediv c1 q2) (Int.ediv_le_ediv c1 q1)
theorem noLong {x y : Int} (h0 : 0 < y) (h1 : y < 2 ^ 30) : Builtin.divisionGoesByPylong x y = false := by
  unfold Builtin.divisionGoesByPylong
  have hy : (y == 0) = false := beq_eq_false_iff_ne.mpr (by (first | lia | omega))
  have hl : y.natAbs.log2 < 30 := (Nat.log2_lt (by (first | lia | omega))).mpr (by (first | lia | omega))
  simp only [hy, Bool.false_eq_true, if_false]
  have : ¬ (y.natAbs.log2 / 30 + 1 > 300) := by (first | lia | omega)
  simp [this]
theorem mul_ok : OpOk G (mulI G.cf) .Mult := fun e ha hb h => by
  refine Classical.byContradiction fun nO => orP_k e (fun e => opO_k e fun x' hx e => opB_k e fun hs e => orP_k e (fun e => opO_k e fun y' hy e => nO ?_) fun e => nO ?_) fun e => opO_k e fun y' hy e => orP_k e (fun e => opO_k e fun p hp e => dco_k e fun q e => nO ?_) fun e => opB_k e fun hs e => nO ?_
  all_goals rw [← Option.some.inj e] at h
  · rw [siN_e ha hx, siN_e hb hy]
    exact mul_int (h _ _ _ (Eq.refl _)) (.of_left (of_decide_eq_true hs))
  · rw [siN_e ha hx]
    exact mul_int (h _ _ _ (scaleI_ok hb)) (.of_left (of_decide_eq_true hs))
  · rw [siHxa_ok hp] at ha
    rw [siN_e hb hy, q, show _ = _ from ha]
    exact mul_int (h _ _ _ (Eq.refl _)) (.of_right (by decide))
  · rw [siN_e hb hy]
    exact mul_int (by rw [Int.mul_comm]; exact h _ _ _ (scaleI_ok ha)) (.of_right (of_decide_eq_true hs))
theorem mod_ok : OpOk G (modI G.cf) .Mod := fun e ha hb h => by
  refine Classical.byContradiction fun nO => orP_k e (fun e => opO_k e fun x' hx e => opO_k e fun y' hy e => dco_k e fun q e => nO ?_) fun e => orP_k e (fun e => opO_k e fun _ hm e => nO ?_) fun e => opO_k e fun y' hy e => dco_k e fun q e => nO ?_
  all_goals rw [← Option.some.inj e] at h
  · rw [siN_e ha hx, siN_e hb hy]
    exact mod_int' q (h _ _ _ (Eq.refl _))
  · obtain ⟨q1, q2⟩ := inMod_ok ha hb hm
    exact mod_int' (Int.ne_of_gt (Int.lt_of_le_of_lt q1 q2)) (by rw [Int.fmod_eq_of_lt q1 q2]; exact h _ _ _ ha)
  · rw [siN_e hb hy]
    exact mod_int' (Int.ne_of_gt q) (h _ _ _ ⟨Int.fmod_nonneg_of_pos _ q, Int.le_sub_one_of_lt (Int.fmod_lt_of_pos _ q)⟩)
theorem div_ok : OpOk G (divI G.cf) .FloorDiv := fun e ha hb h => by
  refine Classical.byContradiction fun nO => opO_k e fun y' hy e => orP_k e (fun e => opO_k e fun x' hx e => dco_k e fun q e => dco_k e fun q' e => nO ?_) fun e => nO ?_
  · rw [← Option.some.inj e] at h
    rw [siN_e ha hx, siN_e hb hy]
    exact floordiv_int q (h _ _ _ (Eq.refl _)) (.inl q')
  · rw [siN_e hb hy]
    obtain ⟨r1, r2, r5⟩ := floorI_ok ha e
    exact floordiv_int (Int.ne_of_gt r2) (h _ _ _ r1) (.inl (noLong r2 r5))
theorem xor_ok : OpOk G xorI .BitXor := fun e ha hb h => by
  refine Classical.byContradiction fun nO => orP_k e (fun e => opO_k e fun x' hx e => opO_k e fun y' hy e => nO ?_) fun e => opO_k e fun q hq e => dco_k e fun h0 e => orP_k e (fun e => opO_k e fun x' hx e => dco_k e fun q1 e => nO ?_) fun e => opO_k e fun p hp e => opB_k e fun q1 e => nO ?_
  all_goals rw [← Option.some.inj e] at h
  · rw [siN_e ha hx, siN_e hb hy]
    exact xor_int (h _ _ _ (Eq.refl _))
  all_goals
    rw [siVar_ok hq] at hb
    have hb := show _ = _ + _ from hb
    rw [h0, Int.add_zero] at hb
    rw [hb]
  · rw [siN_e ha hx, q1]
    exact xor_int (h _ _ _ (Eq.refl _))
  · rw [siHx_ok hp] at ha
    rw [show _ = _ from ha, ← Nat.eq_of_beq_eq_true q1]
    exact xor_int (h _ _ _ (Eq.refl _))
theorem shl_ok : OpOk G shlI .LShift := fun e ha hb h => by
  refine Classical.byContradiction fun nO => opO_k e fun x' hx e => opO_k e fun y' hy e => dco_k e fun q e => nO ?_
  rw [← Option.some.inj e] at h
  rw [siN_e ha hx, siN_e hb hy]
  exact lshift_int q.1 q.2 (h _ _ _ (Eq.refl _))
theorem shr_ok : OpOk G shrI .RShift := fun e ha hb h => by
  refine Classical.byContradiction fun nO => opO_k e fun x' hx e => opO_k e fun y' hy e => dco_k e fun q e => nO ?_
  rw [← Option.some.inj e] at h
  rw [siN_e ha hx, siN_e hb hy]
  exact rshift_int q (h _ _ _ (Eq.refl _))
theorem some_ok {g : SI → SI → SI} {op : Operator} (K : ∀ {A : Around} {E : Value → Shared → Prop} {s : Shared} {x y : Int} {t u : Tok} {a b : SI} {Q : Value → Shared → Prop}, IRel G.C x a → IRel G.C y b → (∀ z t' k, IRel G.C z (g a b) → Q (.int z t') { s with toks := k }) → WPG G A (binaryOp op (.int x t) (.int y u)) Q E s) : OpOk G (fun a b => some (g a b)) op := fun e ha hb h => by
  rw [← Option.some.inj e] at h
  exact K ha hb h
theorem bin_sound {op : Operator} : OpOk G (binI G.cf op) op := by
  cases op with
  | Add => exact some_ok fun ha hb h => add_int (h _ _ _ (addI_ok ha hb))
  | Sub => exact some_ok fun ha hb h => sub_int (h _ _ _ (subI_ok ha hb))
  | Mult => exact mul_ok
  | Mod => exact mod_ok
  | FloorDiv => exact div_ok
  | BitAnd => exact some_ok fun ha hb h => and_int (h _ _ _ (bitI_ok ha hb))
  | BitXor => exact xor_ok
  | LShift => exact shl_ok
  | RShift => exact shr_ok
  | _ => exact fun e _ _ _ => no_o e
noncomputable def sameO (a b : SI) : Option Unit := orP (var2 a b fun o o' => opB (decide (o = o')) (some ())) (opO (siN a) fun x => opO (siN b) fun y => opB (decide (x = y)) (some ()))
theorem sameO_ok {C : Cs} (x y : Int) (a b : SI) (r : Unit) (ha : IRel C x a) (hb : IRel C y b) (q : sameO a b = some r) : x = y := by
  refine Classical.byContradiction fun nO => orP_k q (fun q => var2_k q ha hb fun z o o' h1 h2 q => dco_k q fun q _ => nO ?_) fun q => opO_k q fun x' hx q => opO_k q fun y' hy q => dco_k q fun q _ => nO ?_
  · rw [h1, h2, q]
  · rw [siN_e ha hx, siN_e hb hy, q]
noncomputable def sbL (b : SB) : Option (List SI) := SB.rec (motive := fun _ => Option (List SI)) some (fun _ => none) none (fun _ => none) b
noncomputable def sbV (b : SB) : Option Nat := SB.rec (motive := fun _ => Option Nat) (fun _ => none) some none (fun _ => none) b
theorem sbL_ok {b : SB} {l : List SI} (h : sbL b = some l) : b = .lit l := by
  cases b with
  | lit => exact congrArg _ (Option.some.inj h)
  | _ => exact no_o h
theorem sbV_ok {b : SB} {l : Nat} (h : sbV b = some l) : b = .var l := by
  cases b with
  | var => exact congrArg _ (Option.some.inj h)
  | _ => exact no_o h
noncomputable def eqBy (a b : SB) : Option Bool := orP (opO (sbV a) fun i => opO (sbV b) fun j => opB (Nat.beq i j) (some true)) (opO (sbL a) fun l => opO (sbL b) fun l' => opO (all2O sameO l l') fun _ => some true)
theorem eqBy_ok {C : Cs} {x y : Array UInt8} {a b : SB} {r : Bool} (ha : BRel C x a) (hb : BRel C y b) (h : eqBy a b = some r) : KBw.bInts x = KBw.bInts y ∧ r = true := by
  refine Classical.byContradiction fun nO => orP_k h (fun h => opO_k h fun i hi h => opO_k h fun j hj h => opB_k h fun q h => nO ?_) fun h => opO_k h fun i hi h => opO_k h fun j hj h => opO_k h fun u q h => nO ?_
  · rw [sbV_ok hi] at ha
    rw [sbV_ok hj] at hb
    exact ⟨(Eq.trans ha (congrArg C.β (Nat.eq_of_beq_eq_true q))).trans (Eq.symm hb), (Option.some.inj h).symm⟩
  · rw [sbL_ok hi] at ha
    rw [sbL_ok hj] at hb
    exact ⟨(all2O_ok sameO_ok ha hb q).eq, (Option.some.inj h).symm⟩
noncomputable def eqV (c : Cfg) (a b : SV) : Option Bool := orP (opO (svInt a) fun x => opO (svInt b) fun y => eqB c.bd x y) (orP (opO (svStr a) fun x => opO (svStr b) fun y => some (seq x y)) (opO (svBy a) fun x => opO (svBy b) fun y => eqBy x y))
noncomputable def ltV (c : Cfg) (a b : SV) : Option Bool := opO (svInt a) fun x => opO (svInt b) fun y => ltB c.bd x y
noncomputable def noneV (a : SV) : Option Bool := SV.rec (motive := fun _ => Option Bool) (some true) (fun _ => none) (fun _ => some false) (fun _ => none) (fun _ => some false) (fun _ => some false) (fun _ => none) (fun _ => none) (fun _ => none) (fun _ => some false) (some false) a
noncomputable def isV (a b : SV) : Option Bool := opO (svNon b) fun _ => noneV a
theorem seq_beq (x y : PySem.Str) : (x == y) = seq x y := by
  cases q : seq x y with
  | true => exact beq_iff_eq.mpr (seq_iff.mp q)
  | false => exact beq_eq_false_iff_ne.mpr (seq_no q)
theorem lt_flip {a b : Int} {r : Bool} (h : decide (b < a) = r) : decide (a ≤ b) = !r := by
  subst h
  by_cases q : b < a
  · rw [decide_eq_true q, decide_eq_false (by (first | lia | omega))]; rfl
  · rw [decide_eq_false q, decide_eq_true (by (first | lia | omega))]; rfl
theorem bInts_same {b c : Array UInt8} (h : KBw.bInts b = KBw.bInts c) : b.toList = c.toList := by
  have h' : b.toList.map (fun c => (c.toNat : Int)) = c.toList.map (fun c => (c.toNat : Int)) := h
  refine (List.map_inj_right fun x y e => ?_).mp h'
  have e' : (x.toNat : Int) = y.toNat := e
  exact UInt8.toNat_inj.mp (by (first | lia | omega))
noncomputable def Two (G : Gv) (A : Around) (E : Value → Shared → Prop) (s : Shared) (op op' : CmpOp) (r : Bool) (v u : Value) : Prop := (∀ Q : Value → Shared → Prop, Q (.bool r) s → WPG G A (compareOp op v u) Q E s) ∧ ∀ Q : Value → Shared → Prop, Q (.bool (!r)) s → WPG G A (compareOp op' v u) Q E s
theorem eqV_ok {V : Vl} {a b : SV} {r : Bool} {v u : Value} (e : eqV G.cf a b = some r) (ha : VRel G.C V v a) (hb : VRel G.C V u b) : Two G A E s .Eq .NotEq r v u := by
  refine Classical.byContradiction fun nO => orP_k e (fun e => opO_k e fun x hx e => opO_k e fun y hy e => nO ?_) fun e => orP_k e (fun e => opO_k e fun x hx e => opO_k e fun y hy e => nO ?_) fun e => opO_k e fun x hx e => opO_k e fun y hy e => nO ?_
  · apply svInt_k hx ha; intro z t hz
    apply svInt_k hy hb; intro z' t' hz'
    exact ⟨fun Q h => eq_int (by rw [eqB_ok hz hz' e]; exact h), fun Q h => ne_int (by rw [bne, eqB_ok hz hz' e]; exact h)⟩
  · apply svStr_k hx ha; intro t
    apply svStr_k hy hb; intro t'
    rw [← Option.some.inj e]
    exact ⟨fun Q h => eq_str (by rw [seq_beq]; exact h), fun Q h => ne_str (by rw [bne, seq_beq]; exact h)⟩
  · apply svBy_k hx ha; intro z t hz
    apply svBy_k hy hb; intro z' t' hz'
    obtain ⟨q, rfl⟩ := eqBy_ok hz hz' e
    exact ⟨fun Q h => eq_bytes (by rw [bInts_same q, beq_self_eq_true]; exact h), fun Q h => ne_bytes (by rw [bInts_same q, bne, beq_self_eq_true]; exact h)⟩
theorem ltV_ok {V : Vl} {a b : SV} {r : Bool} {v u : Value} (e : ltV G.cf a b = some r) (ha : VRel G.C V v a) (hb : VRel G.C V u b) {P : Value → Value → Prop} (K : ∀ x y t t', decide (x < y) = r → P (.int x t) (.int y t')) : P v u := by
  refine opO_k e fun x hx e => opO_k e fun y hy e => ?_
  apply svInt_k hx ha; intro z t hz
  apply svInt_k hy hb; intro z' t' hz'
  exact K _ _ _ _ (ltB_ok hz hz' e)
theorem isV_ok {V : Vl} {a b : SV} {r : Bool} {v u : Value} (e : isV a b = some r) (ha : VRel G.C V v a) (hb : VRel G.C V u b) : Two G A E s .Is .IsNot r v u := by
  refine opO_k e fun _ hb' e => ?_
  apply svNon_k hb' hb
  cases a
  case none => rw [← Option.some.inj e, VRel.none' ha]; exact ⟨fun Q h => is_none_none h, fun Q h => isnot_none_none h⟩
  case int => obtain ⟨_, _, rfl, -⟩ := VRel.int' ha; rw [← Option.some.inj e]; exact ⟨fun Q h => is_int_none h, fun _ h' => wpAny_isNot_other rfl (fun e => nomatch e) h'⟩
  case bytes => obtain ⟨_, _, rfl, -⟩ := VRel.bytes' ha; rw [← Option.some.inj e]; exact ⟨fun _ h' => wpAny_is_other rfl (fun e => nomatch e) h', fun _ h' => wpAny_isNot_other rfl (fun e => nomatch e) h'⟩
  case ref => rw [← Option.some.inj e, (VRel.ref' ha).1]; exact ⟨fun _ h' => wpAny_is_other rfl (fun e => nomatch e) h', fun _ h' => wpAny_isNot_other rfl (fun e => nomatch e) h'⟩
  case strA => obtain ⟨_, _, rfl⟩ := VRel.strA' ha; rw [← Option.some.inj e]; exact ⟨fun _ h' => wpAny_is_other rfl (fun e => nomatch e) h', fun _ h' => wpAny_isNot_other rfl (fun e => nomatch e) h'⟩
  case foul =>
    rw [← Option.some.inj e]
    rcases (show FoulV V v from ha) with ⟨x, t, rfl⟩ | ⟨z, t, rfl⟩ | ⟨a, o, rfl, -⟩
    all_goals exact ⟨fun _ h' => wpAny_is_other rfl (fun e => nomatch e) h', fun _ h' => wpAny_isNot_other rfl (fun e => nomatch e) h'⟩
  all_goals exact no_o e
theorem map_not {o : Option Bool} {r : Bool} (e : o.map (!·) = some r) : o = some (!r) := by
  obtain ⟨r', rfl, rfl⟩ := Option.map_eq_some_iff.mp e
  rw [Bool.not_not]
end

theorem lookup_out {y : PySem.Str} {l : List (PySem.Str × Value)} (h : y ∉ l.map (·.1)) : l.lookup y = none := by
  induction l with
  | nil => rfl
  | cons q r ih =>
    rw [List.lookup_cons, beq_eq_false_iff_ne.mpr fun e : y = q.1 => h (by rw [e]; exact .head _)]
    exact ih fun q => h (.tail _ q)
theorem lookup_nd {α : Type} {y : PySem.Str} {v : α} {l : List (PySem.Str × α)} (nd : (l.map (·.1)).Nodup) (h : (y, v) ∈ l) : l.lookup y = some v := by
  induction l with
  | nil => cases h
  | cons q l ih =>
    obtain ⟨d1, d2⟩ := List.nodup_cons.mp nd
    rw [List.lookup_cons]
    rcases List.mem_cons.mp h with e | h
    · rw [← e, beq_self_eq_true]
    · rw [beq_eq_false_iff_ne.mpr fun e : y = q.1 => d1 (List.mem_map.mpr ⟨_, h, e⟩)]
      exact ih d2 h
theorem zip_keys {α : Type} {ns : List PySem.Str} {vs : List α} (h : ns.length = vs.length) : (ns.zip vs).map (·.1) = ns := List.map_fst_zip (Nat.le_of_eq h)
theorem zip_fm {α : Type} {l : List (PySem.Str × α)} {ns : List PySem.Str} : ∀ {vs : List α}, (∀ q ∈ ns.zip vs, l.lookup q.1 = some q.2) → ns.length = vs.length → ns.filterMap (fun n => (l.lookup n).map (n, ·)) = ns.zip vs := by
  induction ns with
  | nil => exact fun _ _ => rfl
  | cons n ns ih =>
    intro vs h e
    cases vs with
    | nil => cases e
    | cons v vs =>
      rw [List.filterMap_cons, h (n, v) (.head _)]
      exact congrArg ((n, v) :: ·) (ih (fun q hq => h q (.tail _ hq)) (Nat.succ.inj e))
theorem zip_self {α : Type} {ns : List PySem.Str} {vs : List α} (nd : ns.Nodup) (e : ns.length = vs.length) : ∀ q ∈ ns.zip vs, (ns.zip vs).lookup q.1 = some q.2 := fun q hq => lookup_nd (by rw [zip_keys e]; exact nd) hq
theorem miss_nil {ns : List PySem.Str} {vs : List Value} (nd : ns.Nodup) (hl : ns.length = vs.length) : ns.filter (fun n => ((ns.zip vs).lookup n).isNone) = [] := by
  refine List.filter_eq_nil_iff.mpr fun n hn => ?_
  rw [← zip_keys hl] at hn
  obtain ⟨q, hq, e⟩ := List.mem_map.mp hn
  rw [← e, zip_self nd hl q hq]; exact Bool.false_ne_true
theorem bind_loop {f : PySem.Str × Value → List (PySem.Str × Value) → Sem (ForInStep (List (PySem.Str × Value)))} (hf : ∀ p s, (s.lookup p.1).isNone = true → f p s = pure (.yield (s ++ [p]))) {l : List (PySem.Str × Value)} : ∀ {s : List (PySem.Str × Value)}, ((s ++ l).map (·.1)).Nodup → forIn l s f = pure (s ++ l) := by
  induction l with
  | nil => intro s _; rw [List.append_nil, List.forIn_nil]
  | cons p l ih =>
    intro s nd
    have nd' : (((s ++ [p]) ++ l).map (·.1)).Nodup := by rw [List.append_assoc]; exact nd
    rw [List.map_append, List.nodup_append] at nd
    rw [List.forIn_cons, hf p s (by rw [lookup_out fun h => nd.2.2 p.1 h p.1 (.head _) rfl]; rfl), pure_bind]
    show forIn l (s ++ [p]) f = _
    rw [ih nd', List.append_assoc]
    rfl
theorem bind_x {s : Shared} {fd : FuncData} {as : List Arg} {kd : List (Option PySem.Expr)} {ds : List PySem.Expr} {vs : List Value} {dl : List Value} {ns1 ns2 : List PySem.Str} {r : Option (Array Value)} (hp : fd.params = ⟨[], as, none, [], kd, none, ds⟩)
   (hr : ∀ {M : Model} {A : Around} {E : Value → Shared → Prop} {Q : Option (Array Value) → Shared → Prop}, Q r s → wpAny M A (seqItems? fd.defaults) Q E s) (er : r.getD #[] = dl.toArray) (hns : as.map (·.arg) = ns1 ++ ns2) (l1 : ns1.length = vs.length) (l2 : ns2.length = dl.length) (nd : (ns1 ++ ns2).Nodup) :
    BindsTo s fd ⟨vs, []⟩ ((ns1 ++ ns2).zip (vs ++ dl)) := by
  intro M A E Q hq
  have le : (ns1 ++ ns2).length = ns1.length + dl.length := by rw [List.length_append, l2]
  have ez : (ns1 ++ ns2).zip vs = ns1.zip vs := by
    have := List.zip_append (l₁ := ns1) (l₂ := vs) (r₁ := ns2) (r₂ := []) l1
    rwa [List.append_nil, List.zip_nil_right, List.append_nil] at this
  have ed : dl.drop (dl.length - (as.map Arg.arg).length) = dl := by rw [hns, le, Nat.sub_eq_zero_of_le (Nat.le_add_left _ _), List.drop_zero]
  have et : (as.map Arg.arg).length - dl.length = ns1.length := by rw [hns, le, Nat.add_sub_cancel]
  have en := List.nodup_append.mp nd
  have e2 := List.zip_append (l₁ := ns1) (l₂ := vs) (r₁ := ns2) (r₂ := dl) l1
  have ek : (ns1 ++ ns2).length = (vs ++ dl).length := by rw [le, List.length_append, l1]
  unfold bindArgs
  rw [hp]
  refine wpAny_bind (wpAny_pure ?_)
  refine wpAny_bind (hr ?_)
  rw [er]
  refine bm_if_false ?_ (bm_if_false ?_ ?_)
  · refine Bool.and_eq_false_iff.mpr (.inl (decide_eq_false ?_))
    show ¬ vs.length > (as.map Arg.arg).length
    rw [hns, le, l1]
    exact Nat.not_lt.mpr (Nat.le_add_right _ _)
  · show (!(List.filter (fun n => (((as.map Arg.arg).zip vs).lookup n).isNone) ((as.map Arg.arg).take ((as.map Arg.arg).length - (dl.drop (dl.length - (as.map Arg.arg).length)).length))).isEmpty) = false
    rw [ed, et, hns, ez, List.take_left, miss_nil en.1 l1]
    rfl
  · refine wpAny_bind (wpAny_of_eq (a := (ns1 ++ ns2).zip (vs ++ dl)) ?_ ?_)
    · show forIn (((as.map Arg.arg).drop ((as.map Arg.arg).length - (dl.drop (dl.length - (as.map Arg.arg).length)).length)).zip (dl.drop (dl.length - (as.map Arg.arg).length))) ((as.map Arg.arg).zip vs) _ = _
      rw [ed, et, hns, ez, List.drop_left, e2]
      exact bind_loop (fun p s h => if_pos h) (by rw [← e2, zip_keys ek]; exact nd)
    · refine wpAny_pure ?_
      have := zip_fm (zip_self nd ek) ek
      show Q (((as.map Arg.arg) ++ []).filterMap fun n => (((ns1 ++ ns2).zip (vs ++ dl)).lookup n).map (n, ·)) s
      rw [hns, List.append_nil, this]
      exact hq

section
variable {w : PySem.World} {C : Cs} {V : Vl}
theorem isStr_seq (name s : PySem.Str) (t : Tok) : (Value.str s t).isStr name = seq s name := seq_beq s name
theorem seq_flip {x y : PySem.Str} (h : seq x y = false) : seq y x = false := Bool.eq_false_iff.mpr fun z => by rw [seq_iff.mp z, seq_iff.mpr rfl] at h; cases h
theorem getL_rel {name : PySem.Str} {es : List DictEntry} {xs : List (PySem.Str × SV)} (h : ERel w C V es xs) : (∀ x, sget name xs = some x → ∃ v, getL name es = some (some v) ∧ VRel C V v x) ∧ (sget name xs = none → getL name es = some none) := by
  induction h with
  | nil => exact ⟨fun _ h => no_o h, fun _ => rfl⟩
  | @cons s t v x es xs hv r ih =>
    unfold getL at ih ⊢
    simp only [List.find?_cons, isStr_seq]
    cases q : seq name s with
    | true =>
      obtain rfl := seq_iff.mp q
      rw [q, sget_at]
      exact ⟨fun y e => Option.some.inj e ▸ ⟨v, rfl, hv⟩, fun e => nomatch e⟩
    | false =>
      rw [seq_flip q, sget_off q]
      simp only [if_neg Bool.false_ne_true] at ih ⊢
      exact ih
end
noncomputable def plainV (x : SV) : Bool := !Nat.beq x.ctorIdx 8 && !Nat.beq x.ctorIdx 9
theorem handed_rel {C : Cs} {V : Vl} {v : Value} {x : SV} (h : VRel C V v x) (p : plainV x = true) : handedIn v = true := by
  cases x
  case none => rw [VRel.none' h]; rfl
  case bool => rw [VRel.bool' h]; rfl
  case int => obtain ⟨_, _, rfl, -⟩ := VRel.int' h; rfl
  case str => obtain ⟨_, rfl⟩ := VRel.str' h; rfl
  case strA => obtain ⟨_, _, rfl⟩ := VRel.strA' h; rfl
  case bytes => obtain ⟨_, _, rfl, -⟩ := VRel.bytes' h; rfl
  case ref => rw [(VRel.ref' h).1]; rfl
  case obj => rw [VRel.obj' h]; rfl
  case ty => rw [VRel.ty' h]; rfl
  all_goals exact no_k p
noncomputable def instS (c : Cfg) (o : SV) (name : PySem.Str) (σ : St) (f : Nat → Nat → Nat → At → List (PySem.Str × SV) → Bool) : Bool := onRef o fun i => hpInst σ i (fun C dd => onO (atGet c C name) fun at_ => hpSd σ dd (fun es => f i C dd at_ es) false) false
noncomputable def atA (a : At) : Bool := At.rec (fun _ => false) true a
theorem atA_is {a : At} (h : atA a = true) : a = .a := by
  cases a with
  | a => rfl
  | m => exact no_k h
noncomputable def getA (c : Cfg) (v : SV) (attr : PySem.Str) (σ : St) (k : Kt) : Bool := orObj v (fun C => onO (caGet c C attr) fun a => k (.v (.obj a)) σ) (instS c v attr σ fun _ _ _ at_ es => atA at_ && onO (sget attr es) fun x => plainV x && k (.v x) σ)
theorem atA_ok {G : Gv} {C : Nat} {x : PySem.Str} (h : atGet G.cf C x = some .a) : plainGet G.K C x = true ∧ hasDictIn G.K C = true ∧ (∃ at_, findIn G.K (.ref C) x = some at_ ∧ noGet G.K at_ = true) ∧ findIn G.K (.ref C) "__setattr__" = some (some (.builtin "object.__setattr__")) ∧ plainOver G.K C = true ∧ takerIn G.K C x = some none :=
  and_k (at_ok h) fun h1 h => and_k h fun h2 h => and_k h fun h3 h => dec_k h fun h4 h => and_k h fun h5 h => onO_k h3 fun at_ hf h3 => ⟨h1, h2, ⟨at_, hf, h3⟩, h4, h5, of_decide_eq_true h⟩
theorem atM_ok {G : Gv} {C f : Nat} {x : PySem.Str} (h : atGet G.cf C x = some (.m f)) : plainGet G.K C x = true ∧ findIn G.K (.ref C) x = some (some (.ref f)) ∧ isFn G.K (.ref f) = true :=
  and_k (at_ok h) fun h1 h => dec_k h fun h2 h => ⟨h1, h2, h⟩
theorem caB_ok {G : Gv} {C a : Nat} {x : PySem.Str} (h : caGet G.cf C x = some a) : specialIn G.K (.ref C) "__getattribute__" = some (some (.builtin "type.__getattribute__")) ∧ ∃ mc, typeIn G.K (.ref C) = some mc ∧ readsIn G.K C mc = true ∧ findCls G.K (.ref C) mc x = some (.val (.ref a)) :=
  dec_k (ca_ok h) fun h1 h => onO_k h fun mc hm h => and_k h fun h2 h => onO_k h fun r hr h => onO_k h fun v hv h => ⟨h1, mc, hm, h2, by rw [hr, cfVal_ok hv, of_decide_eq_true h]⟩
section
variable {G : Gv} {A : Around} {E : Value → Shared → Prop} {s : Shared} {V : Vl} {σ : St} {h₀ : Heap} {L : Addr} {m : PySem.Str → Option Value} {news : List (Addr × Obj)}
theorem inst_at (R : RepG G V σ h₀ L s m news) {i C dd : Nat} {es : List (PySem.Str × SV)} (h1 : iget i σ.heap = some (.inst C dd)) (h2 : iget dd σ.heap = some (.sd es)) :
    ∃ eS n, InstAt s.heap (V.ρ i) (instObj C (V.ρ dd)) C (some (dictOf eS n)) ∧ ERel G.w G.C V eS es :=
  RAt R h1 fun o m1 o1 _ => RAt R h2 fun o' m2 o2 _ => by
    refine Classical.byContradiction fun nO => ?_
    obtain ⟨rfl, -⟩ := ORel.inst' o1
    obtain ⟨eS, n, rfl, he⟩ := ORel.sd' o2
    refine nO ?_
    exact ⟨eS, n, InstAt.of_news R.nw m1 m2, he⟩
theorem getA_sound {attr : PySem.Str} {x : SV} {v : Value} {expr : Bool} {k : Kt} {Q : Value → Shared → Prop} (X : G.K.In h₀) (R : RepG G V σ h₀ L s m news) (hv : VRel G.C V v x) (h : getA G.cf x attr σ k = true) (hQ : Ends G V h₀ L m (RV G.C) k Q) : WPG G A (getAttr v attr expr) Q E s := by
  apply orObj_k h hv
  · intro C h
    refine Classical.byContradiction fun nO => ?_
    refine onO_k h fun a hf h => ?_
    obtain ⟨-, mc, ht, p1, hf⟩ := caB_ok hf
    refine nO ?_
    exact cls_val R.fr X ht p1 hf rfl (hQ.v h (.obj a) (RMove R R.fr R.nw))
  intro h
  apply onRef_k h hv; intro i hi h
  refine Classical.byContradiction fun nO => hpInst_e h (fun C dd hg h => onO_k h fun at_ hat h => hpSd_e h (fun es hd h => and_k h fun q h => onO_k h fun y hy h => and_k h fun p4 hk => nO ?_) no_k) no_k
  rw [atA_is q] at hat
  refine Classical.byContradiction fun nO => ?_
  obtain ⟨p1, p2, ⟨at_, hf, p3⟩, -⟩ := atA_ok hat
  obtain ⟨eS, n, I, he⟩ := inst_at R hg hd
  obtain ⟨u, g1, g2⟩ := (getL_rel he).1 y hy
  refine nO ?_
  exact get_own R.fr X I p1 p2 hf p3 g1 (handed_rel g2 p4) (hQ.v hk g2 (RMove R R.fr R.nw))
end
noncomputable def callLess (e : PySem.Expr) : Bool := exNe e 16
theorem attr_eq {value : PySem.Expr} {attr : PySem.Str} {pos : Pos} {env : Env} (h : callLess value = true) : eval (.Attribute value attr pos) env = (do
    let o ← eval value env
    standAt (Pos.atName pos)
    let r ← holding [o] (getAttr o attr true)
    letTemporaryGo value o r
    pure r) := by
  cases value <;> first | exact rfl | exact no_k h
noncomputable def attrS (c : Cfg) (self : Ev) (sc : Sc) (d : Nat) (value : PySem.Expr) (attr : PySem.Str) (σ : St) (k : Kt) : Bool :=
  callLess value && self sc.any d (.ex value) σ (kv fun x σ₁ => getA c x attr σ₁ k)
theorem attr_sound {G : Gv} {self : Ev} (hs : Snd G self) {sc : Sc} {d : Nat} {value : PySem.Expr} {attr : PySem.Str} {pos : Pos} {σ : St} {k : Kt} (h : attrS G.cf self sc.any d value attr σ k = true) : Hold G sc d (.ex (.Attribute value attr pos)) σ k := by
  intro V₀ A env h₀ L E fx po V s m news hV R Q hQ
  refine and_k h fun h1 h => wpX_any (Attribute_any_ (Sc.of <| hs sc.any d _ σ _ h V₀ A env h₀ L E fx.any po V s m news hV R _ (ends_v fun V' v x σ' s' news' l hk hv R' => ?_)) (attr_eq h1))
  exact getA_sound fx.X R' hv hk (hQ.up l)
noncomputable def starLess (e : PySem.Expr) : Bool := exNe e 22
theorem star_eq {e : PySem.Expr} {rest : List PySem.Expr} {env : Env} (h : starLess e = true) : starEach (e :: rest) env = (false, eval e env) :: starEach rest env := by
  cases e <;> first | exact rfl | exact no_k h
noncomputable def arsS (self : Ev) (sc : Sc) (d : Nat) (es : List PySem.Expr) (σ : St) (k : Kt) : Bool := List.rec (k (.vs []) σ) (fun e r _ => starLess e && self sc d (.ex e) σ (kv fun x σ₁ => self sc d (.ars r) σ₁ (kvs fun xs σ₂ => k (.vs (x :: xs)) σ₂))) es
theorem ars_sound {G : Gv} {self : Ev} (hs : Snd G self) {sc : Sc} {d : Nat} {es : List PySem.Expr} {σ : St} {k : Kt} (h : arsS self sc d es σ k = true) : Hold G sc d (.ars es) σ k := by
  intro V₀ A env h₀ L E fx po V s m news hV R pos Q hQ
  cases es with
  | nil => exact wpX_any <| args_nil (hQ V _ _ σ s news (V.le_refl) h (.mk .nil) R)
  | cons e r =>
    obtain ⟨h1, h⟩ := Bool.and_eq_true_iff.mp h
    refine x_spl (hs sc d _ σ _ h V₀ A env h₀ L E fx po V s m news hV R _ (ends_v fun V' v x σ' s' news' l hk hv R' => ?_)) (star_eq h1)
    refine hs sc d _ σ' _ hk V₀ A env h₀ L E fx po V' s' m news' (Vl.le_trans hV l) R' pos _ (ends_vs fun V'' vs xs σ'' s'' news'' l' hk' hvs R'' => ?_)
    exact hQ V'' _ _ σ'' s'' news'' (Vl.le_trans l l') hk' (.mk (.cons (hv.up l') hvs)) R''
theorem nodupB_ok {l : List PySem.Str} (h : nodupB l = true) : l.Nodup := by
  induction l with
  | nil => exact List.nodup_nil
  | cons n r ih =>
    refine and_k h fun h1 h2 => List.nodup_cons.mpr ⟨fun hm => ?_, ih h2⟩
    have := List.all_eq_true.mp h1 n hm
    rw [seq_iff.mpr rfl] at this
    cases this
theorem paramsIn_ok {p : Arguments} {ns : List PySem.Str} (h : paramsIn p = some ns) : ∃ as kd ds, p = ⟨[], as, none, [], kd, none, ds⟩ ∧ as.map (·.arg) = ns :=
  opB_k h fun h1 h => and_k h1 fun a1 h1 => and_k h1 fun a2 h1 => and_k h1 fun a3 a4 => by
    refine Classical.byContradiction fun nO => ?_
    obtain ⟨pa, as, va, ko, kd, kw, ds⟩ := p
    refine nO ?_
    exact ⟨as, kd, ds, by rw [show pa = [] from List.isEmpty_iff.mp a1, show va = none from Option.isNone_iff_eq_none.mp a2, show ko = [] from List.isEmpty_iff.mp a3, show kw = none from Option.isNone_iff_eq_none.mp a4], Option.some.inj h⟩
noncomputable def vRef (v : Value) : Option Addr := match v with | .ref a => some a | _ => none
theorem vRef_ok {v : Value} {a : Addr} (h : vRef v = some a) : v = .ref a := by
  cases v
  case ref => exact Option.some.inj h ▸ rfl
  all_goals exact no_o h
noncomputable def dSeq (d : Data) : Option (Array Value × Nat) := match d with | .seq a k => some (a, k) | _ => none
theorem dSeq_ok {d : Data} {x : Array Value × Nat} (h : dSeq d = some x) : d = .seq x.1 x.2 := by
  cases d
  case seq => exact Option.some.inj h ▸ rfl
  all_goals exact no_o h
noncomputable def oneL {α : Type} (l : List α) : Option α := List.rec none (fun x r _ => List.rec (some x) (fun _ _ _ => none) r) l
theorem oneL_ok {α : Type} {l : List α} {x : α} (h : oneL l = some x) : l = [x] := by
  cases l with
  | nil => exact no_o h
  | cons y r => cases r with
    | nil => exact Option.some.inj h ▸ rfl
    | cons => exact no_o h
noncomputable def dflV (v : Value) : Option SV := match v with | .int n _ => some (.int (.lit n)) | .none => some .none | _ => none
theorem dflV_ok {C : Cs} {V : Vl} {v : Value} {x : SV} (h : dflV v = some x) : VRel C V v x := by
  cases v
  case int => exact Option.some.inj h ▸ .int _ rfl
  case none => exact Option.some.inj h ▸ .none
  all_goals exact no_o h
noncomputable def dfl (K : Frag) (v : Value) : Option SV := opO (vRef v) fun T => opO (kgt T K) fun o => opO (dSeq o.data) fun q => opO (oneL q.1.toList) dflV
theorem dfl_ok {K : Frag} {v : Value} {x : SV} (h : dfl K v = some x) (C : Cs) (V : Vl) : ∃ T o k dv, v = .ref T ∧ K.lookup T = some o ∧ o.data = .seq #[dv] k ∧ VRel C V dv x :=
  opO_k h fun T hT h => opO_k h fun o ho h => opO_k h fun q hq h => opO_k h fun dv hd h => ⟨T, o, q.2, dv, vRef_ok hT, by rw [← kgt_eq]; exact ho, (dSeq_ok hq).trans (congrArg (fun a => Data.seq a q.2) (Array.toList_inj.mp (oneL_ok hd))), dflV_ok h⟩
noncomputable def vNone (v : Value) : Bool := match v with | .none => true | _ => false
theorem vNone_ok {v : Value} (h : vNone v = true) : v = .none := by
  cases v
  case none => rfl
  all_goals exact no_k h
noncomputable def locsIn (K : Frag) (fd : FuncData) (ns : List PySem.Str) (xs : List SV) : Option (List (PySem.Str × SV)) := orB (vNone fd.defaults) (opB (Nat.beq ns.length xs.length) (some (ns.zip xs))) (opO (dfl K fd.defaults) fun x => opB (Nat.beq ns.length (xs.length + 1)) (some (ns.zip (xs ++ [x]))))
noncomputable def kret (loc : List (PySem.Str × SV)) (k : Kt) : Kt
  | .rt x, σ => k (.v x) { σ with loc := loc }
  | .nx, σ => k (.v .none) { σ with loc := loc }
  | _, _ => false
noncomputable def fnT (c : Cfg) (a : Nat) (b : Bool) : Option (FuncData × List PySem.Str × List Stmt) := opO (iget a c.fo) fun b' => opB (b' == b) (fnR c.K a)
theorem fnT_ok {G : Gv} {a : Nat} {b : Bool} {r : FuncData × List PySem.Str × List Stmt} (h : fnT G.cf a b = some r) : fnR G.K a = some r ∧ fnOk G.K b r.1 r.2.1 = true :=
  opO_k h fun b' hb h => opB_k h fun q h => and_k (G.hfo (a, b') (iget_mem hb)) fun _ z => onO_k z fun r' hr z => by
    obtain rfl := Option.some.inj (hr.symm.trans h)
    exact ⟨h, beq_iff_eq.mp q ▸ z⟩
noncomputable def keepT (c : Cfg) (a : Nat) : Bool := Nat.beq a 59 || ((iget a c.fo).isSome || (iget a c.cs).isSome)
theorem clsT_ok {G : Gv} {a f : Nat} (h : iget a G.cf.cs = some f) : makesIn G.K a = true ∧ isFn G.K (.ref f) = true ∧ keepIn G.K (.ref a) = true ∧ findIn G.K (.ref a) "__init__" = some (some (.ref f)) :=
  and_k (G.hcs (a, f) (iget_mem h)) fun h1 h => and_k h fun h2 h => and_k h fun h3 h4 => ⟨h1, h2, h3, of_decide_eq_true h4⟩
theorem keepT_ok {G : Gv} {a : Nat} (h : keepT G.cf a = true) : keepIn G.K (.ref a) = true := by
  rcases Bool.or_eq_true_iff.mp h with h | h
  · obtain rfl := Nat.eq_of_beq_eq_true h; exact G.h59
  · rcases Bool.or_eq_true_iff.mp h with h | h
    · obtain ⟨b, hb⟩ := Option.isSome_iff_exists.mp h
      exact and_k (G.hfo (a, b) (iget_mem hb)) fun z _ => z
    · obtain ⟨f, hf⟩ := Option.isSome_iff_exists.mp h
      exact (clsT_ok hf).2.2.1
noncomputable def fnS (c : Cfg) (self : Ev) (sc : Sc) (d : Nat) (a : Nat) (xs : List SV) (σ : St) (k : Kt) : Bool := Nat.rec false (fun d _ => onO (fnT c a false) fun r => onO (locsIn c.K r.1 r.2.1 xs) fun l => self ⟨r.1.scope, [], none, sc.q, sc.cl, none⟩ d (.sts r.2.2) { σ with loc := l } (kret σ.loc k)) d
theorem zip_rel {C : Cs} {V : Vl} {ns : List PySem.Str} : ∀ {vs : List Value} {xs : List SV} {y : PySem.Str} {sv : SV}, All2 (VRel C V) vs xs → sget y (ns.zip xs) = some sv → ∃ v, (y, v) ∈ ns.zip vs ∧ VRel C V v sv := by
  induction ns with
  | nil => exact fun _ h => no_o h
  | cons n ns ih =>
    intro vs xs y sv hv h
    cases hv with
    | nil => exact no_o h
    | @cons v x vs xs hv r =>
      have h : (if seq y n then some x else sget y (ns.zip xs)) = some sv := h
      by_cases q : seq y n = true
      · rw [if_pos q] at h
        rw [← Option.some.inj h, seq_iff.mp q]
        exact ⟨v, .head _, hv⟩
      · rw [if_neg q] at h
        obtain ⟨u, h1, h2⟩ := ih r h
        exact ⟨u, .tail _ h1, h2⟩
theorem zip_lrel {C : Cs} {V : Vl} {ns : List PySem.Str} {vs : List Value} {xs : List SV} (nd : ns.Nodup) (hl : ns.length = vs.length) (hv : All2 (VRel C V) vs xs) : LRel C V (fun y => (ns.zip vs).reverse.lookup y) (ns.zip xs) := fun y sv e => by
  obtain ⟨v, h1, h2⟩ := zip_rel hv e
  refine ⟨v, lookup_nd ?_ (List.mem_reverse.mpr h1), h2⟩
  rw [List.map_reverse, zip_keys hl]
  exact (List.reverse_perm ns).nodup_iff.mpr nd

theorem fnOf_eq {fd : FuncData} {body : List Stmt} (hb : fd.body = .stmts body) (h1 : fd.globals = mainGlobals) (h2 : fd.builtins = builtinsNs) (h3 : fd.closure = []) : fd = fnOf fd.name fd.qualname fd.params body fd.scope fd.defaults fd.kwdefaults fd.doc fd.pyModule fd.annotations fd.code fd.closureTuple := by
  cases fd
  simp only at hb h1 h2 h3
  subst hb h1 h2 h3
  rfl
theorem locsIn_ok {K : Frag} {fd : FuncData} {ns : List PySem.Str} {xs : List SV} {l : List (PySem.Str × SV)} {C : Cs} {V : Vl} {vs : List Value} {s : Shared} {h₀ : Heap} {L : Addr} {m : PySem.Str → Option Value} (F : Fr h₀ L s.heap m) (X : K.In h₀)
    (h : locsIn K fd ns xs = some l) (hp : paramsIn fd.params = some ns) (nd : ns.Nodup) (hv : All2 (VRel C V) vs xs) :
    ∃ us, BindsTo s fd ⟨vs, []⟩ (ns.zip us) ∧ ns.length = us.length ∧ LRel C V (fun y => (ns.zip us).reverse.lookup y) l := by
  refine Classical.byContradiction fun nO => ?_
  obtain ⟨as, kd, ds, e1, e2⟩ := paramsIn_ok hp
  refine nO ?_
  refine Classical.byContradiction fun nO => orB_k h (fun hd h => opB_k h fun hl h => nO ?_) fun _ h => opO_k h fun x hx h => opB_k h fun hl h => nO ?_
  all_goals rw [← Option.some.inj h]
  · have hl := (Nat.eq_of_beq_eq_true hl).trans hv.len.symm
    have b := bind_x (s := s) (ns1 := ns) (ns2 := []) (dl := []) (r := none) e1 (fun h => by rw [vNone_ok hd]; exact wpAny_pure h) rfl (by rw [e2, List.append_nil]) hl rfl (by rw [List.append_nil]; exact nd)
    rw [List.append_nil, List.append_nil] at b
    exact ⟨vs, b, hl, zip_lrel nd hl hv⟩
  · have hl := Nat.eq_of_beq_eq_true hl
    refine Classical.byContradiction fun nO => ?_
    obtain ⟨T, o, k, dv, q1, q2, q3, q4⟩ := dfl_ok hx C V
    have ne : ns ≠ [] := fun e => by rw [e] at hl; cases hl
    obtain ⟨ns', n, rfl⟩ : ∃ ns' n, ns = ns' ++ [n] := ⟨ns.dropLast, ns.getLast ne, (List.dropLast_concat_getLast ne).symm⟩
    refine nO ?_
    have hl' : ns'.length = vs.length := by
      rw [List.length_append] at hl
      exact (Nat.succ.inj hl).trans hv.len.symm
    have hl2 : (ns' ++ [n]).length = (vs ++ [dv]).length := by rw [List.length_append, List.length_append, hl']; rfl
    exact ⟨vs ++ [dv], bind_x (r := some #[dv]) e1 (fun h => by rw [q1]; exact wpAny_seqItems ((X.keeps F.keep) _ _ q2) q3 h) rfl e2 hl' rfl nd, hl2, zip_lrel nd hl2 (hv.app (.cons q4 .nil))⟩
section
variable {G : Gv} {sc : Sc} {d : Nat} {σ : St} {k : Kt} {V₀ V : Vl} {A : Around} {h₀ : Heap} {L : Addr} {R' : Result → Shared → Prop} {s : Shared} {m : PySem.Str → Option Value} {news : List (Addr × Obj)}
theorem fx_in {e₀ : Env} {outer : List Env} {base g : Heap} {mean : ExcName → Option Value} {mg mb : PySem.Str → Option Value} {L' a : Addr} {q : PySem.Str} {scope : Scope} {cv : Value} {cl : List (PySem.Str × Addr)} {cs : List (PySem.Str × SV)} {b : Bool}
    (hfr : A.frames = some (e₀ :: outer)) (hEq : sc.q = false → EOk G V₀ base h₀ L (d + 1) (e₀ :: outer) fun e s' => R' (.error e) s') (hh : A.handled = none) (hd : A.depth + (d + 1) ≤ 900) (hu : A.units + 20 * (d + 1) ≤ 9000) (hV : V₀.le V) (FG : Fr h₀ L g m) (B' : Below A base (e₀ :: outer) g) (X' : G.K.In g) (T' : Top G.p G.loose mean mg mb g) (hc : CellsIn V cl cs) (hk : scope.kind = .function) :
    Fx G V (A.deeper (envX q scope L' a cv cl)) (envX q scope L' a cv cl) g L' ⟨scope, cs, none, sc.q, b, none⟩ d (fun e s' => wpAny (model G.prog G.w) (A.deeper (envX q scope L' a cv cl)) (leaving (envX q scope L' a cv cl) e) (fun _ s'' => R' (.error e) s'') (fun e' s'' => R' (.error e') s'') s') := by
  refine ⟨.fn hc, hk, ⟨q, scope, a, cv, cl, A, base, _, hk, B', ?_, fun hq => ⟨fun _ => ?_, ?_⟩⟩, hh, ?_, ?_, X', (fun _ _ q => nomatch q), mean, mg, mb, T'⟩
  · show A.frames.map _ = _
    rw [hfr]; rfl
  · intro V' σ' what e dx t tk ta tb m' news' s' l hx Fg N3 hed hen hr' hn' nd'
    exact leave_raiseX B' Fg N3 hed hen hk fun h'' r1 r2 => (hEq hq).2 V' σ' what e g h'' m news' _ (Vl.le_trans hV l) hx FG r2 r1 hr' hn' nd'
  · intro V' σ' what e g' h' m' news' s' l hx Fg hsm hR hr' hn' nd'
    exact leave_onX B' Fg hR hsm fun h'' r1 r2 => (hEq hq).2 V' σ' what e g h'' m news' _ (Vl.le_trans hV l) hx FG r2 r1 hr' hn' nd'
  · show A.depth + 1 + d ≤ 900
    omega
  · show A.units + 3 + 20 * d ≤ 9000
    omega
theorem kret_in (hQ : Ends G V₀ h₀ L m (RV G.C) k fun v s' => R' (.ok (.ret v)) s') (hl : LRel G.C V₀ m σ.loc) (l0 : V₀.le V) {g : Heap} {L' : Addr} : EndsF G V g L' (FRel G.C) (kret σ.loc k) fun fl s' => LeaveK h₀ L m g R' (match fl with | .ret v => v | _ => .none) s' := by
  intro V' r fl σ' s' m' news' l hk hR R
  have go : ∀ {x : SV} {v : Value}, k (.v x) { σ' with loc := σ.loc } = true → VRel G.C V' v x → LeaveK h₀ L m g R' v s' := fun hk hv =>
    ⟨L', m', _, R.fr, R.nw, fun F3 N3 => hQ V' _ _ _ s' news' (Vl.le_trans l0 l) hk (.mk hv) ⟨R.1, F3, N3, hl.up (Vl.le_trans l0 l), R.2.2.2.2⟩⟩
  cases hR with
  | nx => exact go hk .none
  | rt hv' => exact go hk hv'
  | bk => exact no_k hk
end
theorem fn_code {G : Gv} {self : Ev} (hs : Snd G self) {sc : Sc} {d a : Nat} {xs : List SV} {σ : St} {k : Kt} (h : fnS G.cf self sc d a xs σ k = true) {V₀ V : Vl} {A : Around} {env : Env} {h₀ : Heap} {L : Addr} {R' : Result → Shared → Prop} (fx : Fx G V₀ A env h₀ L sc d fun e s' => R' (.error e) s') {s : Shared} {m : PySem.Str → Option Value} {news : List (Addr × Obj)} (hV : V₀.le V) (R : RepG G V σ h₀ L s m news)
    {vs : List Value} (hv : All2 (VRel G.C V) vs xs) (hQ : Ends G V h₀ L m (RV G.C) k fun v s' => R' (.ok (.ret v)) s') : codeX sc.cl (model G.prog G.w) A (.call (.ref a) ⟨vs, []⟩) R' s := by
  cases d with
  | zero => exact no_k h
  | succ d' =>
  refine Classical.byContradiction fun nO => ?_
  refine onO_k h fun r hf h => onO_k h fun l hl h => ?_
  obtain ⟨hf, k4⟩ := fnT_ok hf
  obtain ⟨oc, od, osl, k1, k2, k3⟩ := fnR_ok hf
  refine and_k k4 fun f0 k4 => and_k k4 fun g9 k4 => and_k k4 fun g8 g10 => ?_
  have f0 := fnOk0_ok f0
  obtain ⟨-, -, ⟨cn, sc₀, ae, ccd, cl, A₀, base, outer, hk, B, hfr, hEq⟩, hh, hd, hu, X, -, mean, mg, mb, T⟩ := fx
  obtain ⟨us, hb, hlen, hlr'⟩ := locsIn_ok R.fr X hl k2 (nodupB_ok g9) hv
  refine nO ?_
  have hfd := fnOf_eq k3 f0.g f0.b f0.cl
  refine codeX_def (name := r.1.name) (qual := r.1.qualname) (params := r.1.params) (body := r.2.2) (scope := r.1.scope) (dV := r.1.defaults) (kV := r.1.kwdefaults) (doc := r.1.doc) (pm := r.1.pyModule) (an := r.1.annotations) (cdv := r.1.code) (ct := r.1.closureTuple) (oc := oc) (od := od) (osl := osl) (binds := r.2.1.zip us)
    B R.fr X R.nw T hfr rfl hk (by rw [k1]; exact congrArg (fun z => some (⟨oc, od, .func z, osl⟩ : Obj)) hfd) f0.cd (Nat.lt_of_le_of_lt (Nat.le_trans (Nat.le_add_right _ _) hd) (by decide)) (hfd ▸ hb) ?_ (fun g L' h₁ FG F' N' B' X' T' => ?_) f0.co f0.gn f0.k (fun x hx => of_decide_eq_true (List.all_eq_true.mp g8 x hx))
  · intro y hy
    exact of_decide_eq_true (List.all_eq_true.mp g10 y.1 (by rw [← zip_keys hlen]; exact List.mem_map_of_mem hy))
  · exact hs _ _ _ _ _ h V _ _ g L' _ (fx_in (cl := []) hfr hEq hh hd hu hV FG B' X' T' (fun _ _ e => no_o e) f0.k) (PassesOwn.leaving (Q₁ := fun e s'' => R' (.error e) s'')) V { s with heap := h₁, toks := _ } _ news (Vl.le_refl V) ⟨R.1, F', N', hlr', R.2.2.2.2⟩ rfl _ (kret_in hQ R.lc V.le_refl)
theorem fn_sound {G : Gv} {self : Ev} (hs : Snd G self) {sc : Sc} {d a : Nat} {xs : List SV} {σ : St} {k : Kt} (h : fnS G.cf self sc d a xs σ k = true) {V₀ V : Vl} {A : Around} {env : Env} {h₀ : Heap} {L : Addr} {E : Value → Shared → Prop} (fx : Fx G V₀ A env h₀ L sc d E) {s : Shared} {m : PySem.Str → Option Value} {news : List (Addr × Obj)} (hV : V₀.le V) (R : RepG G V σ h₀ L s m news)
    {vs : List Value} {Q : Value → Shared → Prop} (hv : All2 (VRel G.C V) vs xs) (hQ : Ends G V h₀ L m (RV G.C) k Q) : WPX G sc A (call (.ref a) vs) Q E s :=
  wpX_call (fn_code hs h fx hV R hv hQ)
noncomputable def clsS (c : Cfg) (self : Ev) (sc : Sc) (d : Nat) (a : Nat) (xs : List SV) (σ : St) (k : Kt) : Bool := Nat.rec false (fun d _ => onO (iget a c.cs) fun fI => decide (d + 1 < c.top) && fnS c self sc d fI (.ref (σ.nx + 1) :: xs) { nx := σ.nx + 2, heap := (σ.nx + 1, .inst a σ.nx) :: (σ.nx, .sd []) :: σ.heap, loc := σ.loc } (kv fun x σ' => onNon x (k (.v (.ref (σ.nx + 1))) σ'))) d
theorem cls_sound {G : Gv} {self : Ev} (hs : Snd G self) {sc : Sc} {d a : Nat} {xs : List SV} {σ : St} {k : Kt} (h : clsS G.cf self sc d a xs σ k = true) {V₀ V : Vl} {A : Around} {env : Env} {h₀ : Heap} {L : Addr} {E : Value → Shared → Prop} (fx : Fx G V₀ A env h₀ L sc d E) {s : Shared} {m : PySem.Str → Option Value} {news : List (Addr × Obj)} (hV : V₀.le V) (R : RepG G V σ h₀ L s m news)
    {vs : List Value} {Q : Value → Shared → Prop} (hv : All2 (VRel G.C V) vs xs) (hQ : Ends G V h₀ L m (RV G.C) k Q) : WPX G sc A (call (.ref a) vs) Q E s := by
  cases d with
  | zero => exact no_k h
  | succ d' =>
  refine Classical.byContradiction fun nO => ?_
  refine onO_k h fun fI hf h => dec_k h fun p0 h => ?_
  obtain ⟨p1, p2, -, hf⟩ := clsT_ok hf
  obtain ⟨he, hk, ⟨cn, sc₀, ae, ccd, cl, A₀, base, outer, hk₀, B, hfr, hEq⟩, hh, hd, hu, X, htb, hT⟩ := fx
  refine nO ?_
  refine x_cls R.fr X R.nw p1 hf p2 fun x dx h' F' N' l1 l2 => ?_
  refine Classical.byContradiction fun nO => ?_
  obtain ⟨R1, -⟩ := rep_newN (so := .sd []) (tk := s.toks) R F' (fun q hq => N' q (.tail _ hq)) (fun p hp => Nat.ne_of_lt (l1 p hp)) (fun q => nomatch q) (.sd .nil)
  have lt : σ.nx < (V.ext dx).n := by show σ.nx < V.n + 1; rw [R.nx]; exact Nat.lt_succ_self _
  have i2 := ORel.inst (prog := G.prog) (w := G.w) (C := G.C) (V := (V.ext dx).ext x) (K := a) (d := σ.nx) (Nat.lt_succ_of_lt lt)
  rw [((V.ext dx).le_ext x).2 _ lt, ← R.nx, V.ext_at dx, R.nx] at i2
  obtain ⟨R2, hx⟩ := rep_newN (so := .inst a σ.nx) (tk := s.toks) R1 F' N' (fun p hp => (List.mem_cons.mp hp).elim (fun z => z ▸ Nat.ne_of_lt l2) fun hp => Nat.ne_of_lt (Nat.lt_trans (l1 p hp) l2)) (fun q => nomatch q) i2
  refine nO ?_
  have l := Vl.le_trans (V.le_ext dx) ((V.ext dx).le_ext x)
  have hr' : (A.under (.builtin "type.__call__" ⟨.ref a :: vs, []⟩)).frames = some (envX cn sc₀ L ae ccd cl :: outer) := by
    unfold Around.under
    simp only [hfr]
    rfl
  have fx' : Fx G V₀ (A.under (.builtin "type.__call__" ⟨.ref a :: vs, []⟩)) env h₀ L sc d' (fun e s' => InitBack x (fun r s' => match r with | .ok (.ret v) => Q v s' | .ok _ => False | .error e => E e s') (.error e) s') := by
    refine ⟨he, hk, ⟨cn, sc₀, ae, ccd, cl, A₀, base, outer, hk₀, B, hr', fun hq => ⟨fun _ => (hEq hq).1 p0, (hEq hq).2⟩⟩, hh, ?_, ?_, X, htb, hT⟩
    · rw [depth_under_make]; omega
    · rw [units_under_make]; omega
  exact fn_code hs h fx' (Vl.le_trans hV l) R2 (.cons hx (VsRel.up l hv)) (ends_v fun V' v y σ' s' news' l' hk' hv' R' => by
    apply onNon_k (P := fun v => InitBack x _ (.ok (.ret v)) s') hk' hv'; intro hk'
    exact ⟨rfl, hQ V' _ _ σ' s' news' (Vl.le_trans l l') hk' (.mk (hx.up l')) R'⟩)

noncomputable def MethOk (n : PySem.Str) (id : String) : Prop := Slot "list" n id ∧ typeOf (.builtin id) = pure (.type "method_descriptor")
noncomputable def lmeth (n : PySem.Str) : Option String := orB (seq n (Str.ofString "append")) (some "list.append") (orB (seq n (Str.ofString "pop")) (some "list.pop") (orB (seq n (Str.ofString "extend")) (some "list.extend") (orB (seq n (Str.ofString "insert")) (some "list.insert") (opB (seq n (Str.ofString "remove")) (some "list.remove")))))
theorem lmeth_ok {n : PySem.Str} {id : String} (h : lmeth n = some id) : MethOk n id := by
  have one : ∀ {n' : PySem.Str} {id' : String}, seq n n' = true → some id' = some id → MethOk n' id' → MethOk n id := fun q e ok => by
    rw [seq_iff.mp q, ← Option.some.inj e]; exact ok
  exact orB_k h (fun q e => one q e ⟨PySem.F.slot_list_append, PySem.F.type_list_append⟩) fun _ h => orB_k h (fun q e => one q e ⟨PySem.F.slot_list_pop, PySem.F.type_list_pop⟩) fun _ h => orB_k h (fun q e => one q e ⟨PySem.F.slot_list_extend, PySem.F.type_list_extend⟩) fun _ h => orB_k h (fun q e => one q e ⟨PySem.F.slot_list_insert, PySem.F.type_list_insert⟩) fun _ h => opB_k h fun q e => one q e ⟨PySem.F.slot_list_remove, PySem.F.type_list_remove⟩
noncomputable abbrev Km := SV → List SV → St → Bool
noncomputable def isM (a : At) : Option Nat := At.rec some none a
theorem isM_ok {a : At} {f : Nat} (h : isM a = some f) : a = .m f := by
  cases a with
  | m => exact Option.some.inj h ▸ rfl
  | a => exact no_o h
noncomputable def noneO {α : Type} (o : Option α) (e : Bool) : Bool := Option.rec e (fun _ => false) o
theorem noneO_k {α : Type} {o : Option α} {e : Bool} (h : noneO o e = true) {P : Prop} (K : o = none → e = true → P) : P := by
  cases o with
  | none => exact K rfl h
  | some => exact no_k h
noncomputable def getM (c : Cfg) (v : SV) (name : PySem.Str) (σ : St) (k : Km) : Bool := orObj v (fun C => onO (caGet c C name) fun a => k (.obj a) [] σ) (orStr v (fun x => seq name (Str.ofString "split") && k (.bi "str.split") [.str x] σ) (onRef v fun i => hpList σ i (fun _ => onO (lmeth name) fun id => k (.bi id) [.ref i] σ) (hpInst σ i (fun C dd => onO (atGet c C name) fun at_ => hpSd σ dd (fun es => onO (isM at_) fun f => noneO (sget name es) (k (.obj f) [.ref i] σ)) false) false)))
section
variable {G : Gv} {A : Around} {E : Value → Shared → Prop} {s : Shared} {V : Vl} {σ : St} {h₀ : Heap} {L : Addr} {m : PySem.Str → Option Value} {news : List (Addr × Obj)}
theorem getM_sound {name : PySem.Str} {x : SV} {v : Value} {pl : Sem Bool} {k : Km} {Q : Value × List Value → Shared → Prop} (X : G.K.In h₀) (R : RepG G V σ h₀ L s m news) (hv : VRel G.C V v x) (h : getM G.cf x name σ k = true)
    (hQ : ∀ V' f fs fv fvs σ' s' news', V.le V' → k f fs σ' = true → VRel G.C V' fv f → All2 (VRel G.C V') fvs fs → RepG G V' σ' h₀ L s' m news' → Q (fv, fvs) s') : WPG G A (getMethod v name pl) Q E s := by
  have R0 := fun tk => RMove (tk := tk) R R.fr R.nw
  apply orObj_k h hv
  · intro C h
    refine Classical.byContradiction fun nO => ?_
    refine onO_k h fun a hf h => ?_
    obtain ⟨p1, mc, ht, p2, hf⟩ := caB_ok hf
    refine nO ?_
    exact method_of_cls R.fr X p1 (cls_val R.fr X ht p2 hf rfl (hQ V _ _ _ _ σ _ news V.le_refl h (.obj a) .nil (R0 _)))
  intro h
  apply orStr_k h hv
  · intro t y h
    refine and_k h fun q h => ?_
    obtain rfl := seq_iff.mp q
    exact GM.split (hQ V _ _ _ _ σ _ news V.le_refl h (.bi _) (.cons (.str _ _) .nil) (R0 _))
  intro h
  apply onRef_k h hv; intro i hi h
  refine Classical.byContradiction fun nO => hpList_e h (fun xs hg h => onO_k h fun id hm h => RAt R hg fun o m1 o1 _ => nO ?_) fun h => hpInst_e h (fun C dd hg h => onO_k h fun at_ hat h => hpSd_e h (fun es hd h => onO_k h fun f hf h => noneO_k h fun hn h => nO ?_) no_k) no_k
  · obtain ⟨q1, q2⟩ := lmeth_ok hm
    refine Classical.byContradiction fun nO => ?_
    obtain ⟨us, n, rfl, -⟩ := ORel.list' o1
    refine nO ?_
    exact kl_method R.nw m1 q1 q2 (hQ V _ _ _ _ σ _ news V.le_refl h (.bi id) (.cons (.ref hi) .nil) (R0 _))
  · rw [isM_ok hf] at hat
    refine Classical.byContradiction fun nO => ?_
    obtain ⟨p1, hf, p2⟩ := atM_ok hat
    obtain ⟨eS, n, I, he⟩ := inst_at R hg hd
    refine nO ?_
    exact method_inst R.fr X I p1 hf p2 ((getL_rel he).2 hn) (hQ V _ _ _ _ σ _ news V.le_refl h (.obj f) (.cons (.ref hi) .nil) (R0 _))
end
theorem star_any {es : List PySem.Expr} {pos : Pos} {env : Env} (h : es.all starLess = true) : ((backTo pos (starEach es env)).any fun x => x.1) = false := by
  induction es with
  | nil => rfl
  | cons e r ih =>
    obtain ⟨h1, h2⟩ := Bool.and_eq_true_iff.mp (show (starLess e && r.all starLess) = true from h)
    rw [star_eq h1]
    exact ih h2
noncomputable def cwS (c : Cfg) (self : Ev) (sc : Sc) (d : Nat) (f : SV) (first : List SV) (args : List PySem.Expr) (σ : St) (k : Kt) : Bool :=
  args.all starLess && (orO (svObj f) (keepT c) (orO (svTy f) (fun _ => first.isEmpty && !args.isEmpty) (onO (svBi f) fun _ => !(first.isEmpty && args.isEmpty))) && List.rec (self sc d (.call f first) σ k) (fun _ _ _ => self sc d (.ars args) σ (kvs fun xs σ₁ => self sc d (.call f (first ++ xs)) σ₁ k)) args)
theorem cw_sound {G : Gv} {self : Ev} (hs : Snd G self) {sc : Sc} {d : Nat} {f : SV} {first : List SV} {args : List PySem.Expr} {σ : St} {k : Kt} (h : cwS G.cf self sc d f first args σ k = true) {V₀ V : Vl} {A : Around} {env : Env} {h₀ : Heap} {L : Addr} {E : Value → Shared → Prop} (fx : Fx G V₀ A env h₀ L sc d E) (po : PassesOwn (model G.prog G.w) A env E) {s : Shared} {m : PySem.Str → Option Value} {news : List (Addr × Obj)} (hV : V₀.le V) (R : RepG G V σ h₀ L s m news)
    {fv : Value} {fvs : List Value} {pos : Pos} {Q : Value → Shared → Prop} (hf : VRel G.C V fv f) (hfs : All2 (VRel G.C V) fvs first) (hQ : Ends G V h₀ L m (RV G.C) k Q) : WPX G sc A (callWith pos fv fvs (backTo pos (starEach args env)) []) Q E s := by
  refine and_k h fun h1 h => and_k h fun h2 h => ?_
  cases args with
  | nil =>
    have nil : WPX G sc A (call fv fvs) Q E s := hs sc d _ σ _ h V₀ A env h₀ L E fx po V s m news hV R fv fvs Q hf hfs hQ
    refine Classical.byContradiction fun nO => orO_k h2 (fun a ha h2 => nO ?_) fun h2 => orO_k h2 (fun t ht h2 => and_k h2 fun _ h2 => no_k h2) fun h2 => onO_k h2 fun b hb _ => nO ?_
    · rw [svObj_ok ha] at hf
      obtain rfl := VRel.obj' hf
      exact x_callK0 (fx.X.keeps R.fr.keep) (keepT_ok h2) (by rw [List.append_nil]; exact nil)
    · rw [svBi_ok hb] at hf
      obtain rfl := VRel.bi' hf
      exact x_callN rfl (by rw [List.append_nil]; exact nil)
  | cons e r =>
    have go : ∀ Q', (∀ V' vs xs σ' s' m news', V.le V' → All2 (VRel G.C V') vs xs → RepG G V' σ' h₀ L s' m news' → (∀ u, VRel G.C V' u f → WPX G sc A (call u (fvs ++ vs)) Q E s') → Q' vs s') → WPX G sc A (spliced (backTo pos (starEach (e :: r) env))) Q' E s := fun Q' hq =>
      hs sc d _ σ _ h V₀ A env h₀ L E fx po V s m news hV R pos Q' (ends_vs fun V' vs xs σ' s' news' l hk hvs R' => hq V' vs xs σ' s' m news' l hvs R' fun u hu =>
        hs sc d _ σ' _ hk V₀ A env h₀ L E fx po V' s' m news' (Vl.le_trans hV l) R' u _ Q hu ((VsRel.up l hfs).app hvs) (hQ.up l))
    refine Classical.byContradiction fun nO => and_k (show (starLess e && r.all starLess) = true from h1) fun g1 g2 => orO_k h2 (fun a ha h2 => nO ?_) fun h2 => orO_k h2 (fun t ht h2 => and_k h2 fun hE _ => nO ?_) fun h2 => onO_k h2 fun b hb _ => nO ?_
    · have hk := keepT_ok h2
      obtain rfl := svObj_ok ha
      obtain rfl := VRel.obj' hf
      exact x_callK hk (go _ fun V' vs xs σ' s' m news' l hvs R' hc => ⟨fx.X.keeps R'.fr.keep, hc _ (.obj a)⟩) (star_eq g1) (star_any g2)
    · obtain rfl := svTy_ok ht
      obtain rfl := VRel.ty' hf
      obtain rfl : fvs = [] := List.length_eq_zero_iff.mp (by rw [hfs.len, List.isEmpty_iff.mp hE]; rfl)
      exact x_callM (first := []) rfl (go _ fun V' vs xs σ' s' m news' l hvs R' hc => hc _ (.ty t)) (star_eq g1) (star_any g2)
    · obtain rfl := svBi_ok hb
      obtain rfl := VRel.bi' hf
      exact x_callM rfl (go _ fun V' vs xs σ' s' m news' l hvs R' hc => hc _ (.bi b)) (star_eq g1) (star_any g2)
theorem star_none {es : List PySem.Expr} {pos : Pos} {env : Env} (h : es.all starLess = true) : ((backTo pos (starEach es env)).all fun x => !x.1) = true := by
  induction es with
  | nil => rfl
  | cons e r ih =>
    obtain ⟨h1, h2⟩ := Bool.and_eq_true_iff.mp (show (starLess e && r.all starLess) = true from h)
    rw [star_eq h1]
    exact ih h2
noncomputable def callM (e : PySem.Expr) : Bool := orO (exCall e) (fun x => !exNe x.1 20) true
theorem mcall_eq {o : PySem.Expr} {name : PySem.Str} {apos pos : Pos} {args : List PySem.Expr} {env : Env} (h : callM o = true) (h1 : args.all starLess = true) (h2 : decide (args.length < 30) = true) (h3 : (apos.endLine == pos.line) = true) : eval (.Call (.Attribute o name apos) args [] pos) env = (do
    let ov ← eval o env
    standAt (Pos.atName apos)
    let (f, first) ← holding [ov] (getMethod ov name (do return (← importBound o env).getD true))
    callWith pos f first (backTo pos (starEach args env)) []) := by
  have e : eval (.Call (.Attribute o name apos) args [] pos) env = (do
      let ov ← eval o env
      standAt (Pos.atName apos)
      methodCall o name apos pos env ov args.length (backTo pos (starEach args env)) []) := by
    cases o
    case Call f _ _ _ => cases f <;> first | rfl | exact no_k h
    all_goals rfl
  have hf : methodCallForm args.length (backTo pos (starEach args env)) [] = true := by
    unfold methodCallForm
    rw [star_none h1]
    exact h2
  rw [e]
  unfold methodCall
  rw [hf]
  unfold calleeOf methodCallPos
  rw [h3]
  rfl
noncomputable def evCall (c : Cfg) (self : Ev) (sc : Sc) (d : Nat) (func : PySem.Expr) (args : List PySem.Expr) (pos : Pos) (σ : St) (k : Kt) : Bool := orO (exAttribute func) (fun x => callM x.1 && (args.all starLess && (decide (args.length < 30) && ((x.2.2.endLine == pos.line) && self sc.any d (.ex x.1) σ (kv fun v σ₁ => getM c v x.2.1 σ₁ fun f fs σ₂ => cwS c self sc d f fs args σ₂ k))))) (onO (exName func) fun x => self sc.any d (.ex (.Name x.1 x.2)) σ (kv fun f σ₁ => cwS c self sc d f [] args σ₁ k))
theorem call_sound {G : Gv} {self : Ev} (hs : Snd G self) {sc : Sc} {d : Nat} {func : PySem.Expr} {args : List PySem.Expr} {pos : Pos} {σ : St} {k : Kt} (h : evCall G.cf self sc d func args pos σ k = true) : Hold G sc d (.ex (.Call func args [] pos)) σ k := by
  intro V₀ A env h₀ L E fx po V s m news hV R Q hQ
  refine Classical.byContradiction fun nO => orO_k h (fun x hx h => and_k h fun c1 h => and_k h fun c2 h => and_k h fun c3 h => and_k h fun c4 h => nO ?_) fun h => onO_k h fun x hx h => nO ?_
  · rw [exAttribute_ok hx]
    refine x_meth (Sc.of <| hs sc.any d _ σ _ h V₀ A env h₀ L E fx.any po V s m news hV R _ (ends_v fun V' v x σ' s' news' l hk hv R' => ?_)) (mcall_eq c1 c2 c3 c4)
    exact getM_sound fx.X R' hv hk fun V'' f fs fv fvs σ'' s'' news'' l' hk' hf hfs R'' => cw_sound hs hk' fx po (Vl.le_trans hV (Vl.le_trans l l')) R'' hf hfs (hQ.up (Vl.le_trans l l'))
  · rw [exName_ok hx]
    exact x_callName (Sc.of <| hs sc.any d _ σ _ h V₀ A env h₀ L E fx.any po V s m news hV R _ (ends_v fun V' v x σ' s' news' l hk hv R' => cw_sound hs hk fx po (Vl.le_trans hV l) R' hv .nil (hQ.up l)))

section
variable {G : Gv} {self : Ev} {sc : Sc} {d : Nat} {σ : St} {k : Kt}
noncomputable def negS (a : SV) (σ : St) (k : Kt) : Bool := onLit a fun n => k (.v (.int (.lit (-n)))) σ
theorem neg_sound (hs : Snd G self) {x : PySem.Expr} {pos : Pos} (h : self sc.any d (.ex x) σ (kv fun a σ₁ => negS a σ₁ k) = true) : Hold G sc d (.ex (.UnaryOp .USub x pos)) σ k := by
  intro V₀ A env h₀ L E fx po V s m news hV R Q hQ
  refine wpX_any ?_
  refine UnaryOp_ (Sc.of <| hs sc.any d _ σ _ h V₀ A env h₀ L E fx.any po V s m news hV R _ (ends_v fun V' v x σ' s' news' l hk hv R' => ?_))
  apply onLit_k hk hv; intro n t hk
  exact neg_int (hQ V' _ _ σ' _ news' l hk (.mk (.int _ rfl)) R')
noncomputable def intEq (n : Int) (y : Value) : Bool := match y with | .int z _ => z == n | _ => false
noncomputable def strEq (w : PySem.Str) (y : Value) : Bool := match y with | .str z _ => z == w | _ => false
theorem any_rel {S : Value → Bool → Prop} {e : Value → Bool} (he : ∀ v b, S v b → e v = b) {vs : List Value} {l : List Bool} (h : All2 S vs l) : vs.any e = l.any (fun b => b) := by
  induction h with
  | nil => rfl
  | cons h _ ih => rw [List.any_cons, List.any_cons, he _ _ h, ih]
noncomputable def inLit (x : SV) (xs : List SV) : Option Bool := orP (opO (svLit x) fun n => opO (mapO (fun y => opO (svLit y) fun z => some (z == n)) xs) fun l => some (l.any fun b => b)) (opO (svStr x) fun w => opO (mapO (fun y => opO (svStr y) fun z => some (seq z w)) xs) fun l => some (l.any fun b => b))
noncomputable def InOk (A : Around) (s : Shared) (v : Value) (vs : List Value) (r : Bool) : Prop := ∃ e : Value → Bool, (∀ y ∈ vs, SeqAt.EqAt A s y v (e y)) ∧ vs.any e = r
theorem inOk_of {A : Around} {s : Shared} {v : Value} {e : Value → Bool} {vs : List Value} {l : List Bool} (h : All2 (fun y b => SeqAt.EqAt A s y v (e y) ∧ e y = b) vs l) : InOk A s v vs (l.any fun b => b) := by
  refine ⟨e, ?_, any_rel (fun _ _ h => h.2) h⟩
  induction h with
  | nil => exact fun _ h => nomatch h
  | cons h _ ih => exact fun y hy => (List.mem_cons.mp hy).elim (fun q => q ▸ h.1) (ih y)
theorem inLit_ok {C : Cs} {V : Vl} {A : Around} {s : Shared} {x : SV} {v : Value} {r : Bool} {vs : List Value} {xs : List SV} (hv : VRel C V v x) (hvs : All2 (VRel C V) vs xs) (h : inLit x xs = some r) : InOk A s v vs r := by
  refine Classical.byContradiction fun nO => orP_k h (fun h => opO_k h fun n hn h => opO_k h fun l hl h => nO ?_) fun h => opO_k h fun n hn h => opO_k h fun l hl h => nO ?_
  all_goals rw [← Option.some.inj h]
  · apply svLit_k hn hv; intro t
    refine inOk_of (e := intEq n) (mapO_ok (R := VRel C V) (fun y a b hy hb => ?_) hvs hl)
    refine opO_k hb fun z hz hb => ?_
    apply svLit_k hz hy; intro t'
    exact ⟨SeqAt.EqAt.int_int _ _ _ _, Option.some.inj hb⟩
  · apply svStr_k hn hv; intro t
    refine inOk_of (e := strEq n) (mapO_ok (R := VRel C V) (fun y a b hy hb => ?_) hvs hl)
    refine opO_k hb fun z hz hb => ?_
    apply svStr_k hz hy; intro t'
    exact ⟨SeqAt.EqAt.str_str _ _ _ _, (seq_beq z n).trans (Option.some.inj hb)⟩
noncomputable def keyIn (n : Int) (kvs : List (Int × SV)) : Bool := kvs.any fun q => q.1 == n
theorem keyIn_ok {C : Cs} {V : Vl} {n : Int} {kvs : List (Int × Value)} {ks : List (Int × SV)} (h : All2 (KRel C V) kvs ks) : (valueAt kvs n).isSome = keyIn n ks := by
  unfold valueAt keyIn
  rw [Option.isSome_map]
  induction h with
  | nil => rfl
  | @cons a b as bs hab _ ih =>
    rw [List.find?_cons, List.any_cons, ← hab.1]
    by_cases q : a.1 = n
    · rw [decide_eq_true q, beq_iff_eq.mpr q]; rfl
    · rw [decide_eq_false q, beq_eq_false_iff_ne.mpr q]; exact ih
noncomputable def inV (σ : St) (a b : SV) : Option Bool := opO (svRef b) fun i => orP (opO (obind (iget i σ.heap) asId) fun kvs => opO (svLit a) fun n => some (keyIn n kvs)) (orP (opO (obind (iget i σ.heap) asTup) (inLit a)) (opO (obind (iget i σ.heap) asList) (inLit a)))
theorem isTup_of {G : Gv} {V : Vl} {σ : St} {h₀ : Heap} {L : Addr} {s : Shared} {m : PySem.Str → Option Value} {news : List (Addr × Obj)} (R : RepG G V σ h₀ L s m news) {i : Nat} {xs : List SV} (h : iget i σ.heap = some (.tup xs)) : ∃ vs : List Value, s.heap.IsTuple (V.ρ i) vs.toArray ∧ All2 (VRel G.C V) vs xs := by
  refine Classical.byContradiction fun nO => ?_
  refine RAt R h fun o m1 o1 _ => ?_
  obtain ⟨vs, rfl, hl⟩ := ORel.tup' o1
  refine nO ?_
  exact ⟨vs, ⟨_, (R.nw _ m1).1, rfl, _, rfl⟩, hl⟩
theorem isList_of {G : Gv} {V : Vl} {σ : St} {h₀ : Heap} {L : Addr} {s : Shared} {m : PySem.Str → Option Value} {news : List (Addr × Obj)} (R : RepG G V σ h₀ L s m news) {i : Nat} {xs : List SV} (h : iget i σ.heap = some (.list xs)) : ∃ vs : List Value, s.heap.IsList (V.ρ i) vs.toArray ∧ All2 (VRel G.C V) vs xs := by
  refine Classical.byContradiction fun nO => ?_
  refine RAt R h fun o m1 o1 _ => ?_
  obtain ⟨vs, n, rfl, hl⟩ := ORel.list' o1
  refine nO ?_
  exact ⟨vs, ⟨_, (R.nw _ m1).1, rfl, _, rfl⟩, hl⟩
theorem any_arr {vs : List Value} {e : Value → Bool} : vs.toArray.any e = vs.any e := List.any_toArray
theorem eqAt_bytes {A : Around} {s : Shared} (b : Array UInt8) (t u : Tok) : SeqAt.EqAt A s (.bytes b t) (.bytes b u) true := fun prog w E Q h => by
  unfold eqBool
  refine wpAny_holding ?_
  refine wpAny_ite_split (fun _ => ?_) (fun _ => ?_)
  · exact wpAny_bind (wpAny_rule (wpAny_pure h))
  · refine wpAny_bind (PySem.W.eq_bytes (b := b) (c := b) (t := t) (u := u) ?_)
    rw [beq_self_eq_true]
    exact wpAny_truthy_bool h
theorem all2_idx {α β : Type} {P : α → β → Prop} {vs : List α} {us : List β} (h : All2 P vs us) : ∀ j (h1 : j < vs.length) (h2 : j < us.length), P vs[j] us[j] := by
  induction h with
  | nil => exact fun j h => absurd h (Nat.not_lt_zero _)
  | cons h _ ih =>
    intro j h1 h2
    cases j with
    | zero => exact h
    | succ j => exact ih j (Nat.lt_of_succ_lt_succ h1) (Nat.lt_of_succ_lt_succ h2)
noncomputable def atomO (a b : SV) : Option Unit := orP (opO (svNon a) fun _ => svNon b) (orP (opO (svBo a) fun x => opO (svBo b) fun y => opB (x == y) (some ())) (orP (opO (svInt a) fun x => opO (svInt b) fun y => sameO x y) (orP (opO (svStr a) fun x => opO (svStr b) fun y => opB (seq x y) (some ())) (opO (svBy a) fun x => opO (svBy b) fun y => opO (eqBy x y) fun _ => some ()))))
theorem atomO_ok {C : Cs} {V : Vl} {A : Around} {s : Shared} {v u : Value} {a b : SV} {r : Unit} (ha : VRel C V v a) (hb : VRel C V u b) (h : atomO a b = some r) : SeqAt.EqAt A s v u true := by
  refine Classical.byContradiction fun nO => orP_k h (fun h => opO_k h fun _ h1 h2 => nO ?_) fun h => orP_k h (fun h => opO_k h fun x h1 h => opO_k h fun y h2 h => opB_k h fun q _ => nO ?_) fun h => orP_k h (fun h => opO_k h fun x h1 h => opO_k h fun y h2 q => nO ?_) fun h => orP_k h (fun h => opO_k h fun x h1 h => opO_k h fun y h2 h => opB_k h fun q _ => nO ?_) fun h => opO_k h fun x h1 h => opO_k h fun y h2 h => opO_k h fun _ q _ => nO ?_
  · apply svNon_k h1 ha
    apply svNon_k h2 hb
    exact SeqAt.EqAt.same _
  · apply svBo_k h1 ha
    apply svBo_k h2 hb
    rw [beq_iff_eq.mp q]
    exact SeqAt.EqAt.same _
  · apply svInt_k h1 ha; intro z t hz
    apply svInt_k h2 hb; intro z' t' hz'
    have e := SeqAt.EqAt.int_int (A := A) (s := s) z t z' t'
    rwa [beq_iff_eq.mpr (sameO_ok _ _ _ _ _ hz hz' q)] at e
  · apply svStr_k h1 ha; intro t
    apply svStr_k h2 hb; intro t'
    have e := SeqAt.EqAt.str_str (A := A) (s := s) x t y t'
    rwa [beq_iff_eq.mpr (seq_iff.mp q)] at e
  · apply svBy_k h1 ha; intro z t hz
    apply svBy_k h2 hb; intro z' t' hz'
    have e := bInts_same (eqBy_ok hz hz' q).1
    rw [show z = z' from Array.toList_inj.mp e]
    exact eqAt_bytes z' t t'
noncomputable def two {β : Type} (as : SO → Option (List SV)) (hp : List (Nat × SO)) (i j : Nat) (f : List SV → List SV → Option β) : Option β := opO (obind (iget i hp) as) fun xs => opO (obind (iget j hp) as) fun ys => f xs ys
noncomputable def eqO (hp : List (Nat × SO)) (n : Nat) : SV → SV → Option Unit := Nat.rec (motive := fun _ => SV → SV → Option Unit) (fun _ _ => none) (fun _ ih a b => orP (atomO a b) (opO (svRef a) fun i => opO (svRef b) fun j => orB (Nat.beq i j) (some ()) (orP (two asList hp i j (all2O ih)) (two asTup hp i j (all2O ih))))) n
theorem alltrue {n : Nat} : ((List.range n).all fun _ => true) = true := List.all_eq_true.mpr fun _ _ => rfl
theorem mintrue {vs us : List Value} (h : vs.length = us.length) : ((List.range (min vs.toArray.size us.toArray.size)).all (fun _ => true) && vs.toArray.size == us.toArray.size) = true := by
  rw [alltrue, List.size_toArray, List.size_toArray, h, beq_self_eq_true]; rfl
theorem eqO_ok {V : Vl} {h₀ : Heap} {L : Addr} {s : Shared} {m : PySem.Str → Option Value} {news : List (Addr × Obj)} (R : RepG G V σ h₀ L s m news) (n : Nat) : ∀ {A : Around} (v u : Value) (a b : SV) (r : Unit), A.units + n < cLine → VRel G.C V v a → VRel G.C V u b → eqO σ.heap n a b = some r → SeqAt.EqAt A s v u true := by
  induction n with
  | zero => exact fun _ _ _ _ _ _ _ _ h => no_o h
  | succ n ih =>
    intro A v u a b r hu ha hb h
    refine orP_k h (fun h => atomO_ok ha hb h) fun h => opO_k h fun i hi h => opO_k h fun j hj h => ?_
    apply svRef_k hi ha; intro _
    apply svRef_k hj hb; intro _
    by_cases e : V.ρ i = V.ρ j
    · rw [e]; exact SeqAt.EqAt.same _
    have hu' : A.in1.units + n < cLine := by show A.units + 1 + n < cLine; (first | lia | omega)
    have un : A.units < cLine := Nat.lt_of_le_of_lt (Nat.le_add_right _ _) hu
    refine SeqAt.EqAt.of_refs e (orB_k h (fun q _ => absurd (congrArg V.ρ (Nat.eq_of_beq_eq_true q)) e) fun _ h => orP_k h (fun h => opO_k h fun xs hx h => opO_k h fun ys hy h => ?_) fun h => opO_k h fun xs hx h => opO_k h fun ys hy h => ?_)
    · obtain ⟨vs, t1, t2⟩ := isList_of R (get_k asList_ok hx)
      obtain ⟨us, t3, t4⟩ := isList_of R (get_k asList_ok hy)
      have l := all2O_ok (fun v u a b r => ih v u a b r hu') t2 t4 h
      have q := SeqAt.RcAt.lists (A := A) (e := fun _ => true) t1 t3 l.len un (all2_idx l)
      rwa [alltrue] at q
    · obtain ⟨vs, t1, t2⟩ := isTup_of R (get_k asTup_ok hx)
      obtain ⟨us, t3, t4⟩ := isTup_of R (get_k asTup_ok hy)
      have l := all2O_ok (fun v u a b r => ih v u a b r hu') t2 t4 h
      have q := SeqAt.RcAt.tuples (A := A) (e := fun _ => true) t1 t3 un (all2_idx l)
      rwa [mintrue l.len] at q
noncomputable def eqR (σ : St) (i j : Nat) : Option Bool := orP (two asList σ.heap i j fun xs ys => orB (decide (xs.length = ys.length)) (opO (all2O (eqO σ.heap 8) xs ys) fun _ => some true) (some false)) (two asTup σ.heap i j fun xs ys => opO (all2O (eqO σ.heap 8) xs ys) fun _ => some true)
noncomputable def eqS (c : Cfg) (a b : SV) (σ : St) : Option Bool := orP (eqV c a b) (opO (svRef a) fun i => opO (svRef b) fun j => eqR σ i j)
theorem eqS_ok {V : Vl} {A : Around} {E : Value → Shared → Prop} {h₀ : Heap} {L : Addr} {s : Shared} {m : PySem.Str → Option Value} {news : List (Addr × Obj)} (hu : A.units ≤ 9800) (R : RepG G V σ h₀ L s m news) {a b : SV} {v u : Value} {r : Bool} (e : eqS G.cf a b σ = some r) (ha : VRel G.C V v a) (hb : VRel G.C V u b) : Two G A E s .Eq .NotEq r v u := by
  have un : A.units < cLine := Nat.lt_of_le_of_lt hu (by decide)
  have hu' : A.in1.units + 8 < cLine := Nat.lt_of_le_of_lt (Nat.add_le_add_right (Nat.add_le_add_right hu 1) 8) (by decide)
  refine orP_k e (fun e => eqV_ok e ha hb) fun e => opO_k e fun i hi e => opO_k e fun j hj e => ?_
  apply svRef_k hi ha; intro _
  apply svRef_k hj hb; intro _
  refine orP_k e (fun h => opO_k h fun xs hx h => opO_k h fun ys hy h => ?_) fun h => opO_k h fun xs hx h => opO_k h fun ys hy h => opO_k h fun _ l h => ?_
  · obtain ⟨vs, t1, t2⟩ := isList_of R (get_k asList_ok hx)
    obtain ⟨us, t3, t4⟩ := isList_of R (get_k asList_ok hy)
    refine orB_k h (fun _ h => opO_k h fun _ l h => ?_) fun q h => ?_
    all_goals rw [← Option.some.inj h]
    · have l := all2O_ok (fun v u a b r => eqO_ok R 8 v u a b r hu') t2 t4 l
      have q := SeqAt.RcNeAt.lists (A := A) (e := fun _ => true) t1 t3 l.len un (all2_idx l)
      rw [alltrue] at q
      exact ⟨fun Q hq => SeqAt.eq_listAt (e := fun _ => true) t1 t3 l.len un (all2_idx l) (by rw [alltrue]; exact hq), fun Q hq => q _ _ _ _ hq⟩
    · have hne : (vs.toArray.size != us.toArray.size) = true := by
        rw [List.size_toArray, List.size_toArray, t2.len, t4.len]
        exact bne_iff_ne.mpr (of_decide_eq_false q)
      exact ⟨fun Q hq => SeqAt.eq_list_lengthsAt t1 t3 hne un hq, fun Q hq => SeqAt.RcNeAt.lists_lengths t1 t3 hne un _ _ _ _ hq⟩
  · obtain ⟨vs, t1, t2⟩ := isTup_of R (get_k asTup_ok hx)
    obtain ⟨us, t3, t4⟩ := isTup_of R (get_k asTup_ok hy)
    rw [← Option.some.inj h]
    have l := all2O_ok (fun v u a b r => eqO_ok R 8 v u a b r hu') t2 t4 l
    have q := SeqAt.RcNeAt.tuples (A := A) (e := fun _ => true) t1 t3 un (all2_idx l)
    rw [mintrue l.len] at q
    exact ⟨fun Q hq => SeqAt.eq_tupleAt (e := fun _ => true) t1 t3 un (all2_idx l) (by rw [mintrue l.len]; exact hq), fun Q hq => q _ _ _ _ hq⟩
theorem inV_ok {V : Vl} {A : Around} {E : Value → Shared → Prop} {h₀ : Heap} {L : Addr} {s : Shared} {m : PySem.Str → Option Value} {news : List (Addr × Obj)} (R : RepG G V σ h₀ L s m news) {a b : SV} {v u : Value} {r : Bool} (e : inV σ a b = some r) (ha : VRel G.C V v a) (hb : VRel G.C V u b) :
    (∀ Q : Value → Shared → Prop, (∀ k, Q (.bool r) { s with toks := k }) → WPG G A (compareOp .In v u) Q E s) ∧ ∀ Q : Value → Shared → Prop, (∀ k, Q (.bool (!r)) { s with toks := k }) → WPG G A (compareOp .NotIn v u) Q E s := by
  refine opO_k e fun i hi e => ?_
  apply svRef_k hi hb; intro _
  refine Classical.byContradiction fun nO => orP_k e (fun e => opO_k e fun kvs hg e => opO_k e fun n hn e => nO ?_) fun e => orP_k e (fun e => opO_k e fun xs hx e => nO ?_) fun e => opO_k e fun xs hx e => nO ?_
  · apply svLit_k hn ha; intro t
    rw [← Option.some.inj e]
    refine Classical.byContradiction fun nO => ?_
    refine RAt R (get_k asId_ok hg) fun o m1 o1 o2 => ?_
    obtain ⟨ks, hd, hk⟩ := ORel.idict' o1
    refine nO ?_
    exact ⟨fun Q h => kda_in (knd := PySem.intKind _ _) R.nw m1 hd (o2 rfl) (intKind_is _ _ _ _) _ (keyIn_ok hk) (h _), fun Q h => wpAny_notIn_of (knd := PySem.intKind _ _) (intKind_is _ _ _ _) (o2 rfl) (kda_dict R.nw m1 hd).mapOf (by rw [keyIn_ok hk]; exact h _)⟩
  · obtain ⟨vs, t1, t2⟩ := isTup_of R (get_k asTup_ok hx)
    obtain ⟨f, f1, f2⟩ := inLit_ok (A := A.in1) (s := s) ha t2 e
    exact ⟨fun Q h => SeqAt.in_tupleAt f t1 (fun y hy => f1 y (List.mem_toArray.mp hy)) (by rw [any_arr, f2]; exact h _), fun Q h => SeqAt.notIn_tupleAt f t1 (fun y hy => f1 y (List.mem_toArray.mp hy)) (by rw [any_arr, f2]; exact h _)⟩
  · obtain ⟨vs, t1, t2⟩ := isList_of R (get_k asList_ok hx)
    obtain ⟨f, f1, f2⟩ := inLit_ok (A := A.in1) (s := s) ha t2 e
    exact ⟨fun Q h => SeqAt.in_listAt f t1 (fun y hy => f1 y (List.mem_toArray.mp hy)) (by rw [any_arr, f2]; exact h _), fun Q h => SeqAt.notIn_listAt f t1 (fun y hy => f1 y (List.mem_toArray.mp hy)) (by rw [any_arr, f2]; exact h _)⟩
noncomputable def cmpS (c : Cfg) (op : CmpOp) (a b : SV) (σ : St) : Option Bool := match op with
  | .In => inV σ a b
  | .NotIn => (inV σ a b).map (!·)
  | .Eq => eqS c a b σ
  | .NotEq => (eqS c a b σ).map (!·)
  | .Lt => ltV c a b
  | .Gt => ltV c b a
  | .LtE => (ltV c b a).map (!·)
  | .GtE => (ltV c a b).map (!·)
  | .Is => isV a b
  | .IsNot => (isV a b).map (!·)
theorem cmpS_sound {V : Vl} {A : Around} {E : Value → Shared → Prop} {h₀ : Heap} {L : Addr} {s : Shared} {m : PySem.Str → Option Value} {news : List (Addr × Obj)} (hu : A.units ≤ 9800) (R : RepG G V σ h₀ L s m news) {op : CmpOp} {a b : SV} {r : Bool} {v u : Value} {Q : Value → Shared → Prop} (e : cmpS G.cf op a b σ = some r) (ha : VRel G.C V v a) (hb : VRel G.C V u b) (h : ∀ k, Q (.bool r) { s with toks := k }) : WPG G A (compareOp op v u) Q E s := by
  cases op with
  | In => exact (inV_ok R e ha hb).1 _ h
  | NotIn => exact (inV_ok R (map_not e) ha hb).2 _ (by rw [Bool.not_not]; exact h)
  | Eq => exact (eqS_ok hu R e ha hb).1 _ (h _)
  | NotEq => exact (eqS_ok hu R (map_not e) ha hb).2 _ (by rw [Bool.not_not]; exact h _)
  | Lt => exact ltV_ok e ha hb (P := fun v u => WPG G A (compareOp .Lt v u) Q E s) fun x y t t' q => lt_int (by rw [q]; exact h _)
  | Gt => exact ltV_ok e hb ha (P := fun v u => WPG G A (compareOp .Gt u v) Q E s) fun x y t t' q => gt_int (by rw [q]; exact h _)
  | LtE => exact ltV_ok (map_not e) hb ha (P := fun v u => WPG G A (compareOp .LtE u v) Q E s) fun x y t t' q => le_int (by rw [lt_flip q, Bool.not_not]; exact h _)
  | GtE => exact ltV_ok (map_not e) ha hb (P := fun v u => WPG G A (compareOp .GtE v u) Q E s) fun x y t t' q => ge_int (by rw [lt_flip q, Bool.not_not]; exact h _)
  | Is => exact (isV_ok e ha hb).1 _ (h _)
  | IsNot => exact (isV_ok (map_not e) ha hb).2 _ (by rw [Bool.not_not]; exact h _)
end

noncomputable def setLess (e : PySem.Expr) : Bool := exNe e 7
theorem marks_eq {op : CmpOp} {r : PySem.Expr} (h : setLess r = true) : behindInMarks op r = false := by
  cases r <;> first | exact rfl | exact no_k h
theorem lastMarks_eq {op op' : CmpOp} {r r' : PySem.Expr} (h : setLess r' = true) : lastMarks (op :: op' :: []) (r :: r' :: []) = false := marks_eq h
section
variable {G : Gv} {self : Ev} {sc : Sc} {d : Nat} {σ : St} {k : Kt}
theorem Fx.un {V₀ : Vl} {A : Around} {env : Env} {h₀ : Heap} {L : Addr} {E : Value → Shared → Prop} (fx : Fx G V₀ A env h₀ L sc d E) : A.units ≤ 9800 := Nat.le_trans (Nat.le_trans (Nat.le_add_right _ _) fx.hu) (by decide)
noncomputable def cmpK (c : Cfg) (op : CmpOp) (a : SV) (k : Bool → St → Bool) : Kt := kv fun b σ => onO (cmpS c op a b σ) fun t => k t σ
noncomputable def compS1 (c : Cfg) (self : Ev) (sc : Sc) (d : Nat) (l r : PySem.Expr) (op : CmpOp) (σ : St) (k : Bool → St → Bool) : Bool := setLess r && self sc d (.ex l) σ (kv fun a σ₁ => self sc.any d (.ex r) σ₁ (cmpK c op a k))
theorem cmpK_ok {V : Vl} {A : Around} {E : Value → Shared → Prop} {h₀ : Heap} {L : Addr} {m : PySem.Str → Option Value} (hu : A.units ≤ 9800) {op : CmpOp} {a : SV} {v : Value} {kk : Bool → St → Bool} {Q : Value → Shared → Prop} (hv : VRel G.C V v a) (hQ : ∀ V' σ' s' news' t, V.le V' → kk t σ' = true → RepG G V' σ' h₀ L s' m news' → Q (.bool t) s') : Ends G V h₀ L m (RV G.C) (cmpK G.cf op a kk) fun u s => WPG G A (compareOp op v u) Q E s :=
  ends_v fun V'' v' x' σ'' s'' news'' l' hk' hv' R'' => onO_k hk' fun t ht hk => cmpS_sound hu R'' ht (hv.up l') hv' fun kk => hQ V'' σ'' _ news'' t l' hk (RMove R'' R''.fr R''.nw)
theorem compare_sound (hs : Snd G self) {l r : PySem.Expr} {op : CmpOp} {pos : Pos} (h : compS1 G.cf self sc d l r op σ (fun t σ => k (.v (.bool t)) σ) = true) : Hold G sc d (.ex (.Compare l [op] [r] pos)) σ k := by
  intro V₀ A env h₀ L E fx po V s m news hV R Q hQ
  refine and_k h fun h0 h => x_compare (hs sc d _ σ _ h V₀ A env h₀ L E fx po V s m news hV R _ (ends_v fun V' v x σ' s' news' l hk hv R' => ?_)) (marks_eq h0)
  exact Sc.of <| hs sc.any d _ σ' _ hk V₀ A env h₀ L E fx.any po V' s' m news' (Vl.le_trans hV l) R' _ (cmpK_ok fx.un hv fun V'' σ'' s'' news'' t l' hk R'' => hQ V'' _ _ σ'' s'' news'' (Vl.le_trans l l') hk (.mk (.bool t)) R'')
theorem tcompare_sound (hs : Snd G self) {l r : PySem.Expr} {op : CmpOp} {pos : Pos} (h : compS1 G.cf self sc d l r op σ (fun t σ => k (.b t) σ) = true) : Hold G sc d (.tst (.Compare l [op] [r] pos)) σ k := by
  intro V₀ A env h₀ L E fx po V s m news hV R Q hQ
  refine and_k h fun h0 h => x_tcompare (hs sc d _ σ _ h V₀ A env h₀ L E fx po V s m news hV R _ (ends_v fun V' v x σ' s' news' l hk hv R' => ?_)) (marks_eq h0)
  exact Sc.of <| hs sc.any d _ σ' _ hk V₀ A env h₀ L E fx.any po V' s' m news' (Vl.le_trans hV l) R' _ (cmpK_ok fx.un hv fun V'' σ'' s'' news'' t l' hk R'' => wpAny_truthy_bool (hQ V'' _ _ σ'' s'' news'' (Vl.le_trans l l') hk (.mk t) R''))
noncomputable def chS (c : Cfg) (self : Ev) (sc : Sc) (d : Nat) (l r r' : PySem.Expr) (op op' : CmpOp) (σ : St) (k : Kt) : Bool := setLess r' && self sc.any d (.ex l) σ (kv fun a σ₁ => self sc.any d (.ex r) σ₁ (kv fun b σ₂ => onO (cmpS c op a b σ₂) fun t => orB t (self sc.any d (.ex r') σ₂ (cmpK c op' b fun t σ => k (.b t) σ)) (k (.b false) σ₂)))
theorem tchain_sound (hs : Snd G self) {l r r' : PySem.Expr} {op op' : CmpOp} {pos : Pos} (h : chS G.cf self sc d l r r' op op' σ k = true) : Hold G sc d (.tst (.Compare l [op, op'] [r, r'] pos)) σ k := by
  intro V₀ A env h₀ L E fx po V s m news hV R Q hQ
  refine wpX_any (and_k h fun h0 h => isTrue_chain (Sc.of <| hs sc.any d _ σ _ h V₀ A env h₀ L E fx.any po V s m news hV R _ (ends_v fun V' v x σ' s' news' l hk hv R' => ?_)) (lastMarks_eq h0))
  refine test_link (Sc.of <| hs sc.any d _ σ' _ hk V₀ A env h₀ L E fx.any po V' s' m news' (Vl.le_trans hV l) R' _ (ends_v fun V'' v' x' σ'' s'' news'' l' hk' hv' R'' => ?_))
  refine onO_k hk' fun t ht hk' => cmpS_sound fx.un R'' ht (hv.up l') hv' fun kk => wpAny_truthy_bool ?_
  have R2 := RMove (tk := kk) R'' R''.fr R''.nw
  cases t with
  | true =>
    rw [if_pos rfl]
    exact test_last (Sc.of <| hs sc.any d _ σ'' _ hk' V₀ A env h₀ L E fx.any po V'' _ m news'' (Vl.le_trans hV (Vl.le_trans l l')) R2 _ (cmpK_ok fx.un hv' fun V3 σ3 s3 news3 t l3 hk R3 => wpAny_truthy_bool (hQ V3 _ _ σ3 s3 news3 (Vl.le_trans (Vl.le_trans l l') l3) hk (.mk t) R3)))
  | false =>
    rw [if_neg Bool.false_ne_true]
    exact hQ V'' _ _ σ'' _ news'' (Vl.le_trans l l') hk' (.mk false) R2
theorem tnot_sound (hs : Snd G self) {x : PySem.Expr} {pos : Pos} (h : self sc d (.tst x) σ (kb fun b σ₁ => k (.b (!b)) σ₁) = true) : Hold G sc d (.tst (.UnaryOp .Not x pos)) σ k := by
  intro V₀ A env h₀ L E fx po V s m news hV R Q hQ
  refine x_not (hs sc d _ σ _ h V₀ A env h₀ L E fx po V s m news hV R _ (ends_b fun V' b σ' s' news' l hk R' => ?_))
  exact hQ V' _ _ σ' _ news' l hk (.mk _) R'
theorem tand_sound (hs : Snd G self) {x : PySem.Expr} {rest : List PySem.Expr} {pos : Pos} (h : self sc d (.tst x) σ (kb fun b σ₁ => orB b (self sc d (.tst (.BoolOp .And rest pos)) σ₁ k) (k (.b false) σ₁)) = true) : Hold G sc d (.tst (.BoolOp .And (x :: rest) pos)) σ k := by
  intro V₀ A env h₀ L E fx po V s m news hV R Q hQ
  refine x_and (hs sc d _ σ _ h V₀ A env h₀ L E fx po V s m news hV R _ (ends_b fun V' b σ' s' news' l hk R' => ?_))
  cases b with
  | true =>
    rw [if_pos rfl]
    exact hs sc d _ σ' _ hk V₀ A env h₀ L E fx po V' s' m news' (Vl.le_trans hV l) R' _ (hQ.up l)
  | false =>
    rw [if_neg Bool.false_ne_true]
    exact hQ V' _ _ σ' _ news' l hk (.mk _) R'
theorem tor_sound (hs : Snd G self) {x : PySem.Expr} {rest : List PySem.Expr} {pos : Pos} (h : self sc d (.tst x) σ (kb fun b σ₁ => orB b (k (.b true) σ₁) (self sc d (.tst (.BoolOp .Or rest pos)) σ₁ k)) = true) : Hold G sc d (.tst (.BoolOp .Or (x :: rest) pos)) σ k := by
  intro V₀ A env h₀ L E fx po V s m news hV R Q hQ
  refine x_or (hs sc d _ σ _ h V₀ A env h₀ L E fx po V s m news hV R _ (ends_b fun V' b σ' s' news' l hk R' => ?_))
  cases b with
  | false =>
    rw [if_neg Bool.false_ne_true]
    exact hs sc d _ σ' _ hk V₀ A env h₀ L E fx po V' s' m news' (Vl.le_trans hV l) R' _ (hQ.up l)
  | true =>
    rw [if_pos rfl]
    exact hQ V' _ _ σ' _ news' l hk (.mk _) R'
theorem tnil_sound {op : BoolOp} {pos : Pos} (h : k (.b (BoolOp.rec true false op)) σ = true) : Hold G sc d (.tst (.BoolOp op [] pos)) σ k := by
  intro V₀ A env h₀ L E fx po V s m news hV R Q hQ
  refine wpX_any ?_
  cases op with
  | And => exact isTrue_and_nil (hQ V _ _ σ _ news (V.le_refl) h (.mk _) R)
  | Or => exact isTrue_or_nil (hQ V _ _ σ _ news (V.le_refl) h (.mk _) R)
noncomputable def plainE (e : PySem.Expr) : Bool := Nat.beq e.ctorIdx 16 || (Nat.beq e.ctorIdx 23 || (Nat.beq e.ctorIdx 20 || Nat.beq e.ctorIdx 19))
theorem plain_eq {e : PySem.Expr} {env : Env} {whole : Sem Value} (h : plainE e = true) : isTrue e env whole = (do
    let v ← whole
    standAt e.pos
    holding [v] (truthy v)) := by
  cases e <;> first | exact rfl | exact no_k h
noncomputable def kbool (f : Bool → St → Bool) : Kt := kv fun x σ => onBo x fun b => f b σ
theorem tplain_sound (hs : Snd G self) {e : PySem.Expr} (h : (plainE e && self sc d (.ex e) σ (kbool fun b σ₁ => k (.b b) σ₁)) = true) : Hold G sc d (.tst e) σ k := by
  intro V₀ A env h₀ L E fx po V s m news hV R Q hQ
  obtain ⟨h0, h⟩ := Bool.and_eq_true_iff.mp h
  refine x_plain (hs sc d _ σ _ h V₀ A env h₀ L E fx po V s m news hV R _ (ends_v fun V' v x σ' s' news' l hk hv R' => ?_)) (plain_eq h0)
  apply onBo_k hk hv; intro b hk
  exact wpAny_truthy_bool (hQ V' _ _ σ' _ news' l hk (.mk _) R')
theorem ifexp_sound (hs : Snd G self) {t b o : PySem.Expr} {pos : Pos} (h : self sc.any d (.tst t) σ (kb fun c σ₁ => orB c (self sc.any d (.ex b) σ₁ k) (self sc.any d (.ex o) σ₁ k)) = true) : Hold G sc d (.ex (.IfExp t b o pos)) σ k := by
  intro V₀ A env h₀ L E fx po V s m news hV R Q hQ
  refine wpX_any ?_
  refine IfExp_ (Sc.of <| hs sc.any d _ σ _ h V₀ A env h₀ L E fx.any po V s m news hV R _ (ends_b fun V' b σ' s' news' l hk R' => ?_))
  cases b with
  | true => rw [if_pos rfl]; exact Sc.of <| hs sc.any d _ σ' _ hk V₀ A env h₀ L E fx.any po V' s' m news' (Vl.le_trans hV l) R' _ (hQ.up l)
  | false => rw [if_neg Bool.false_ne_true]; exact Sc.of <| hs sc.any d _ σ' _ hk V₀ A env h₀ L E fx.any po V' s' m news' (Vl.le_trans hV l) R' _ (hQ.up l)
theorem vand_sound (hs : Snd G self) {x y : PySem.Expr} {rest : List PySem.Expr} {pos : Pos} (h : self sc d (.ex x) σ (kbool fun c σ₁ => orB c (self sc d (.ex (.BoolOp .And (y :: rest) pos)) σ₁ k) (k (.v (.bool false)) σ₁)) = true) : Hold G sc d (.ex (.BoolOp .And (x :: y :: rest) pos)) σ k := by
  intro V₀ A env h₀ L E fx po V s m news hV R Q hQ
  refine x_vand (hs sc d _ σ _ h V₀ A env h₀ L E fx po V s m news hV R _ (ends_v fun V' v x σ' s' news' l hk hv R' => ?_))
  apply onBo_k hk hv; intro b hk
  refine wpAny_truthy_bool ?_
  cases b with
  | true => rw [if_pos rfl]; exact hs sc d _ σ' _ hk V₀ A env h₀ L E fx po V' s' m news' (Vl.le_trans hV l) R' _ (hQ.up l)
  | false => rw [if_neg Bool.false_ne_true]; exact hQ V' _ _ σ' _ news' l hk (.mk (.bool _)) R'
theorem vone_sound (hs : Snd G self) {x : PySem.Expr} {op : BoolOp} {pos : Pos} (h : self sc d (.ex x) σ k = true) : Hold G sc d (.ex (.BoolOp op [x] pos)) σ k := by
  intro V₀ A env h₀ L E fx po V s m news hV R Q hQ
  exact (hs sc d _ σ _ h V₀ A env h₀ L E fx po V s m news hV R _ hQ : WPX G sc A (eval x env) Q E s)
theorem rep_new {V : Vl} {h₀ : Heap} {L : Addr} {s : Shared} {h' : Heap} {m : PySem.Str → Option Value} {news : List (Addr × Obj)} (R : RepG G V σ h₀ L s m news) {a : Addr} {o : Obj} {so : SO} (F' : Fr h₀ L h' m) (N' : News h₀ L h' ((a, o) :: (news ++ V.r))) (l1 : ∀ p ∈ news ++ V.r, p.1 < a) (hI : isI so = true → (a == sysModules) = false) (ho : ORel G.prog G.w G.C (V.ext a) o so) :
    RepG G (V.ext a) { σ with nx := σ.nx + 1, heap := (σ.nx, so) :: σ.heap } h₀ L { s with heap := h' } m ((a, o) :: news) ∧ VRel G.C (V.ext a) (.ref a) (.ref σ.nx) := rep_newN R F' N' (fun p hp => Nat.ne_of_lt (l1 p hp)) hI ho
noncomputable def newO (σ : St) (so : SO) (k : Kt) : Bool := k (.v (.ref σ.nx)) { σ with nx := σ.nx + 1, heap := (σ.nx, so) :: σ.heap }
theorem rep_newVN {V : Vl} {h₀ : Heap} {L : Addr} {s : Shared} {h' : Heap} {tk : Nat} {m : PySem.Str → Option Value} {news : List (Addr × Obj)} {Q : Value → Shared → Prop} (hQ : Ends G V h₀ L m (RV G.C) k Q) (R : RepG G V σ h₀ L s m news) {a : Addr} {o : Obj} {so : SO} (F' : Fr h₀ L h' m) (N' : News h₀ L h' ((a, o) :: (news ++ V.r))) (l1 : ∀ p ∈ news ++ V.r, p.1 ≠ a) (hI : isI so = true → (a == sysModules) = false) (ho : ORel G.prog G.w G.C (V.ext a) o so) (hk : newO σ so k = true) : Q (.ref a) { s with heap := h', toks := tk } := by
  obtain ⟨R2, v2⟩ := rep_newN (tk := tk) R F' N' l1 hI ho
  exact hQ _ _ _ _ _ _ (V.le_ext a) hk (.mk v2) R2
theorem rep_newV {V : Vl} {h₀ : Heap} {L : Addr} {s : Shared} {h' : Heap} {tk : Nat} {m : PySem.Str → Option Value} {news : List (Addr × Obj)} {Q : Value → Shared → Prop} (hQ : Ends G V h₀ L m (RV G.C) k Q) (R : RepG G V σ h₀ L s m news) {a : Addr} {o : Obj} {so : SO} (F' : Fr h₀ L h' m) (N' : News h₀ L h' ((a, o) :: (news ++ V.r))) (l1 : ∀ p ∈ news ++ V.r, p.1 < a) (hI : isI so = true → (a == sysModules) = false) (ho : ORel G.prog G.w G.C (V.ext a) o so) (hk : newO σ so k = true) : Q (.ref a) { s with heap := h', toks := tk } := rep_newVN hQ R F' N' (fun p hp => Nat.ne_of_lt (l1 p hp)) hI ho hk
theorem tuple_sound (hs : Snd G self) {es : List PySem.Expr} {kk : Nat} {pos : Pos} (h : self sc d (.ars es) σ (kvs fun xs σ₁ => decide (xs.length ≤ 1000) && newO σ₁ (.tup xs) k) = true) : Hold G sc d (.ex (.Tuple es kk pos)) σ k := by
  intro V₀ A env h₀ L E fx po V s m news hV R Q hQ
  refine x_tuple (hs sc d _ σ _ h V₀ A env h₀ L E fx po V s m news hV R pos _ (ends_vs fun V' vs xs σ' s' news' l hk hv R' => ?_))
  obtain ⟨hz, hk⟩ := Bool.and_eq_true_iff.mp hk
  have hz := of_decide_eq_true hz
  refine kup_newTuple R'.fr R'.nw (fun D h' F' N' l1 => ?_) (by rw [hv.len, sizeLine_eq]; (first | lia | omega))
  obtain ⟨R2, v2⟩ := rep_new R' (so := .tup xs) F' N' l1 (fun q => nomatch q) (.tup (VsRel.up (V'.le_ext D) hv))
  exact hQ _ _ _ _ _ _ (Vl.le_trans l (V'.le_ext D)) hk (.mk v2) R2
theorem list_sound (hs : Snd G self) {es : List PySem.Expr} {pos : Pos} (h : self sc.any d (.ars es) σ (kvs fun xs σ₁ => decide (xs.length ≤ 1000) && newO σ₁ (.list xs) k) = true) : Hold G sc d (.ex (.List es pos)) σ k := by
  intro V₀ A env h₀ L E fx po V s m news hV R Q hQ
  refine wpX_any ?_
  refine List_ (Sc.of <| hs sc.any d _ σ _ h V₀ A env h₀ L E fx.any po V s m news hV R pos _ (ends_vs fun V' vs xs σ' s' news' l hk hv R' => ?_))
  obtain ⟨hz, hk⟩ := Bool.and_eq_true_iff.mp hk
  have hz := of_decide_eq_true hz
  refine newList_K R'.fr R'.nw (fun D h' F' N' l1 => ?_) (by rw [hv.len, sizeLine_eq]; (first | lia | omega))
  obtain ⟨R2, v2⟩ := rep_new R' (so := .list xs) F' N' l1 (fun q => nomatch q) (.list (VsRel.up (V'.le_ext D) hv))
  exact hQ _ _ _ _ _ _ (Vl.le_trans l (V'.le_ext D)) hk (.mk v2) R2
theorem dict_sound {pos : Pos} (h : newO σ (.idict []) k = true) : Hold G sc d (.ex (.Dict [] [] pos)) σ k := by
  intro V₀ A env h₀ L E fx po V s m news hV R Q hQ
  refine wpX_any ?_
  refine Classical.byContradiction fun nO => ?_
  obtain ⟨_, _, _, T⟩ := fx.T
  refine nO ?_
  refine newDict_K R.fr R.nw T.nolimit fun D h' o F' N' l1 hne _ _ hd _ => ?_
  obtain ⟨R2, v2⟩ := rep_new R (so := .idict []) F' N' l1 (fun _ => hne) (.idict hd .nil)
  exact hQ _ _ _ _ _ _ (V.le_ext D) h (.mk v2) R2
end

noncomputable def compLess (e : PySem.Expr) : Bool := Nat.blt e.ctorIdx 8 || Nat.blt 10 e.ctorIdx
theorem swaps_no {e : PySem.Expr} {t : Option PySem.Expr} {n : Nat} {env : Env} (h : compLess e = true) : swapsWith e t n env = pure false := by
  cases e <;> first | exact rfl | exact no_k h
section
variable {G : Gv} {self : Ev} {sc : Sc} {d : Nat} {σ : St} {k : Kt}
noncomputable def sput {α : Type} (x : PySem.Str) (v : α) : List (PySem.Str × α) → List (PySem.Str × α)
  | [] => [(x, v)]
  | (y, u) :: r => if seq x y then (y, v) :: r else (y, u) :: sput x v r
theorem put_rel {w : PySem.World} {C : Cs} {V : Vl} {name : PySem.Str} {t : Tok} {v : Value} {x : SV} (hv : VRel C V v x) {es : List DictEntry} {xs : List (PySem.Str × SV)} (h : ERel w C V es xs) : ERel w C V (putL name (PyData.keyHash w.params name) (.str name t) v es) (sput name x xs) := by
  induction h with
  | nil => exact .cons hv .nil
  | cons h r ih =>
    rename_i s t' u y es xs
    show ERel w C V (if (Value.str s t').isStr name = true then _ else _) (if seq name s = true then (s, x) :: xs else (s, y) :: sput name x xs)
    rw [isStr_seq name s t']
    by_cases q : s = name
    · obtain rfl := q
      have e : seq s s = true := seq_iff.mpr rfl
      rw [if_pos e, if_pos e]
      exact .cons hv r
    · rw [if_neg fun z => q (seq_iff.mp z), if_neg fun z => q (seq_iff.mp z).symm]
      exact .cons h ih
theorem put_len {name : PySem.Str} {x : SV} : ∀ {xs : List (PySem.Str × SV)}, (sput name x xs).length ≤ xs.length + 1
  | [] => Nat.le_refl _
  | (y, u) :: r => by
    show (if seq name y = true then (y, x) :: r else (y, u) :: sput name x r).length ≤ _
    by_cases q : seq name y = true
    · rw [if_pos q]
      exact Nat.le_succ _
    · rw [if_neg q]
      exact Nat.succ_le_succ put_len
theorem ERel.len {w : PySem.World} {C : Cs} {V : Vl} : ∀ {es : List DictEntry} {xs : List (PySem.Str × SV)}, ERel w C V es xs → es.length = xs.length
  | _, _, .nil => rfl
  | _, _, .cons _ r => by simp [r.len]
noncomputable def setA (c : Cfg) (o : SV) (name : PySem.Str) (v : SV) (σ : St) (k : Kt) : Bool := instS c o name σ fun i C dd at_ es => atA at_ && (decide (es.length ≤ 900) && k .nx { σ with heap := iset dd (.sd (sput name v es)) σ.heap })
theorem setA_sound {V : Vl} {A : Around} {E : Value → Shared → Prop} {h₀ : Heap} {L : Addr} {s : Shared} {m : PySem.Str → Option Value} {news : List (Addr × Obj)} {name : PySem.Str} {o x : SV} {ov v : Value} {Q : Unit → Shared → Prop} (X : G.K.In h₀) (R : RepG G V σ h₀ L s m news) (ho : VRel G.C V ov o) (hv : VRel G.C V v x) (h : setA G.cf o name x σ k = true)
    (hQ : ∀ σ' s' news', k .nx σ' = true → RepG G V σ' h₀ L s' m news' → Q () s') : WPG G A (setAttr ov name v) Q E s := by
  apply onRef_k h ho; intro i hi h
  refine Classical.byContradiction fun nO => hpInst_e h (fun C dd h1 h => onO_k h fun at_ hat h => hpSd_e h (fun es h2 h => and_k h fun q h => dec_k h fun p5 h => nO ?_) no_k) no_k
  rw [atA_is q] at hat
  refine Classical.byContradiction fun nO => ?_
  obtain ⟨-, p4, -, p1, p2, p3⟩ := atA_ok hat
  refine RAt R h1 fun oi mi ri _ => RUpd R h2 fun o g o1 u1 K => ?_
  obtain ⟨rfl, -⟩ := ORel.inst' ri
  obtain ⟨eS, n, rfl, he⟩ := ORel.sd' o1
  refine nO ?_
  refine set_dict R.fr X R.nw (InstAt.of_news R.nw mi (UpdF.mem u1)) rfl p1 p2 p3 p4 ?_ rfl (UpdF.upd u1) ?_ fun h' F' N' => ?_
  · cases z : sget name es with
    | none => rw [(getL_rel he).2 z]; rfl
    | some y => obtain ⟨u, g1, -⟩ := (getL_rel he).1 y z; rw [g1]; rfl
  · rw [(put_rel (w := G.w) (name := name) (t := s.toks + 1) hv he).len]
    exact Nat.le_trans put_len (by (first | lia | omega))
  · obtain ⟨news', R'⟩ := K _ (.sd (sput name x es)) h' s.toks rfl (.sd (put_rel hv he)) F' N'
    exact hQ _ _ news' h R'
end

section
variable {G : Gv} {self : Ev} {sc : Sc} {d : Nat} {σ : St} {k : Kt}
theorem swaps_attr {e o : PySem.Expr} {a : PySem.Str} {p : Pos} {n : Nat} {env : Env} : swapsWith e (some (.Attribute o a p)) n env = pure false := by cases e <;> rfl
theorem sattr_sound (hs : Snd G self) {o : PySem.Expr} {name : PySem.Str} {p pos : Pos} {e : PySem.Expr} (h : self sc d (.ex e) σ (kv fun v σ₁ => self sc.any d (.ex o) σ₁ (kv fun ov σ₂ => setA G.cf ov name v σ₂ k)) = true) : Hold G sc d (.st (.Assign [.Attribute o name p] e pos)) σ k := by
  intro V₀ A env h₀ L E fx po V s m news hV R hc Q hQ
  refine x_attr (hs sc d _ σ _ h V₀ A env h₀ L E fx po V s m news hV R _ (ends_v fun V' v x' σ' s' news' l hk hv R' => ?_)) (swaps_attr)
  refine Sc.of <| hs sc.any d _ σ' _ hk V₀ A env h₀ L E fx.any po V' s' m news' (Vl.le_trans hV l) R' _ (ends_v fun V'' v' x'' σ'' s'' news'' l' hk' hv' R'' => ?_)
  exact setA_sound fx.X R'' hv' (hv.up l') hk' fun σ3 s3 news3 hk3 R3 => hQ V'' _ _ σ3 s3 m news3 (Vl.le_trans l l') hk3 .nx R3
theorem sexpr_sound (hs : Snd G self) {e : PySem.Expr} {pos : Pos} (h : (compLess e && self sc d (.ex e) σ (kv fun _ σ₁ => k .nx σ₁)) = true) : Hold G sc d (.st (.Expr e pos)) σ k := by
  intro V₀ A env h₀ L E fx po V s m news hV R hc Q hQ
  obtain ⟨c1, h⟩ := Bool.and_eq_true_iff.mp h
  refine x_expr (hs sc d _ σ _ h V₀ A env h₀ L E fx po V s m news hV R _ (ends_v fun V' v x' σ' s' news' l hk hv R' => hQ V' _ _ σ' s' m news' l hk .nx R')) ?_ (swaps_no c1)
  refine Classical.byContradiction fun nO => ?_
  obtain ⟨cn, ae, ccd, cl, rfl⟩ := fx.fn hc
  refine nO ?_
  have hkk := fx.k
  unfold interactive
  show (sc.sc.kind == .module && _) = false
  rw [hkk]; rfl
theorem sret_sound (hs : Snd G self) {e : PySem.Expr} {pos : Pos} (h : self sc d (.ex e) σ (kv fun v σ₁ => k (.rt v) σ₁) = true) : Hold G sc d (.st (.Return (some e) pos)) σ k := by
  intro V₀ A env h₀ L E fx po V s m news hV R hc Q hQ
  exact x_ret (hs sc d _ σ _ h V₀ A env h₀ L E fx po V s m news hV R _ (ends_v fun V' v x' σ' s' news' l hk hv R' => hQ V' _ _ σ' s' m news' l hk (.rt hv) R'))
theorem sretn_sound {pos : Pos} (h : k (.rt .none) σ = true) : Hold G sc d (.st (.Return none pos)) σ k := by
  intro V₀ A env h₀ L E fx po V s m news hV R hc Q hQ
  refine wpX_any ?_
  exact wpAny_Return_none (hQ V _ _ σ s m news (V.le_refl) h (.rt .none) R)
theorem spass_sound {pos : Pos} (h : k .nx σ = true) : Hold G sc d (.st (.Pass pos)) σ k := by
  intro V₀ A env h₀ L E fx po V s m news hV R hc Q hQ
  refine wpX_any ?_
  exact wpAny_Pass (hQ V _ _ σ s m news (V.le_refl) h .nx R)
theorem sbrk_sound {pos : Pos} (h : k .bk σ = true) : Hold G sc d (.st (.Break pos)) σ k := by
  intro V₀ A env h₀ L E fx po V s m news hV R hc Q hQ
  refine wpX_any ?_
  exact wpAny_Break (hQ V _ _ σ s m news (V.le_refl) h .bk R)
theorem sif_sound (hs : Snd G self) {t : PySem.Expr} {b o : List Stmt} {pos : Pos} (h : self sc d (.tst t) σ (kb fun c σ₁ => orB c (self sc d (.sts b) σ₁ k) (self sc d (.sts o) σ₁ k)) = true) : Hold G sc d (.st (.If t b o pos)) σ k := by
  intro V₀ A env h₀ L E fx po V s m news hV R hc Q hQ
  refine x_if (hs sc d _ σ _ h V₀ A env h₀ L E fx po V s m news hV R _ (ends_b fun V' b σ' s' news' l hk R' => ?_))
  cases b with
  | true => rw [if_pos rfl]; exact hs sc d _ σ' _ hk V₀ A env h₀ L E fx po V' s' m news' (Vl.le_trans hV l) R' hc _ (hQ.up l)
  | false => rw [if_neg Bool.false_ne_true]; exact hs sc d _ σ' _ hk V₀ A env h₀ L E fx po V' s' m news' (Vl.le_trans hV l) R' hc _ (hQ.up l)
noncomputable def aftK (f : Rs) (nx : Bool) (rt : SV → Bool) (bk : Bool) : Bool := Rs.rec (motive := fun _ => Bool) (fun _ => false) (fun _ => false) nx rt bk (fun _ => false) f
noncomputable def stsS (self : Ev) (sc : Sc) (d : Nat) (ss : List Stmt) (σ : St) (k : Kt) : Bool := match ss with
  | [] => k .nx σ
  | st :: r => self sc d (.st st) σ fun f σ₁ => aftK f (self sc d (.sts r) σ₁ k) (fun x => k (.rt x) σ₁) (k .bk σ₁)
theorem sts_sound (hs : Snd G self) {ss : List Stmt} (h : stsS self sc d ss σ k = true) : Hold G sc d (.sts ss) σ k := by
  intro V₀ A env h₀ L E fx po V s m news hV R hc Q hQ
  cases ss with
  | nil => exact wpX_any <| wpAny_execs_nil (hQ V _ _ σ s m news (V.le_refl) h .nx R)
  | cons st r =>
    refine x_cons (hs sc d _ σ _ h V₀ A env h₀ L E fx po V s m news hV R hc _ fun V' rr fl σ' s' m' news' l hk hR R' => ?_)
    cases hR with
    | nx => exact hs sc d _ σ' _ hk V₀ A env h₀ L E fx po V' s' m' news' (Vl.le_trans hV l) R' hc _ (hQ.up l)
    | rt hv => exact hQ V' _ _ σ' s' m' news' l hk (.rt hv) R'
    | bk => exact hQ V' _ _ σ' s' m' news' l hk .bk R'
noncomputable def swName (sc : Sc) (line : Nat) (e : PySem.Expr) : Option PySem.Str := opO (exName e) fun x => opB (locB sc.sc x.1) (opB (x.2.line == line) (some x.1))
noncomputable def swNames (sc : Sc) (line : Nat) (ts : List PySem.Expr) : Option (List PySem.Str) := mapO (swName sc line) ts
noncomputable def swOk (sc : Sc) (ts vs : List PySem.Expr) : Option (List PySem.Str) := opO (swNames sc ((ts.head?.map (·.pos.line)).getD 0) ts) fun ns => opB ((ts.length == 2 || ts.length == 3) && ((vs.length == ts.length) && (vs.all starLess && (nodupB ns && (!vs.all (foldedForSure 8) && !vs.all (constantsAlone 8)))))) (some ns)
noncomputable def swF (env : Env) (line : Nat) : PySem.Expr → Option PySem.Str
  | .Name id pos => if env.kindOf id == some .local && pos.line == line then some id else none
  | _ => none
theorem swNames_ok {sc : Sc} {line : Nat} {env : Env} (he : env.scope = sc.sc) {ts : List PySem.Expr} : ∀ {ns : List PySem.Str}, swNames sc line ts = some ns → ts.filterMap (swF env line) = ns ∧ ts.length = ns.length := by
  induction ts with
  | nil => intro ns h; rw [← Option.some.inj h]; exact ⟨rfl, rfl⟩
  | cons t r ih =>
    intro ns h
    refine Classical.byContradiction fun nO => ?_
    refine opO_k h fun id hi h => opO_k h fun ns' hn h => opO_k hi fun x hx hi => opB_k hi fun h1 hi => opB_k hi fun h2 hi => ?_
    obtain ⟨i1, i2⟩ := ih hn
    refine nO ?_
    rw [← Option.some.inj h, exName_ok hx]
    have hk : env.kindOf x.1 = some .local := by show env.scope.names.lookup _ = _; rw [he]; exact locB_ok h1
    have e : swF env line (.Name x.1 x.2) = some x.1 := by show (if _ then _ else _) = _; rw [hk, h2]; exact if_pos rfl
    exact ⟨by rw [List.filterMap_cons, e, i1, Option.some.inj hi], congrArg (· + 1) i2⟩
theorem eraseDups_nd : ∀ {l : List PySem.Str}, l.Nodup → l.eraseDups = l
  | [], _ => by simp
  | a :: r, h => by
    obtain ⟨h1, h2⟩ := List.nodup_cons.mp h
    rw [List.eraseDups_cons]
    have : r.filter (fun b => !(b == a)) = r := List.filter_eq_self.mpr fun b hb => by
      have : b ≠ a := fun e => h1 (e ▸ hb)
      simp [this]
    rw [this, eraseDups_nd h2]
theorem swap_eq {sc : Sc} {env : Env} (he : env.scope = sc.sc) (hb : env.blockKind = .function) {ts vs : List PySem.Expr} {k k' : Nat} {p p' : Pos} {ns : List PySem.Str} (h : swOk sc ts vs = some ns) : swappedStores [.Tuple ts k p] (.Tuple vs k' p') env = pure (some ns) ∧ ns.length = ts.length ∧ vs.length = ts.length ∧ vs.all starLess = true :=
  opO_k h fun ns' hn h => opB_k h fun hc h => by
    rw [Option.some.inj h] at hn hc
    refine Classical.byContradiction fun nO => ?_
    refine and_k hc fun c1 hc => and_k hc fun c2 hc => and_k hc fun c3 hc => and_k hc fun c4 hc => and_k hc fun c5 c6 => ?_
    obtain ⟨n1, n2⟩ := swNames_ok he hn
    refine nO ?_
    refine ⟨?_, n2.symm, beq_iff_eq.mp c2, c3⟩
    have hst : (vs.any fun | .Starred .. => true | _ => false) = false := by
      rw [List.any_eq_false]
      intro x hx
      have := List.all_eq_true.mp c3 x hx
      cases x <;> first | exact Bool.false_ne_true | exact no_k this
    have e2 := eraseDups_nd (nodupB_ok c4)
    have q1 : ∀ {a : Bool}, (!a) = true → ¬a = true := fun h q => by rw [q] at h; exact no_k h
    unfold swappedStores
    dsimp only
    refine (if_neg ?_).trans ((if_neg ?_).trans ((if_neg ?_).trans ((if_neg ?_).trans ((if_neg ?_).trans ?_))))
    · rw [c1, hb, bne, c2]; decide
    · exact fun q => absurd (hst.symm.trans q) Bool.false_ne_true
    · intro q
      have q : ((ts.filterMap (swF env ((ts.head?.map (·.pos.line)).getD 0))).length != ts.length || (ts.filterMap (swF env ((ts.head?.map (·.pos.line)).getD 0))).eraseDups.length != (ts.filterMap (swF env ((ts.head?.map (·.pos.line)).getD 0))).length) = true := q
      rw [n1, e2, n2, bne_self_eq_false] at q
      exact no_k q
    · exact q1 c5
    · exact q1 c6
    · exact congrArg (fun z => pure (some z)) n1
end

noncomputable def sliceLess (e : PySem.Expr) : Bool := exNe e 26
theorem sub_eq {slice : PySem.Expr} {o i : Value} (h : sliceLess slice = true) : subscripted slice false o i = operate [o, i] (getItem o i) := by
  cases slice <;> first | exact rfl | exact no_k h
noncomputable def kget (n : Int) : List (Int × SV) → Option SV
  | [] => none
  | (m, v) :: r => if m == n then some v else kget n r
theorem kget_ok {C : Cs} {V : Vl} {n : Int} {x : SV} {kvs : List (Int × Value)} {ks : List (Int × SV)} (h : All2 (KRel C V) kvs ks) (e : kget n ks = some x) : ∃ v, valueAt kvs n = some v ∧ VRel C V v x := by
  unfold valueAt
  induction h with
  | nil => cases e
  | @cons a b as bs hab _ ih =>
    obtain ⟨p, q⟩ := b
    have e : (if p == n then some q else kget n bs) = some x := e
    simp only [List.find?_cons]
    have h1 : a.1 = p := hab.1
    rw [h1]
    split at e
    · rename_i z
      cases e
      rw [decide_eq_true (beq_iff_eq.mp z)]
      exact ⟨_, rfl, hab.2⟩
    · rename_i z
      rw [decide_eq_false fun y => z (beq_iff_eq.mpr y)]
      exact ih e
theorem all2_get {α β : Type} {R : α → β → Prop} {as : List α} {bs : List β} (h : All2 R as bs) : ∀ {i : Nat} {b : β}, bs[i]? = some b → ∃ a, as[i]? = some a ∧ R a b := by
  induction h with
  | nil => exact fun e => nomatch e
  | cons h _ ih =>
    intro i b e
    cases i with
    | zero => exact ⟨_, rfl, Option.some.inj e ▸ h⟩
    | succ i => exact ih e
noncomputable def lIdx (xs : List SV) (n : Int) : Option SV := orB (decide (0 ≤ n)) (opB (decide (n ≤ 1000 ∧ 0 ≤ n)) xs[n.toNat]?) (opB (decide (xs.length ≤ 1000 ∧ 0 ≤ n + xs.length)) xs[(n + xs.length).toNat]?)
noncomputable def sub0 (b : SV) (σ : St) (i : Nat) : Option SV := opO (svLit b) fun n => orP (opO (obind (iget i σ.heap) asId) (kget n)) (orP (opO (obind (iget i σ.heap) asIdF) fun x => kget n x.1) (orP (opO (obind (iget i σ.heap) asList) fun xs => lIdx xs n) (opO (obind (iget i σ.heap) asTup) fun xs => opB (decide (0 ≤ n ∧ xs.length ≤ 1000)) xs[n.toNat]?)))
section
variable {G : Gv} {self : Ev} {sc : Sc} {d : Nat} {σ : St} {k : Kt}
theorem seqIx {n : Int} {l : Nat} (h : 0 ≤ n) (h' : n.toNat < l) : seqIndex? n l = some n.toNat := by
  have e : seqIndex? n l = if 0 ≤ (if n < 0 then n + l else n) && (if n < 0 then n + l else n) < l then some (if n < 0 then n + l else n).toNat else none := rfl
  rw [e, if_neg (Int.not_lt.mpr h), if_pos (Bool.and_eq_true_iff.mpr ⟨decide_eq_true h, decide_eq_true (by (first | lia | omega))⟩)]
theorem sub0_sound {V : Vl} {A : Around} {E : Value → Shared → Prop} {h₀ : Heap} {L : Addr} {s : Shared} {m : PySem.Str → Option Value} {news : List (Addr × Obj)} (R : RepG G V σ h₀ L s m news) {value slice : PySem.Expr} {i : Nat} {b x : SV} {u : Value} {Q : Value → Shared → Prop} (e : sub0 b σ i = some x) (hsl : sliceLess slice = true) (hb : VRel G.C V u b) (h : ∀ y kk, VRel G.C V y x → Q y { s with toks := kk }) : WPG G A (subscriptTail value slice (.ref (V.ρ i)) u) Q E s := by
  refine opO_k e fun n hn e => ?_
  apply svLit_k hn hb; intro t
  have dct : ∀ {o : Obj} {kvs : List (Int × Value)} {ks : List (Int × SV)}, (V.ρ i, o) ∈ news ++ V.r → o.IsDictOf (intKind G.prog G.w) kvs → All2 (KRel G.C V) kvs ks → kget n ks = some x → WPG G A (subscriptTail value slice (.ref (V.ρ i)) (.int n t)) Q E s := fun m1 hd hk e => by
    obtain ⟨y, y1, y2⟩ := kget_ok hk e
    exact kdt_tail (knd := PySem.intKind _ _) R.nw m1 hd (kdt_getItem (knd := PySem.intKind _ _) R.nw m1 hd (intKind_is _ _ _ _) y1 (h y _ y2)) (sub_eq hsl)
  refine Classical.byContradiction fun nO => orP_k e (fun e => opO_k e fun ks hg e => nO ?_) fun e => orP_k e (fun e => opO_k e fun ks hg e => nO ?_) fun e => orP_k e (fun e => opO_k e fun xs hg e => nO ?_) fun e => opO_k e fun xs hg e => dco_k e fun c e => nO ?_
  · refine RAt R (get_k asId_ok hg) fun o m1 o1 _ => ?_
    obtain ⟨kvs, hd, hk⟩ := ORel.idict' o1
    exact dct m1 hd hk e
  · refine RAt R (get_k asIdF_ok hg) fun o m1 o1 _ => ?_
    refine Classical.byContradiction fun nO => ?_
    obtain ⟨kvs, rfl, -, hd, hk⟩ := ORel.idictF' o1
    refine nO ?_
    exact dct m1 hd hk e
  · obtain ⟨vs, t1, t2⟩ := isList_of R (get_k asList_ok hg)
    have ht : s.TypeIs (.ref (V.ρ i)) "list" := by obtain ⟨o, ho, hc, -⟩ := t1; exact ⟨o, ho, hc⟩
    have hl : vs.toArray.size = xs.length := t2.len
    refine Classical.byContradiction fun nO => orB_k e (fun q e => dco_k e fun c e => nO ?_) fun q e => dco_k e fun c e => nO ?_
    all_goals obtain ⟨y, y1, y2⟩ := all2_get t2 e
    · exact tail_any ht PySem.F.slot_list_getitem.lookup (wpAny_getItem_list t1 c.2 (by (first | lia | omega)) (by simpa using y1) (h y _ y2)) (sub_eq hsl)
    · have q := of_decide_eq_false q
      exact tail_any ht PySem.F.slot_list_getitem.lookup (wpAny_getItem_list_neg t1 (by (first | lia | omega)) (by rw [hl]; (first | lia | omega)) (by (first | lia | omega)) (by rw [hl]; simpa using y1) (h y _ y2)) (sub_eq hsl)
  · obtain ⟨vs, t1, t2⟩ := isTup_of R (get_k asTup_ok hg)
    have ht : s.TypeIs (.ref (V.ρ i)) "tuple" := by obtain ⟨o, ho, hc, -⟩ := t1; exact ⟨o, ho, hc⟩
    obtain ⟨y, y1, y2⟩ := all2_get t2 e
    have hlt : n.toNat < vs.toArray.size := (List.getElem?_eq_some_iff.mp y1).1
    have hl : vs.toArray.size = xs.length := t2.len
    have b0 : -(2 ^ 63) ≤ n := by (first | lia | omega)
    have b1 : n < 2 ^ 63 := by (first | lia | omega)
    exact tail_any ht PySem.F.slot_tuple_getitem.lookup (PyProof.Rows.getItem_tuple (j := n.toNat) t1 b0 b1 (seqIx c.1 hlt) (by simpa using y1) (h y _ y2)) (sub_eq hsl)
end

section
variable {prog : Program} {w : PySem.World} {C : Cs} {V : Vl}
noncomputable def istore (n : Int) (x : SV) (ks : List (Int × SV)) : List (Int × SV) := if keyIn n ks then ks.map (fun q => if q.1 == n then (q.1, x) else q) else ks ++ [(n, x)]
theorem istore_ok {n : Int} {x : SV} {v : Value} (hv : VRel C V v x) {kvs : List (Int × Value)} {ks : List (Int × SV)} (h : All2 (KRel C V) kvs ks) : All2 (KRel C V) (stored kvs n v) (istore n x ks) := by
  have e := keyIn_ok (n := n) h
  have e' : kvs.any (fun kv => decide (kv.1 = n)) = keyIn n ks := by
    rw [← e]; unfold valueAt
    rw [Option.isSome_map, List.isSome_find?]
  unfold stored istore
  rw [e']
  cases keyIn n ks with
  | false => exact h.app (.cons ⟨rfl, hv⟩ .nil)
  | true =>
    simp only [if_true]
    clear e e'
    induction h with
    | nil => exact .nil
    | @cons a b as bs hab _ ih =>
      refine .cons ?_ ih
      have h1 := hab.1
      by_cases q : a.1 = n
      · have q' : (b.1 == n) = true := beq_iff_eq.mpr (h1 ▸ q)
        dsimp only
        rw [if_pos q, if_pos q']
        exact ⟨h1, hv⟩
      · have q' : ¬ (b.1 == n) = true := fun z => q (h1.trans (beq_iff_eq.mp z))
        dsimp only
        rw [if_neg q, if_neg q']
        exact hab
end
section
variable {G : Gv} {self : Ev} {sc : Sc} {d : Nat} {σ : St} {k : Kt}
theorem setD_sound {V : Vl} {A : Around} {E : Value → Shared → Prop} {h₀ : Heap} {L : Addr} {s : Shared} {m : PySem.Str → Option Value} {news : List (Addr × Obj)} {i : Nat} {n : Int} {kvs : List (Int × SV)} {x : SV} {t : Tok} {v : Value} {Q : Unit → Shared → Prop} (R : RepG G V σ h₀ L s m news) (hg : iget i σ.heap = some (.idict kvs)) (p1 : kvs.length ≤ 1000) (hv : VRel G.C V v x)
    (hQ : ∀ s' news', RepG G V { σ with heap := iset i (.idict (istore n x kvs)) σ.heap } h₀ L s' m news' → Q () s') : WPG G A (setItem (.ref (V.ρ i)) (.int n t) v) Q E s := by
  refine Classical.byContradiction fun nO => ?_
  refine RUpd R hg fun o g o1 u1 K => ?_
  obtain ⟨ks, hd, hks⟩ := ORel.idict' o1
  refine nO ?_
  refine kda_set (knd := PySem.intKind _ _) R.fr R.nw u1 hd (intKind_is _ _ _ _) (by rw [hks.len, sizeLine_eq]; (first | lia | omega)) fun h' o' F' N' hd' => ?_
  obtain ⟨news', R'⟩ := K o' (.idict (istore n x kvs)) h' _ rfl (.idict hd' (istore_ok hv hks)) F' N'
  exact hQ _ news' R'
noncomputable def bindAll (ns : List PySem.Str) (xs : List SV) (l : List (PySem.Str × SV)) : List (PySem.Str × SV) := match ns, xs with
  | n :: ns, x :: xs => bindAll ns xs ((n, x) :: l)
  | _, _ => l
theorem order_sound {V : Vl} {A : Around} {env : Env} {E : Value → Shared → Prop} {h₀ : Heap} {L : Addr} {cn : PySem.Str} {ae : Addr} {ccd : Value} {cl : List (PySem.Str × Addr)} (he : env = envX cn sc.sc L ae ccd cl) (hkk : sc.sc.kind = .function) {Q : Unit → Shared → Prop} {ts : List (Value → Sem Unit)} : ∀ {ns : List PySem.Str} {vs : List Value} {xs : List SV} {l : List (PySem.Str × SV)} {s : Shared} {m : PySem.Str → Option Value} {news : List (Addr × Obj)},
    All2 (fun t n => ∀ v Q s, WPG G A (storeName env n v) Q E s → WPG G A (t v) Q E s) ts ns → (∀ n ∈ ns, sc.sc.names.lookup n = some .local) → All2 (VRel G.C V) vs xs → ns.length = xs.length → RepG G V { σ with loc := l } h₀ L s m news →
    (∀ s' m' news', RepG G V { σ with loc := bindAll ns xs l } h₀ L s' m' news' → Q () s') → WPG G A (assignInOrder ts vs) Q E s := by
  induction ts with
  | nil =>
    intro ns vs xs l s m news ht hl hv hn R hQ
    cases ht
    exact assignInOrder_nil (hQ s m news R)
  | cons t ts ih =>
    intro ns vs xs l s m news ht hl hv hn R hQ
    cases ht with | @cons _ n _ ns hb ht =>
    cases hv with
    | nil => cases hn
    | @cons v x vs xs hv hvs =>
      refine assignInOrder_cons (hb _ _ _ ?_)
      subst he
      refine Classical.byContradiction fun nO => ?_
      obtain ⟨hn', F, N, hlr, hr, nd⟩ := R
      refine nO ?_
      refine storeX_L F N (fun h' F' N' => ?_) hkk (hl n (.head _))
      exact ih (l := (n, x) :: l) ht (fun z hz => hl z (.tail _ hz)) hvs (Nat.succ.inj hn) ⟨hn', F', N', hlr.store hv, hr, nd⟩ fun s' m' news' R3 => hQ s' m' news' R3
end

theorem sole_no {t v : PySem.Expr} {n : Nat} {env : Env} (h : compLess v = true) : swapsWithSole [t] v n env = pure false := by
  show swapsWith v (some t) n env = pure false
  exact swaps_no h
section
variable {G : Gv} {self : Ev} {sc : Sc} {d : Nat} {σ : St} {k : Kt}
noncomputable def swK (ns : List PySem.Str) (k : Kt) : Kt := kv fun v σ₁ => onRef v fun i => hpTup σ₁ i (fun xs => decide (xs.length = ns.length) && k .nx { σ₁ with loc := bindAll ns.reverse xs.reverse σ₁.loc }) false
theorem All2.rev {α β : Type} {R : α → β → Prop} {as : List α} {bs : List β} (h : All2 R as bs) : All2 R as.reverse bs.reverse := by
  induction h with
  | nil => exact .nil
  | cons h _ ih => rw [List.reverse_cons, List.reverse_cons]; exact ih.app (.cons h .nil)
theorem binds_ok {A : Around} {env : Env} {E : Value → Shared → Prop} (l : List PySem.Str) : All2 (fun (t : Value → Sem Unit) n => ∀ v Q s, WPG G A (storeName env n v) Q E s → WPG G A (t v) Q E s) (l.map fun n => bindName env n) l := by
  induction l with
  | nil => exact .nil
  | cons n l ih => exact .cons (fun v Q s hh => bindName_ hh) ih
theorem sswap_sound (hs : Snd G self) {ts vs : List PySem.Expr} {kk kk' : Nat} {p p' pos : Pos} {ns : List PySem.Str} (ho : swOk sc ts vs = some ns) (hl : ns.all (fun n => locB sc.sc n) = true)
    (h : self sc d (.ex (.Tuple vs kk' p')) σ (swK ns k) = true) : Hold G sc d (.st (.Assign [.Tuple ts kk p] (.Tuple vs kk' p') pos)) σ k := by
  intro V₀ A env h₀ L E fx po V s m news hV R hc Q hQ
  have fx0 := fx
  refine Classical.byContradiction fun nO => ?_
  obtain ⟨cn, ae, ccd, cl, rfl⟩ := fx.fn hc
  have hkk := fx.k
  have hh := fx.hh
  have hb : (envX cn sc.sc L ae ccd cl).blockKind = .function := by unfold Env.blockKind; first | exact hkk | (simp [hkk])
  obtain ⟨e1, e2, e3, e4⟩ := swap_eq (k := kk) (k' := kk') (p := p) (p' := p') (env := envX cn sc.sc L ae ccd cl) rfl hb ho
  refine nO ?_
  refine x_swap (names := ns) (hs sc d _ σ _ h V₀ A _ h₀ L E fx po V s m news hV R _ (ends_v fun V' v x' σ' s' news' l hk hv R' => ?_)) rfl e1
  apply onRef_k hk hv; intro i hi hk
  refine hpTup_e hk (fun xs hg hk => dec_k hk fun hz hk => ?_) no_k
  obtain ⟨us, t1, t2⟩ := isTup_of R' hg
  refine unpackItemsN_ R'.fr R'.nw t1 hh (by rw [List.size_toArray, t2.len, hz]) fun h' F' N' => ?_
  exact order_sound (σ := σ') (l := σ'.loc) (cn := cn) (ae := ae) (ccd := ccd) (cl := cl) rfl hkk (ns := ns.reverse) (xs := xs.reverse) (binds_ok _) (fun n hm => locB_ok (List.all_eq_true.mp hl n (List.mem_reverse.mp hm))) (by simpa using t2.rev) (by simp [hz]) (RMove R' F' N') fun s3 m3 news3 R3 => hQ V' _ _ _ s3 m3 news3 l hk .nx R3
noncomputable def dispLess (e : PySem.Expr) : Bool := exNe e 25
theorem swapless {ts : List PySem.Expr} {k : Nat} {p : Pos} {v : PySem.Expr} {env : Env} (h : dispLess v = true) : swappedStores [.Tuple ts k p] v env = pure none := by
  cases v <;> first | exact rfl | exact no_k h
end

section
variable {G : Gv} {self : Ev} {sc : Sc} {d : Nat} {σ : St} {k : Kt}
noncomputable def lenB (c : Cfg) : SB → Option SI
  | .lit l => if decide (l.length ≤ 1000) then some (.lit l.length) else none
  | .var i => c.bl[i]?
  | .any => none
  | .ln x => some x
theorem lenB_ok {b : Array UInt8} {sb : SB} {x : SI} (h : BRel G.C b sb) (e : lenB G.cf sb = some x) : IRel G.C ((KBw.bInts b).length : Int) x ∧ (KBw.bInts b).length ≤ 1000 := by
  cases sb with
  | lit l =>
    have h : All2 (IRel G.C) (KBw.bInts b) l := h
    have e : (if decide (l.length ≤ 1000) then some (SI.lit l.length) else none) = some x := e
    split at e
    · rename_i q
      cases e
      rw [h.len]
      exact ⟨rfl, of_decide_eq_true q⟩
    · cases e
  | var i =>
    have h : KBw.bInts b = G.C.β i := h
    obtain ⟨q1, q2⟩ := G.hbl i x e
    rw [h]
    exact ⟨q1, by (first | lia | omega)⟩
  | ln y => cases e; exact h
  | any => cases e
theorem last_rel {C : Cs} {V : Vl} {x : SV} {vs : List Value} {xs : List SV} (h : All2 (VRel C V) vs xs) (e : xs.getLast? = some x) : ∃ p y, kl_last vs = some (p, y) ∧ VRel C V y x ∧ All2 (VRel C V) p xs.dropLast := by
  induction h with
  | nil => cases e
  | @cons a b as bs hab r ih =>
    cases r with
    | nil =>
      have e : some b = some x := e
      cases e
      exact ⟨[], a, rfl, hab, .nil⟩
    | @cons a' b' as' bs' h' r' =>
      refine Classical.byContradiction fun nO => ?_
      obtain ⟨p, y, h1, h2, h3⟩ := ih (by simpa [List.getLast?_cons_cons] using e)
      refine nO ?_
      refine ⟨a :: p, y, ?_, h2, .cons hab h3⟩
      unfold kl_last
      rw [h1]
noncomputable def BiOk (G : Gv) (g : List SV → St → Kt → Bool) (f : String) : Prop := ∀ xs σ k, g xs σ k = true → ∀ (V : Vl) (A : Around) (E : Value → Shared → Prop) (h₀ : Heap) (L : Addr) (s : Shared) (m : PySem.Str → Option Value) (news : List (Addr × Obj)), A.handled = none → RepG G V σ h₀ L s m news → ∀ (vs : List Value) (Q : Value → Shared → Prop), All2 (VRel G.C V) vs xs → Ends G V h₀ L m (RV G.C) k Q → WPG G A (call (.builtin f) vs) Q E s
theorem bi_ite {f0 f : String} {g r : List SV → St → Kt → Bool} (h1 : BiOk G g f0) (h2 : BiOk G r f) : BiOk G (fun xs σ k => if f = f0 then g xs σ k else r xs σ k) f := by
  intro xs σ k h
  have h : (if f = f0 then g xs σ k else r xs σ k) = true := h
  by_cases e : f = f0
  · rw [if_pos e] at h
    rw [e]
    exact h1 xs σ k h
  · rw [if_neg e] at h
    exact h2 xs σ k h
noncomputable def lenS (c : Cfg) (xs : List SV) (σ : St) (k : Kt) : Bool := on1 xs fun x => orBy x (fun b => onO (lenB c b) fun n => k (.v (.int n)) σ) (onRef x fun i => hpList σ i (fun l => decide (l.length ≤ 1000) && k (.v (.int (.lit l.length))) σ) (hpBa σ i (fun b => onO (lenB c b) fun n => k (.v (.int n)) σ) (hpId σ i (fun ks => decide (ks.length ≤ 1000) && k (.v (.int (.lit ks.length))) σ) false)))
theorem len_ok : BiOk G (lenS G.cf) "len" := by
  intro xs σ k h V A E h₀ L s m news hh R vs Q hv hQ
  apply on1_k h hv; intro x v h hv
  apply orBy_k h hv
  · intro z t b hb h
    refine onO_k h fun n hn h => ?_
    obtain ⟨q1, q2⟩ := lenB_ok hb hn
    exact KBw.len_K rfl (by (first | lia | omega)) (hQ.v h (.int _ q1) R)
  intro h
  apply onRef_k h hv; intro i hi h
  refine Classical.byContradiction fun nO => hpList_e h (fun l hg h => dec_k h fun p1 h => nO ?_) fun h => hpBa_e h (fun b hg h => onO_k h fun n hn h => nO ?_) fun h => hpId_e h (fun ks hg h => dec_k h fun p1 h => nO ?_) no_k
  · obtain ⟨us, t1, t2⟩ := isList_of R hg
    have hl := t2.len
    exact len_list t1 (by rw [List.size_toArray]; (first | lia | omega)) (hQ.v h (.int _ (by rw [List.size_toArray, hl]; rfl)) R)
  · refine RAt R hg fun o m1 o1 _ => ?_
    refine Classical.byContradiction fun nO => ?_
    obtain ⟨b, rfl, hb⟩ := ORel.ba' o1
    obtain ⟨q1, q2⟩ := lenB_ok hb hn
    refine nO ?_
    exact ba_lenK R.nw m1 rfl (by (first | lia | omega)) (hQ.v h (.int _ q1) R)
  · refine RAt R hg fun o m1 o1 o2 => ?_
    obtain ⟨kvs, hd, hk⟩ := ORel.idict' o1
    have hl := hk.len
    exact kda_len R.nw m1 hd (o2 rfl) (by (first | lia | omega)) (hQ.v h (.int _ (by rw [hl]; rfl)) R)
noncomputable def appendS (xs : List SV) (σ : St) (k : Kt) : Bool := on2 xs fun v x => onRef v fun i => hpList σ i (fun l => decide (l.length ≤ 1000) && k (.v .none) { σ with heap := iset i (.list (l ++ [x])) σ.heap }) false
theorem szl {n : Nat} {us : List Value} {l : List SV} {C : Cs} {V : Vl} (h : All2 (VRel C V) us l) (h1 : l.length ≤ n) (h2 : n ≤ 10000) : us.toArray.size + 10 ≤ sizeLine := by
  rw [List.size_toArray, h.len, sizeLine_eq]; (first | lia | omega)
theorem append_ok : BiOk G appendS "list.append" := by
  intro xs σ k h V A E h₀ L s m news hh R vs Q hv hQ
  apply on2_k h hv; intro _ x _ u h hv hu
  apply onRef_k h hv; intro i hi h
  refine hpList_e h (fun l hg h => dec_k h fun p1 h => ?_) no_k
  refine Classical.byContradiction fun nO => ?_
  refine RUpd R hg fun o g o1 u1 K => ?_
  obtain ⟨ws, n, rfl, hws⟩ := ORel.list' o1
  refine nO ?_
  refine append_K R.fr R.nw (UpdF.upd u1) (fun h' F' N' => ?_) (by have := szl hws p1 (by decide); (first | lia | omega))
  obtain ⟨news', R'⟩ := K _ (.list (l ++ [x])) h' s.toks rfl (by rw [List.push_toArray]; exact .list (hws.app (.cons hu .nil))) F' N'
  exact hQ.v h .none R'
noncomputable def popS (xs : List SV) (σ : St) (k : Kt) : Bool := on1 xs fun v => onRef v fun i => hpList σ i (fun l => onO l.getLast? fun x => decide (l.length ≤ 1000) && k (.v x) { σ with heap := iset i (.list l.dropLast) σ.heap }) false
theorem pop_ok : BiOk G popS "list.pop" := by
  intro xs σ k h V A E h₀ L s m news hh R vs Q hv hQ
  apply on1_k h hv; intro _ _ h hv
  apply onRef_k h hv; intro i hi h
  refine Classical.byContradiction fun nO => hpList_e h (fun l hg h => onO_k h fun x hx h => dec_k h fun p1 h => nO ?_) no_k
  refine Classical.byContradiction fun nO => ?_
  refine RUpd R hg fun o g o1 u1 K => ?_
  obtain ⟨ws, n, rfl, hws⟩ := ORel.list' o1
  obtain ⟨p, y, e1, e2, e3⟩ := last_rel hws hx
  refine nO ?_
  refine kl_pop R.fr R.nw (by simpa using e1) (UpdF.upd u1) (by simp [hws.len, sizeLine_eq]; (first | lia | omega)) fun h' F' N' => ?_
  obtain ⟨news', R'⟩ := K _ (.list l.dropLast) h' s.toks rfl (.list e3) F' N'
  exact hQ.v h e2 R'
theorem strs_rel {C : Cs} {V : Vl} {l : List (PySem.Str × Tok)} : All2 (VRel C V) (strValues l) ((l.map (·.1)).map SV.str) := by
  induction l with
  | nil => exact .nil
  | cons a r ih => exact .cons (.str _ _) ih
noncomputable def splitS (xs : List SV) (σ : St) (k : Kt) : Bool := on2 xs fun a b => onStr a fun x => onStr b fun y => !(Str.length y == 0) && (decide (Str.length x + 2 ≤ sizeLine) && newO σ (.list ((Txt.split x y).map .str)) k)
theorem split_ok : BiOk G splitS "str.split" := by
  intro xs σ k h V A E h₀ L s m news hh R vs Q hv hQ
  apply on2_k h hv; intro _ _ _ _ h hv hu
  apply onStr_k h hv; intro _ x h
  apply onStr_k h hu; intro _ y h
  refine and_k h fun p1 h => dec_k h fun p2 h => ?_
  refine KSpl.split1 R.fr R.nw (Bool.not_eq_true' _ ▸ p1) (fun D l h' kk e1 e2 F' N' l1 => ?_) p2
  obtain ⟨R2, v2⟩ := rep_new R (so := .list ((Txt.split x y).map .str)) F' N' l1 (fun q => nomatch q) (.list (e1 ▸ strs_rel))
  exact hQ _ _ _ _ _ _ (V.le_ext D) h (.mk v2) R2
noncomputable def minS (c : Cfg) (xs : List SV) (σ : St) (k : Kt) : Bool := on2 xs fun a b => onInt a fun a => onInt b fun b => onO (ltB c.bd b a) fun r => k (.v (.int (bif r then b else a))) σ
theorem min_ok : BiOk G (minS G.cf) "min" := by
  intro xs σ k h V A E h₀ L s m news hh R vs Q hv hQ
  apply on2_k h hv; intro _ _ _ _ h hv hu
  apply onInt_k h hv; intro x t a hx h
  apply onInt_k h hu; intro y t' b hy h
  refine onO_k h fun r hr h => ?_
  have hlt := ltB_ok hy hx hr
  refine min_two_N hh R.fr R.nw fun h' tk F' N' => hQ.v h (.int (i := bif r then b else a) _ ?_) (RMove R F' N')
  cases r with
  | true => rw [if_pos (of_decide_eq_true hlt)]; exact hy
  | false => rw [if_neg (of_decide_eq_false hlt)]; exact hx
end

section
variable {G : Gv} {self : Ev} {sc : Sc} {d : Nat} {σ : St} {k : Kt}
theorem folded_no {iter : PySem.Expr} {env : Env} (h : setLess iter = true) : ∀ x, foldedSetIterable iter env x = pure x := by
  intro x
  cases iter <;> first | exact rfl | exact no_k h
theorem rep_same {V : Vl} {h₀ : Heap} {L : Addr} {s : Shared} {h' : Heap} {m : PySem.Str → Option Value} {news : List (Addr × Obj)} (R : RepG G V σ h₀ L s m news) {i : Nat} {so so' : SO} (hI : isI so' = isI so) (hg : iget i σ.heap = some so) (hs : Heap.SameBut (V.ρ i) s.heap h') {o' : Obj} (ho : h'.get? (V.ρ i) = some o') (hr' : ORel G.prog G.w G.C V o' so') :
    ∃ news', RepG G V { σ with heap := iset i so' σ.heap } h₀ L { s with heap := h' } m news' := by
  refine RUpd R hg fun o g o1 u1 K => ?_
  have Nd := R.nw (V.ρ i, o) (UpdF.mem u1)
  refine K o' so' h' s.toks hI hr' (R.fr.change hs Nd.2.1 Nd.2.2) fun q hq => ?_
  refine Classical.byContradiction fun nO => ?_
  obtain ⟨pre, post, e1, e2, a, c⟩ := (UpdF.upd (o' := o') u1).split
  refine nO ?_
  have N := R.nw
  rw [e2] at hq
  rw [e1] at N
  have back : ∀ p, p ∈ pre ++ (V.ρ i, o) :: post → p.1 ≠ V.ρ i → h'.get? p.1 = some p.2 ∧ p.1 ≠ L ∧ h₀.get? p.1 = none := fun p hp hne => ⟨(hs.2 _ hne).trans (N p hp).1, (N p hp).2⟩
  rcases List.mem_append.mp hq with hq | hq
  · exact back q (List.mem_append_left _ hq) (a q hq)
  · rcases List.mem_cons.mp hq with rfl | hq
    · exact ⟨ho, Nd.2⟩
    · exact back q (List.mem_append_right _ (.tail _ hq)) (c q hq)
noncomputable def idel {α : Type} (i : Nat) (l : List (Nat × α)) : List (Nat × α) := List.rec [] (fun q r ih => orB (Nat.beq i q.1) r (q :: ih)) l
theorem hdel {prog : Program} {w : PySem.World} {C : Cs} {V : Vl} {i : Nat} {so : SO} {news : List (Addr × Obj)} {hp : List (Nat × SO)} (h : All2 (PRel prog w C V) news hp) (e : iget i hp = some so) (nd : (news.map (·.1)).Nodup) : ∃ news', All2 (PRel prog w C V) news' (idel i hp) ∧ List.Sublist news' news ∧ ∀ p ∈ news', p.1 ≠ V.ρ i := by
  induction h with
  | nil => cases e
  | @cons p q ps qs h1 r ih =>
    obtain ⟨d1, d2⟩ := List.nodup_cons.mp (show (p.1 :: ps.map (·.1)).Nodup from nd)
    refine iget_cons e (fun e1 e2 q1 => ⟨ps, ?_, List.sublist_cons_self _ _, fun z hz e' => d1 ?_⟩) fun q1 e => ?_
    · show All2 _ ps (orB (Nat.beq i q.1) qs _)
      rw [q1]; exact r
    · rw [h1.2.1, ← e1, ← e']; exact List.mem_map_of_mem hz
    · obtain ⟨news', u1, u2, u3⟩ := ih e d2
      refine ⟨p :: news', ?_, u2.cons₂ _, fun z hz => (List.mem_cons.mp hz).elim (fun q' e' => d1 ?_) (u3 z)⟩
      · show All2 _ _ (orB (Nat.beq i q.1) qs (q :: idel i qs))
        rw [q1]; exact .cons h1 u1
      · obtain ⟨o1, m1, -⟩ := hget r e
        rw [← q', e']
        exact List.mem_map_of_mem (f := (·.1)) m1
theorem rep_drop {V : Vl} {h₀ : Heap} {L : Addr} {s : Shared} {h' : Heap} {m : PySem.Str → Option Value} {news : List (Addr × Obj)} (R : RepG G V σ h₀ L s m news) {i : Nat} {so : SO} (hg : iget i σ.heap = some so) (he : Heap.ExtBut (V.ρ i) s.heap h') :
    ∃ news', RepG G V { σ with heap := idel i σ.heap } h₀ L { s with heap := h' } m news' := by
  refine Classical.byContradiction fun nO => ?_
  obtain ⟨hn, F, N, hl, hr, nd⟩ := R
  have nd' := nd
  rw [List.map_append, List.nodup_append] at nd'
  obtain ⟨o, m1, -⟩ := hget hr hg
  have Nd := N (V.ρ i, o) (List.mem_append_left _ m1)
  obtain ⟨news', u1, u2, u3⟩ := hdel hr hg nd'.1
  refine nO ?_
  have hrest : ∀ p ∈ V.r, p.1 ≠ V.ρ i := fun p hp e => nd'.2.2 _ (List.mem_map.mpr ⟨_, m1, rfl⟩) _ (List.mem_map_of_mem hp) e.symm
  refine ⟨news', hn, ?_, fun q hq => ?_, hl, u1, ?_⟩
  · obtain ⟨oL, a1, a2, hoL, a3⟩ := F.ns
    refine ⟨⟨oL, a1, a2, he L oL Nd.2.1.symm hoL, a3⟩, fun b x e => he b x ?_ (F.keep b x e), F.above⟩
    intro hb
    rw [hb, Nd.2.2] at e
    cases e
  · have hq' : q ∈ news ++ V.r := (List.mem_append.mp hq).elim (fun z => List.mem_append_left _ (u2.subset z)) fun z => List.mem_append_right _ z
    have hne : q.1 ≠ V.ρ i := (List.mem_append.mp hq).elim (u3 q) (hrest q)
    exact ⟨he _ _ hne (N q hq').1, (N q hq').2⟩
  · exact nd.sublist ((u2.append (List.Sublist.refl _)).map _)
end

section
variable {G : Gv} {self : Ev} {sc : Sc} {d : Nat} {σ : St} {k : Kt}
theorem rep_push {V : Vl} {h₀ : Heap} {L : Addr} {s : Shared} {m : PySem.Str → Option Value} {news : List (Addr × Obj)} (R : RepG G V σ h₀ L s m news) {o : Obj} {so : SO} (hf : o.isFreed = false) (hI : isI so = false) (ho : ORel G.prog G.w G.C (V.ext s.heap.objs.size) o so) :
    RepG G (V.ext s.heap.objs.size) { σ with nx := σ.nx + 1, heap := (σ.nx, so) :: σ.heap } h₀ L { s with heap := s.heap.push o } m ((s.heap.objs.size, o) :: news) ∧ VRel G.C (V.ext s.heap.objs.size) (.ref s.heap.objs.size) (.ref σ.nx) :=
  rep_new R (R.fr.push o) (R.nw.push R.fr o hf) (fun p hp => Heap.lt_size (R.nw p hp).1) (fun q => by rw [hI] at q; cases q) ho
theorem range_size {n : Int} (h0 : 0 ≤ n) (h1 : n ≤ 1000) : Builtin.Range.rangeSize 0 n 1 = n ∧ Builtin.Range.small 0 n 1 = true := by
  have e : Builtin.Range.rangeSize 0 n 1 = n := by
    unfold Builtin.Range.rangeSize
    simp
    (first | lia | omega)
  refine ⟨e, ?_⟩
  unfold Builtin.Range.small
  rw [e]
  simp [Builtin.Range.rangeFitsLong]
  (first | lia | omega)
noncomputable def whlS (self : Ev) (sc : Sc) (d : Nat) (t : PySem.Expr) (body : List Stmt) (σ : St) (k : Kt) : Bool :=
  self sc.any d (.tst t) σ (kb fun c σ₁ => match c with
    | true => self sc.any d (.sts body) σ₁ fun f σ₂ => match f with
      | .nx => self sc d (.whl t body) σ₂ k
      | .bk => k .nx σ₂
      | .rt v => k (.rt v) σ₂
      | _ => false
    | false => k .nx σ₁)
theorem whl_sound (hs : Snd G self) {t : PySem.Expr} {body : List Stmt} (h : whlS self sc d t body σ k = true) : Hold G sc d (.whl t body) σ k := by
  intro V₀ A env h₀ L E fx po V s m news hV R hc Q hQ
  refine whl_turn (k := 0) po (Sc.of <| hs sc.any d _ σ _ h V₀ A env h₀ L E fx.any po V s m news hV R _ (ends_b fun V' b σ' s' news' l hk R' => ?_))
  cases b with
  | true =>
    refine WhlIf.yes rfl (Sc.of <| hs sc.any d _ σ' _ hk V₀ A env h₀ L E fx.any po V' s' m news' (Vl.le_trans hV l) R' hc _ fun V'' r f σ'' s'' m'' news'' l' hk' hR R'' => ?_)
    cases hR with
    | nx => exact hs sc d _ σ'' k hk' V₀ A env h₀ L E fx po V'' s'' m'' news'' (Vl.le_trans hV (Vl.le_trans l l')) R'' hc Q (hQ.up (Vl.le_trans l l'))
    | rt hv => exact hQ V'' _ _ σ'' s'' m'' news'' (Vl.le_trans l l') hk' (.rt hv) R''
    | bk => exact hQ V'' _ _ σ'' s'' m'' news'' (Vl.le_trans l l') hk' .nx R''
  | false => exact WhlIf.no rfl (wpAny_execs_nil (hQ V' _ _ σ' s' m news' l hk .nx R'))
theorem while_sound (hs : Snd G self) {t : PySem.Expr} {body : List Stmt} {pos : Pos} (h : self sc.any d (.whl t body) σ k = true) : Hold G sc d (.st (.While t body [] pos)) σ k := by
  intro V₀ A env h₀ L E fx po V s m news hV R hc Q hQ
  refine wpX_any ?_
  exact whl_start 0 (hs sc.any d _ σ k h V₀ A env h₀ L E fx.any po V s m news hV R hc Q hQ)
end

section
variable {G : Gv} {self : Ev} {sc : Sc} {d : Nat} {σ : St} {k : Kt}
noncomputable def tySV (x : SV) : Option String := SV.rec (motive := fun _ => Option String) (some "NoneType") (fun _ => some "bool") (fun _ => some "int") (fun _ => some "str") (fun _ => some "bytes") (fun _ => none) (fun _ => none) (fun _ => none) (fun _ => none) (fun _ => none) (some "str") x
noncomputable def tyOf (σ : St) (x : SV) : Option String := orP (tySV x) (opO (svRef x) fun i => orP (opO (obind (iget i σ.heap) asBa) fun _ => some "bytearray") (orP (opO (obind (iget i σ.heap) asList) fun _ => some "list") (orP (opO (obind (iget i σ.heap) asTup) fun _ => some "tuple") (opO (obind (iget i σ.heap) asSeqA) fun t => opB (decide (t = "list" ∨ t = "tuple")) (some t)))))
noncomputable def tysOf (xs : List SV) : Option (List Value) := mapO (fun x => opO (svTy x) fun t => some (.type t)) xs
theorem tysOf_ok {C : Cs} {V : Vl} {vs : List Value} {xs : List SV} (h : All2 (VRel C V) vs xs) {l : List Value} (e : tysOf xs = some l) : vs = l :=
  All2.eq (mapO_ok (R := VRel C V) (S := fun v y => v = y) (fun v x y hv e => by
    refine opO_k e fun t ht e => ?_
    rw [← Option.some.inj e]
    exact svTy_k (P := fun v => v = .type t) ht hv rfl) h e)
noncomputable def isB (K : Frag) (σ : St) (x : SV) (l : List Value) : Option Bool := orP (opO (tyOf σ x) fun T => kitAny K (.type T) l) (opO (svFoul x) fun _ => opO (kitAny K (.type "int") l) fun b => opB (decide (kitAny K (.type "str") l = some b ∧ kitAny K (.type "list") l = some b ∧ kitAny K (.type "tuple") l = some b)) (some b))
noncomputable def isinS (c : Cfg) (xs : List SV) (σ : St) (k : Kt) : Bool := on2 xs fun x y => onRef y fun i => hpTup σ i (fun ts => onO (tysOf ts) fun l => onO (isB c.K σ x l) fun b => k (.v (.bool b)) σ) false
noncomputable def IsTy (K : Frag) (s : Shared) (T : String) (v : Value) : Prop := (∃ H, KitX K v (.type T) H ∧ H s.heap) ∧ v ≠ .builtin "__main__.__loader__#opaque"
theorem tySV_ok {s : Shared} {C : Cs} {V : Vl} {v : Value} {x : SV} {T : String} (hv : VRel C V v x) (e : tySV x = some T) : IsTy G.K s T v := by
  cases x
  case none => obtain rfl := Option.some.inj e; obtain rfl := VRel.none' hv; exact ⟨⟨_, kitx_none, trivial⟩, fun q => nomatch q⟩
  case bool => obtain rfl := Option.some.inj e; obtain rfl := VRel.bool' hv; exact ⟨⟨_, kitx_bool, trivial⟩, fun q => nomatch q⟩
  case int => obtain rfl := Option.some.inj e; obtain ⟨_, _, rfl, -⟩ := VRel.int' hv; exact ⟨⟨_, kitx_int, trivial⟩, fun q => nomatch q⟩
  case str => obtain rfl := Option.some.inj e; obtain ⟨_, rfl⟩ := VRel.str' hv; exact ⟨⟨_, kitx_str, trivial⟩, fun q => nomatch q⟩
  case strA => obtain rfl := Option.some.inj e; obtain ⟨_, _, rfl⟩ := VRel.strA' hv; exact ⟨⟨_, kitx_str, trivial⟩, fun q => nomatch q⟩
  case bytes => obtain rfl := Option.some.inj e; obtain ⟨_, _, rfl, -⟩ := VRel.bytes' hv; exact ⟨⟨_, kitx_bytes, trivial⟩, fun q => nomatch q⟩
  all_goals exact no_o e
theorem tyOf_ok {V : Vl} {h₀ : Heap} {L : Addr} {s : Shared} {m : PySem.Str → Option Value} {news : List (Addr × Obj)} (R : RepG G V σ h₀ L s m news) {v : Value} {x : SV} {T : String} (hv : VRel G.C V v x) (e : tyOf σ x = some T) : IsTy G.K s T v := by
  refine orP_k e (tySV_ok hv) fun e => opO_k e fun i hi e => ?_
  apply svRef_k hi hv; intro _
  refine ⟨?_, fun q => nomatch q⟩
  refine Classical.byContradiction fun nO => orP_k e (fun e => opO_k e fun _ hg e => RAt R (get_k asBa_ok hg) fun o m1 o1 _ => nO ?_) fun e => orP_k e (fun e => opO_k e fun _ hg e => RAt R (get_k asList_ok hg) fun o m1 o1 _ => nO ?_) fun e => orP_k e (fun e => opO_k e fun _ hg e => RAt R (get_k asTup_ok hg) fun o m1 o1 _ => nO ?_) fun e => opO_k e fun t hg e => dco_k e fun c e => RAt R (get_k asSeqA_ok hg) fun o m1 o1 _ => nO ?_
  all_goals obtain rfl := Option.some.inj e
  · obtain ⟨_, rfl, -⟩ := ORel.ba' o1
    exact ⟨_, kitx_ba, _, (R.nw _ m1).1, rfl⟩
  · obtain ⟨_, _, rfl, -⟩ := ORel.list' o1
    exact ⟨_, kitx_list, _, (R.nw _ m1).1, rfl⟩
  · obtain ⟨_, rfl, -⟩ := ORel.tup' o1
    exact ⟨_, kitx_tuple, _, (R.nw _ m1).1, rfl⟩
  · rcases c with rfl | rfl
    · exact ⟨_, kitx_list, _, (R.nw _ m1).1, ORel.seqA' o1⟩
    · exact ⟨_, kitx_tuple, _, (R.nw _ m1).1, ORel.seqA' o1⟩
theorem isB_ok {V : Vl} {h₀ : Heap} {L : Addr} {s : Shared} {m : PySem.Str → Option Value} {news : List (Addr × Obj)} (R : RepG G V σ h₀ L s m news) {v : Value} {x : SV} {l : List Value} {b : Bool} (hv : VRel G.C V v x) (e : isB G.K σ x l = some b) : ∃ T, IsTy G.K s T v ∧ kitAny G.K (.type T) l = some b := by
  refine orP_k e (fun e => opO_k e fun T hT e => ⟨T, tyOf_ok R hv hT, e⟩) fun e => opO_k e fun i hi e => opO_k e fun b' hb e => dco_k e fun c e => ?_
  rw [← Option.some.inj e]
  rw [svFoul_ok hi] at hv
  have hv : FoulV V v := hv
  rcases hv with ⟨x, t, rfl⟩ | ⟨z, t, rfl⟩ | ⟨a, o, rfl, m1, hc | hc⟩
  · exact ⟨_, ⟨⟨_, kitx_int, trivial⟩, fun q => nomatch q⟩, hb⟩
  · exact ⟨_, ⟨⟨_, kitx_str, trivial⟩, fun q => nomatch q⟩, c.1⟩
  · exact ⟨_, ⟨⟨_, kitx_list, _, (R.nw _ (List.mem_append_right _ m1)).1, hc⟩, fun q => nomatch q⟩, c.2.1⟩
  · exact ⟨_, ⟨⟨_, kitx_tuple, _, (R.nw _ (List.mem_append_right _ m1)).1, hc⟩, fun q => nomatch q⟩, c.2.2⟩
theorem isin_sound {xs : List SV} (h : isinS G.cf xs σ k = true) {V : Vl} {A : Around} {E : Value → Shared → Prop} {h₀ : Heap} {L : Addr} {s : Shared} {m : PySem.Str → Option Value} {news : List (Addr × Obj)} (X : G.K.In h₀) (R : RepG G V σ h₀ L s m news) {vs : List Value} {Q : Value → Shared → Prop} (hv : All2 (VRel G.C V) vs xs) (hQ : Ends G V h₀ L m (RV G.C) k Q) : WPG G A (call (.builtin "isinstance") vs) Q E s := by
  apply on2_k h hv; intro x y v u h hv hu
  apply onRef_k h hu; intro i hi h
  refine Classical.byContradiction fun nO => hpTup_e h (fun ts hg h => onO_k h fun l hl h => onO_k h fun b hb hK => RAt R hg fun o m1 o1 _ => nO ?_) no_k
  refine Classical.byContradiction fun nO => ?_
  obtain ⟨T, ⟨⟨H, q1, q2⟩, q3⟩, hb⟩ := isB_ok R hv hb
  obtain ⟨us, rfl, ht⟩ := ORel.tup' o1
  obtain rfl := tysOf_ok ht hl
  refine nO ?_
  exact kia_tup q1 (fun a o q => R.fr.keep a o (X a o q)) q2 (R.nw _ m1).1 hb q3 fun tk => hQ.v hK (.bool b) (RMove R R.fr R.nw)
noncomputable def excS (d : Nat) (xs : List SV) (σ : St) (k : Kt) : Bool := on1 xs fun x => onStr x fun w => decide (3 ≤ d) && k (.v (.ref (σ.nx + 1))) { nx := σ.nx + 2, heap := (σ.nx + 1, .exc σ.nx) :: (σ.nx, .excd w) :: σ.heap, loc := σ.loc }
theorem exc_sound {xs : List SV} (h : excS d xs σ k = true) {V₀ V : Vl} {A : Around} {env : Env} {h₀ : Heap} {L : Addr} {sc : Sc} {E : Value → Shared → Prop} (fx : Fx G V₀ A env h₀ L sc d E) {s : Shared} {m : PySem.Str → Option Value} {news : List (Addr × Obj)} (R : RepG G V σ h₀ L s m news) {vs : List Value} {Q : Value → Shared → Prop} (hv : All2 (VRel G.C V) vs xs) (hQ : Ends G V h₀ L m (RV G.C) k Q) : WPG G A (call (.ref 59) vs) Q E s := by
  apply on1_k h hv; intro x v h hv
  apply onStr_k h hv; intro tok what h
  refine Classical.byContradiction fun nO => ?_
  refine dec_k h fun p1 h => ?_
  obtain ⟨-, -, ⟨cn, sc₀, ae, ccd, cl, A₀, base, outer, hk, B, hfr, -⟩, hh, hd, hu, X, -, T⟩ := fx
  refine nO ?_
  refine G.hexc B R.fr X R.nw T hk hfr hh (by (first | lia | omega)) (by (first | lia | omega)) fun e dx t ta tb h' tk' F' N' hed l1 l2 => ?_
  obtain ⟨R1, v1⟩ := rep_newN (so := .excd what) (tk := tk') R F' (fun q hq => N' q (.tail _ hq)) l2 (fun q => nomatch q) .excd
  have lt : σ.nx < (V.ext dx).n := by show σ.nx < V.n + 1; rw [R.nx]; exact Nat.lt_succ_self _
  have i2 := ORel.exc (prog := G.prog) (w := G.w) (C := G.C) (V := (V.ext dx).ext e) (t := t) (j := σ.nx) (Nat.lt_succ_of_lt lt)
  rw [((V.ext dx).le_ext e).2 _ lt, ← R.nx, V.ext_at dx, R.nx] at i2
  exact rep_newVN (hQ.up (V.le_ext dx)) R1 (so := .exc σ.nx) F' N' (fun p hp => (List.mem_cons.mp hp).elim (fun z => z ▸ fun q => hed q.symm) (l1 p)) (fun q => nomatch q) i2 h
noncomputable def raiseS (c : Cfg) (self : Ev) (sc : Sc) (d : Nat) (e : PySem.Expr) (σ : St) : Bool :=
  !sc.q && self sc.any d (.ex e) σ (kv fun x σ₁ => onRef x fun i => onCons σ₁.heap fun p r => onO (asExc p.2) fun j => onCons r fun q hp => onO (asExcd q.2) fun w => Nat.beq i p.1 && (Nat.beq j q.1 && (decide (d < c.top) && c.kx w { σ₁ with heap := hp })))
theorem raise_sound (hs : Snd G self) {e : PySem.Expr} {pos : Pos} (h : raiseS G.cf self sc d e σ = true) : Hold G sc d (.st (.Raise (some e) none pos)) σ k := by
  intro V₀ A env h₀ L E fx po V s m news hV R hc Q hQ
  refine and_k h fun hq0 h => wpX_any ?_
  have fx' := fx
  refine Classical.byContradiction fun nO => ?_
  obtain ⟨nm, q, N', bs, bm, hdct, sn, sub, ab, col, dd, k0, k1, k2, k3, k5, newId, w1, w2⟩ := G.hexk
  obtain ⟨-, -, ⟨cn, sc₀, ae, ccd, cl, A₀, base, outer, hk, B, hfr, hEq⟩, hh, hd, hu, X, -, T⟩ := fx'
  refine nO ?_
  refine exc_raise R.fr X hh w1 w2 (Sc.of <| hs sc.any d _ σ _ h V₀ A env h₀ L E fx.any po V s m news hV R _ (ends_v fun V' v x σ' s' news' l hk hv R' => ?_))
  apply onRef_k hk hv; intro i hi hk
  refine Classical.byContradiction fun nO => ?_
  refine onCons_k hk fun p r e1 hk => onO_k hk fun j hj hk => onCons_k hk fun q hp e2 hk => onO_k hk fun what hw hk => and_k hk fun q1 hk => and_k hk fun q2 hk => dec_k hk fun q3 hk => ?_
  obtain ⟨hn, F, N, hl, hr, nd⟩ := R'
  rw [e1, e2] at hr
  obtain ⟨p1, n1, rfl, r1, hr1⟩ := all2_cons hr
  obtain ⟨p2, n2, rfl, r2, hr2⟩ := all2_cons hr1
  obtain ⟨-, z1, u1, -⟩ := r1
  obtain ⟨-, z2, u2, -⟩ := r2
  rw [asExc_ok _ _ hj] at u1
  rw [asExcd_ok _ _ hw] at u2
  obtain ⟨t, y1, -⟩ := ORel.exc' u1
  obtain ⟨tk, ta, tb, y2⟩ := ORel.excd' u2
  refine nO ?_
  clear u1 u2
  have q1 : p1 = (V'.ρ i, excD 59 t (V'.ρ j)) := Prod.ext (by rw [Nat.eq_of_beq_eq_true q1]; exact z1) y1
  have q2 : p2 = (V'.ρ j, excDict G.w what tk ta tb) := Prod.ext (by rw [Nat.eq_of_beq_eq_true q2]; exact z2) y2
  rw [q1, q2] at N nd
  refine Classical.byContradiction fun nO => ?_
  obtain ⟨d1, nd⟩ := List.nodup_cons.mp nd
  obtain ⟨d2, nd⟩ := List.nodup_cons.mp nd
  refine nO ?_
  exact Flung.of F N ((hEq (Bool.not_eq_true' _ ▸ hq0)).1 q3 V' _ _ _ _ _ _ _ _ _ n2 _ (Vl.le_trans hV l) hk F N (fun z => d1 (z ▸ .head _)) (fun p hp e => d1 (e ▸ .tail _ (List.mem_map_of_mem (f := (·.1)) hp))) hr2 hn nd)
end

section
variable {G : Gv} {self : Ev} {sc : Sc} {d : Nat} {σ : St} {k : Kt}
noncomputable def cellV (o : Option SV) : SO := Option.rec .cell0 .cell o
noncomputable def cellsE (l : List (PySem.Str × SV)) (nx : Nat) (hp : List (Nat × SO)) (ns : List PySem.Str) : List (PySem.Str × SV) × Nat × List (Nat × SO) := List.rec ([], nx, hp) (fun n _ ih => ((n, .ref ih.2.1) :: ih.1, ih.2.1 + 1, (ih.2.1, cellV (sget n l)) :: ih.2.2)) ns
theorem cells_rel {prog : Program} {w : PySem.World} {C : Cs} {cm : PySem.Str → Option Value} {cs : List (PySem.Str × Addr)} {cells : List (Addr × Obj)} (X : CellsAre cm cs cells) {V : Vl} {l : List (PySem.Str × SV)} (h1 : ∀ n ∈ cs.map (·.1), ∀ v, sget n l = some v → ∃ u, cm n = some u ∧ VRel C V u v) (h2 : ∀ n ∈ cs.map (·.1), sget n l = none → cm n = none)
    {news rest : List (Addr × Obj)} {hp : List (Nat × SO)} (hr : All2 (PRel prog w C V) news hp) (nd : ((news ++ rest).map (·.1)).Nodup) (d1 : (cs.map (·.2)).Nodup) (d2 : ∀ c ∈ cs.map (·.2), ∀ p ∈ news ++ rest, p.1 ≠ c) :
    ∃ V', V.le V' ∧ V'.r = V.r ∧ V'.n = (cellsE l V.n hp (cs.map (·.1))).2.1 ∧ All2 (PRel prog w C V') (cells ++ news) (cellsE l V.n hp (cs.map (·.1))).2.2 ∧ (((cells ++ news) ++ rest).map (·.1)).Nodup ∧ CellsIn V' cs (cellsE l V.n hp (cs.map (·.1))).1 ∧ ∀ p ∈ cells, p.1 ∈ cs.map (·.2) := by
  induction X with
  | nil => exact ⟨V, V.le_refl, rfl, rfl, hr, nd, fun _ _ e => (nomatch e), fun _ h => (nomatch h)⟩
  | @cons n c o cs cells hd X ih =>
    refine Classical.byContradiction fun nO => ?_
    obtain ⟨d3, d4⟩ := List.nodup_cons.mp d1
    obtain ⟨V', l1, lr, l2, l3, l4, l5, l6⟩ := ih (fun n hn => h1 n (.tail _ hn)) (fun n hn => h2 n (.tail _ hn)) d4 (fun c hc => d2 c (.tail _ hc))
    refine nO ?_
    have hso : ORel prog w C (V'.ext c) o (cellV (sget n l)) := by
      cases q : sget n l with
      | none => exact .cell0 (by rw [hd, h2 n (.head _) q])
      | some v =>
        obtain ⟨u, u1, u2⟩ := h1 n (.head _) v q
        exact .cell (by rw [hd, u1]) (u2.up (Vl.le_trans l1 (V'.le_ext c)))
    obtain ⟨r1, r2⟩ := hnew (V := V') (a := c) (o := o) l3 l4 (fun p hp => by
      rw [List.append_assoc] at hp
      rcases List.mem_append.mp hp with hp | hp
      · exact fun e => d3 (e ▸ l6 p hp)
      · exact d2 c (.head _) p hp) (fun q => by revert q; cases sget n l <;> exact fun q => nomatch q) hso
    refine ⟨V'.ext c, Vl.le_trans l1 (V'.le_ext c), lr, ?_, ?_, r2, ?_, ?_⟩
    · show V'.n + 1 = _
      rw [l2]; rfl
    · rw [l2] at r1; exact r1
    · intro x v e
      have e : (if seq x n then some (.ref (cellsE l V.n hp (cs.map (·.1))).2.1) else sget x (cellsE l V.n hp (cs.map (·.1))).1) = some v := e
      by_cases q : seq x n = true
      · rw [if_pos q] at e
        rw [← Option.some.inj e, seq_iff.mp q]
        refine ⟨_, rfl, by rw [← l2]; exact Nat.lt_succ_self _, ?_⟩
        rw [← l2, V'.ext_at, List.lookup_cons, beq_self_eq_true]
      · rw [if_neg q] at e
        refine Classical.byContradiction fun nO => ?_
        obtain ⟨i, i1, i2, i3⟩ := l5 x v e
        refine nO ?_
        refine ⟨i, i1, Nat.lt_succ_of_lt i2, ?_⟩
        rw [List.lookup_cons, bneq q, (V'.le_ext c).2 i i2]
        exact i3
    · intro p hp
      rcases List.mem_cons.mp hp with rfl | hp
      · exact .head _
      · exact .tail _ (l6 p hp)
theorem cells_names (names : List (PySem.Str × NameKind)) : ∀ (n n' : Nat) {acc acc' : List (PySem.Str × Addr)}, acc.map (·.1) = acc'.map (·.1) → (cellsFrom n names acc).map (·.1) = (cellsFrom n' names acc').map (·.1) := by
  induction names with
  | nil => exact fun _ _ _ _ h => h
  | cons p r ih =>
    intro n n' acc acc' h
    obtain ⟨x, kd⟩ := p
    cases kd
    case cell => exact ih _ _ (congrArg (x :: ·) h)
    all_goals exact ih _ _ h
theorem cells_addrs (names : List (PySem.Str × NameKind)) : ∀ (n : Nat) {acc : List (PySem.Str × Addr)}, (acc.map (·.2)).Nodup → (∀ c ∈ acc.map (·.2), c < n) → ((cellsFrom n names acc).map (·.2)).Nodup ∧ ∀ c ∈ (cellsFrom n names acc).map (·.2), c ∈ acc.map (·.2) ∨ n ≤ c := by
  induction names with
  | nil => exact fun _ _ h _ => ⟨h, fun _ hc => .inl hc⟩
  | cons p r ih =>
    intro n acc h hl
    obtain ⟨x, kd⟩ := p
    cases kd
    case cell =>
      obtain ⟨r1, r2⟩ := ih (n + 1) (acc := (x, n) :: acc) (List.nodup_cons.mpr ⟨fun q => Nat.lt_irrefl _ (hl _ q), h⟩) (fun c hc => (List.mem_cons.mp hc).elim (fun e => e ▸ Nat.lt_succ_self _) fun hc => Nat.lt_succ_of_lt (hl c hc))
      exact ⟨r1, fun c hc => (r2 c hc).elim (fun q => (List.mem_cons.mp q).elim (fun e => .inr (e ▸ Nat.le_refl _)) .inl) fun q => .inr (Nat.le_of_succ_le q)⟩
    all_goals exact ih n h hl
theorem bindL_eq {kd : PySem.Str → Option NameKind} {y : PySem.Str} : ∀ {bs : List (PySem.Str × Value)} {m : PySem.Str → Option Value}, kd y = some .local → bindL kd bs m y = (bs.reverse.lookup y).or (m y)
  | [], m, _ => rfl
  | (n, v) :: r, m, h => by
    unfold bindL
    rw [bindL_eq h, List.reverse_cons, List.lookup_append]
    cases q : y == n with
    | true =>
      obtain rfl := beq_iff_eq.mp q
      simp [h, List.lookup_cons]
    | false =>
      have q' : ¬ y = n := fun e => by rw [e, beq_self_eq_true] at q; cases q
      simp only [List.lookup_cons, q, List.lookup_nil, Option.or_none]
      split <;> simp [q']
theorem bindC_eq {kd : PySem.Str → Option NameKind} {y : PySem.Str} : ∀ {bs : List (PySem.Str × Value)} {m : PySem.Str → Option Value}, kd y ≠ some .local → bindC kd bs m y = (bs.reverse.lookup y).or (m y)
  | [], m, _ => rfl
  | (n, v) :: r, m, h => by
    unfold bindC
    rw [bindC_eq h, List.reverse_cons, List.lookup_append]
    cases q : y == n with
    | true =>
      obtain rfl := beq_iff_eq.mp q
      simp [h, List.lookup_cons]
    | false =>
      have q' : ¬ y = n := fun e => by rw [e, beq_self_eq_true] at q; cases q
      simp only [List.lookup_cons, q, List.lookup_nil, Option.or_none]
      split <;> simp [q']
noncomputable def fnCS (c : Cfg) (self : Ev) (sc : Sc) (d : Nat) (a : Nat) (xs : List SV) (σ : St) (k : Kt) : Bool := Nat.rec false (fun d _ => onO (fnT c a true) fun r => onO (locsIn c.K r.1 r.2.1 xs) fun l => r.2.1.all (fun y => (sget y l).isSome) && self ⟨r.1.scope, (cellsE l σ.nx σ.heap (cellNs r.1)).1, none, sc.q, false, none⟩ d (.sts r.2.2) ⟨(cellsE l σ.nx σ.heap (cellNs r.1)).2.1, (cellsE l σ.nx σ.heap (cellNs r.1)).2.2, l.filter fun q => r.1.scope.names.lookup q.1 == some .local⟩ (kret σ.loc k)) d
theorem sget_filter {p : PySem.Str → Bool} {y : PySem.Str} {v : SV} {l : List (PySem.Str × SV)} (h : sget y (l.filter fun q => p q.1) = some v) : sget y l = some v ∧ p y = true := by
  induction l with
  | nil => exact no_o h
  | cons q r ih =>
    obtain ⟨n, u⟩ := q
    rw [List.filter_cons] at h
    show (if seq y n then some u else sget y r) = some v ∧ p y = true
    by_cases hp : p n = true
    · rw [if_pos hp] at h
      have h' : (if seq y n then some u else sget y (r.filter fun q => p q.1)) = some v := h
      by_cases q : seq y n = true
      · rw [if_pos q] at h' ⊢
        exact ⟨h', by rw [seq_iff.mp q]; exact hp⟩
      · rw [if_neg q] at h' ⊢
        exact ih h'
    · rw [if_neg hp] at h
      obtain ⟨h1, h2⟩ := ih h
      have q : ¬seq y n = true := fun q => hp (by rw [← seq_iff.mp q]; exact h2)
      rw [if_neg q]
      exact ⟨h1, h2⟩
theorem cells_in {fd : FuncData} {ns : List PySem.Str} {us : List Value} {l : List (PySem.Str × SV)} {V : Vl} {a L' : Addr} {news cells : List (Addr × Obj)} {hp : List (Nat × SO)} (hlen : ns.length = us.length) (hns : ns.all (fun y => (sget y l).isSome) = true) (g11 : (cellNs fd).all (fun n => fd.scope.names.lookup n != some .local) = true) (hlr : LRel G.C V (fun y => (ns.zip us).reverse.lookup y) l)
    (Y : CellsAre (bindC (envOfC fd.qualname fd.scope L' a fd.code).kindOf (ns.zip us) fun _ => none) (cellsFrom (L' + 1) fd.scope.names []) cells) (hr : All2 (PRel G.prog G.w G.C V) news hp) (nd : ((news ++ V.r).map (·.1)).Nodup) (hlt : ∀ p ∈ news ++ V.r, p.1 < L') :
    ∃ V', V.le V' ∧ V'.r = V.r ∧ V'.n = (cellsE l V.n hp (cellNs fd)).2.1 ∧ All2 (PRel G.prog G.w G.C V') (cells ++ news) (cellsE l V.n hp (cellNs fd)).2.2 ∧ (((cells ++ news) ++ V.r).map (·.1)).Nodup ∧ CellsIn V' (cellsFrom (L' + 1) fd.scope.names []) (cellsE l V.n hp (cellNs fd)).1 ∧ LRel G.C V' (bindL (envOfC fd.qualname fd.scope L' a fd.code).kindOf (ns.zip us) fun _ => none) (l.filter fun q => fd.scope.names.lookup q.1 == some .local) := by
  have hkey : (cellsFrom (L' + 1) fd.scope.names []).map (·.1) = cellNs fd := cells_names _ _ _ rfl
  obtain ⟨a1, a2⟩ := cells_addrs fd.scope.names (L' + 1) (acc := []) List.nodup_nil (fun _ h => nomatch h)
  have out : ∀ {y : PySem.Str}, sget y l = none → (ns.zip us).reverse.lookup y = none := fun {y} e => by
    refine lookup_out fun q => ?_
    rw [List.map_reverse, List.mem_reverse, zip_keys hlen] at q
    have := List.all_eq_true.mp hns y q
    rw [e] at this
    cases this
  have cellK : ∀ n ∈ (cellsFrom (L' + 1) fd.scope.names []).map (·.1), (envOfC fd.qualname fd.scope L' a fd.code).kindOf n ≠ some .local := fun n hn => bne_iff_ne.mp (List.all_eq_true.mp g11 n (hkey ▸ hn))
  obtain ⟨V', l1, lr, l2, l3, l4, l5, -⟩ := cells_rel (l := l) Y (fun n hn v e => by
      obtain ⟨u, u1, u2⟩ := hlr n v e
      exact ⟨u, by rw [bindC_eq (cellK n hn), show (ns.zip us).reverse.lookup n = some u from u1]; rfl, u2⟩) (fun n hn e => by rw [bindC_eq (cellK n hn), out e]; rfl) hr nd a1 (fun c hc p hp e => (a2 c hc).elim (fun q => nomatch q) fun q => absurd (Nat.lt_of_lt_of_le (e ▸ hlt p hp) (Nat.le_of_succ_le q)) (Nat.lt_irrefl _))
  rw [hkey] at l2 l3 l5
  refine ⟨V', l1, lr, l2, l3, l4, l5, fun y v e => ?_⟩
  refine Classical.byContradiction fun nO => ?_
  obtain ⟨e1, e2⟩ := sget_filter (p := fun x => fd.scope.names.lookup x == some .local) e
  obtain ⟨u, u1, u2⟩ := hlr y v e1
  refine nO ?_
  exact ⟨u, by rw [bindL_eq (beq_iff_eq.mp e2), show (ns.zip us).reverse.lookup y = some u from u1]; rfl, u2.up l1⟩
theorem fnC_code (hs : Snd G self) {a : Nat} {xs : List SV} (h : fnCS G.cf self sc d a xs σ k = true) {V₀ V : Vl} {A : Around} {env : Env} {h₀ : Heap} {L : Addr} {R' : Result → Shared → Prop} (fx : Fx G V₀ A env h₀ L sc d fun e s' => R' (.error e) s') {s : Shared} {m : PySem.Str → Option Value} {news : List (Addr × Obj)} (hV : V₀.le V) (R : RepG G V σ h₀ L s m news)
    {vs : List Value} (hv : All2 (VRel G.C V) vs xs) (hQ : Ends G V h₀ L m (RV G.C) k fun v s' => R' (.ok (.ret v)) s') : codeAny (model G.prog G.w) A (.call (.ref a) ⟨vs, []⟩) R' s := by
  cases d with
  | zero => exact no_k h
  | succ d' =>
  refine Classical.byContradiction fun nO => ?_
  refine onO_k h fun r hf h => onO_k h fun l hl h => and_k h fun hns h => ?_
  obtain ⟨hf, k4⟩ := fnT_ok hf
  obtain ⟨oc, od, osl, k1, k2, k3⟩ := fnR_ok hf
  refine and_k k4 fun f0 k4 => and_k k4 fun g9 k4 => and_k k4 fun g8 k4 => and_k k4 fun g11 g10 => ?_
  have f0 := fnOk0_ok f0
  obtain ⟨-, -, ⟨cn, sc₀, ae, ccd, cl, A₀, base, outer, hk, B, hfr, hEq⟩, hh, hd, hu, X, -, mean, mg, mb, T⟩ := fx
  obtain ⟨us, hb, hlen, hlr'⟩ := locsIn_ok R.fr X hl k2 (nodupB_ok g9) hv
  refine nO ?_
  have hfd := fnOf_eq k3 f0.g f0.b f0.cl
  refine code_defC (name := r.1.name) (qual := r.1.qualname) (params := r.1.params) (body := r.2.2) (scope := r.1.scope) (dV := r.1.defaults) (kV := r.1.kwdefaults) (doc := r.1.doc) (pm := r.1.pyModule) (an := r.1.annotations) (cdv := r.1.code) (ct := r.1.closureTuple) (oc := oc) (od := od) (osl := osl) (binds := r.2.1.zip us)
    B R.fr X R.nw T hfr rfl hk (by rw [k1]; exact congrArg (fun z => some (⟨oc, od, .func z, osl⟩ : Obj)) hfd) f0.cd (Nat.lt_of_le_of_lt (Nat.le_trans (Nat.le_add_right _ _) hd) (by decide)) (hfd ▸ hb) (List.all_eq_true.mpr fun y hy => List.all_eq_true.mp g10 y.1 (by rw [← zip_keys hlen]; exact List.mem_map_of_mem hy)) (nodupB_ok g8) (fun g L' h₁ tk cells FG F' N' Y B' X' T' hlt => ?_) f0.co f0.gn f0.k
  refine Classical.byContradiction fun nO => ?_
  obtain ⟨V', l1, lr, l2, l3, l4, l5, l6⟩ := cells_in hlen hns g11 hlr' Y R.hp R.nd hlt
  refine nO ?_
  rw [R.nx] at l2 l3 l5
  exact any_X <| hs _ _ _ _ _ h V' _ _ g L' _ (fx_in hfr hEq hh hd hu (Vl.le_trans hV l1) FG B' X' T' l5 f0.k) (PassesOwn.leaving (Q₁ := fun e s'' => R' (.error e) s'')) V' { s with heap := h₁, toks := tk } _ (cells ++ news) (Vl.le_refl V') ⟨⟨l2, by rw [l1.4]; exact R.sm⟩, F', by rw [List.append_assoc, lr]; exact N', l6, l3, by rw [lr]; exact l4⟩ rfl _ (kret_in hQ R.lc l1)
end

noncomputable def closE (cells : List (PySem.Str × SV)) : List (PySem.Str × NameKind) → List (PySem.Str × SV) → Option (List (PySem.Str × SV))
  | [], acc => some acc
  | (n, kd) :: r, acc => bif kd == .free then (match sget n cells with | some v => closE cells r ((n, v) :: acc) | none => none) else closE cells r acc
theorem clo_ok {env : Env} {V : Vl} {cells : List (PySem.Str × SV)} (hc : CellsIn V env.cells cells) {f : PySem.Str × NameKind → List (PySem.Str × Addr) → Sem (ForInStep (List (PySem.Str × Addr)))}
    (hf : ∀ n kd acc, f (n, kd) acc = if (kd == NameKind.free) = true then (cellOf env n >>= fun a => pure (.yield ((n, a) :: acc))) else pure (.yield acc)) : ∀ (names : List (PySem.Str × NameKind)) {acc : List (PySem.Str × Addr)} {cacc m : List (PySem.Str × SV)}, CellsIn V acc cacc → closE cells names cacc = some m → ∃ cl, forIn names acc f = pure cl ∧ CellsIn V cl m
  | [], acc, cacc, m, ha, h => by
    cases h
    exact ⟨acc, List.forIn_nil, ha⟩
  | (n, kd) :: r, acc, cacc, m, ha, h => by
    have h : (bif kd == .free then (match sget n cells with | some v => closE cells r ((n, v) :: cacc) | none => none) else closE cells r cacc) = some m := h
    rw [List.forIn_cons, hf]
    cases q : kd == NameKind.free with
    | false =>
      rw [q] at h
      obtain ⟨cl, h1, h2⟩ := clo_ok hc hf r ha h
      exact ⟨cl, by rw [if_neg Bool.false_ne_true, pure_bind]; exact h1, h2⟩
    | true =>
      rw [q] at h
      have h : (match sget n cells with | some v => closE cells r ((n, v) :: cacc) | none => none) = some m := h
      split at h
      · rename_i v hv
        refine Classical.byContradiction fun nO => ?_
        obtain ⟨i, rfl, hi, hl⟩ := hc n v hv
        refine nO ?_
        obtain ⟨cl, h1, h2⟩ := clo_ok hc hf r (acc := (n, V.ρ i) :: acc) (cacc := (n, .ref i) :: cacc) (fun x u e => by
          have e : (if seq x n then some (.ref i) else sget x cacc) = some u := e
          split at e
          · rename_i z
            cases e
            obtain rfl := seq_iff.mp z
            exact ⟨i, rfl, hi, by rw [List.lookup_cons, beq_self_eq_true]⟩
          · rename_i z
            refine Classical.byContradiction fun nO => ?_
            obtain ⟨j, j1, j2, j3⟩ := ha x u e
            refine nO ?_
            exact ⟨j, j1, j2, by rw [List.lookup_cons, bneq z]; exact j3⟩) h
        refine ⟨cl, ?_, h2⟩
        have : cellOf env n = pure (V.ρ i) := by unfold cellOf; rw [hl]
        rw [if_pos rfl, this, pure_bind, pure_bind]
        exact h1
      · cases h
theorem closure_ok {env : Env} {V : Vl} {cells m : List (PySem.Str × SV)} {scope : Scope} (hc : CellsIn V env.cells cells) (h : closE cells scope.names [] = some m) : ∃ cl, closureFor scope env = pure cl ∧ CellsIn V cl m := by
  obtain ⟨cl, h1, h2⟩ := clo_ok (env := env) hc (f := fun x acc => if (x.2 == NameKind.free) = true then (cellOf env x.1 >>= fun a => pure (.yield ((x.1, a) :: acc))) else pure (.yield acc)) (fun _ _ _ => rfl) scope.names (acc := []) (cacc := []) (fun _ _ e => nomatch e) h
  refine ⟨cl, ?_, h2⟩
  rw [← h1]
  unfold closureFor
  simp only [bind_pure]

section
variable {G : Gv} {self : Ev} {sc : Sc} {d : Nat} {σ : St} {k : Kt}
theorem Same.eq {z s s' : Shared} (h : Same z s) (h' : Same z s') : s' = { s with heap := s'.heap, toks := s'.toks } := by
  refine Classical.byContradiction fun nO => ?_
  obtain ⟨a, b, c, d, e⟩ := s
  obtain ⟨a', b', c', d', e'⟩ := s'
  refine nO ?_
  have := (show (⟨z.heap, b, c, z.toks, e⟩ : Shared) = z from h).trans (show (⟨z.heap, b', c', z.toks, e'⟩ : Shared) = z from h').symm
  cases this
  rfl
noncomputable def rlb (scope sc : Scope) : Scope := { scope with names := scope.names.map fun (n, kd) => if (kd == .free && sc.kind == .function && sc.names.lookup n == some .cell) then (n, .cell) else (n, kd) }
noncomputable def blkIn (σ : St) : St := { σ with nx := σ.nx + 3, heap := (σ.nx + 2, .opq (σ.nx + 2)) :: (σ.nx + 1, .opq (σ.nx + 1)) :: (σ.nx, .opq σ.nx) :: σ.heap }
noncomputable def opqAt (i : Nat) (hp : List (Nat × SO)) : Bool := onO (obind (iget i hp) asOpq) fun j => Nat.beq i j
noncomputable def blkOut (n : Nat) (σ : St) : St := { σ with heap := idel (n + 2) (idel (n + 1) (idel n σ.heap)) }
noncomputable def out3 (n : Nat) (hp : List (Nat × SO)) : Bool := opqAt n hp && (opqAt (n + 1) (idel n hp) && opqAt (n + 2) (idel (n + 1) (idel n hp)))
noncomputable abbrev bsc (sc : Sc) (scope : Scope) (m : List (PySem.Str × SV)) (i : Nat) (x : PySem.Str) (v : SV) : Sc := ⟨rlb scope sc.sc, m, some (i, x, v), true, false, none⟩
noncomputable def turnsS (self : Ev) (sc : Sc) (scope : Scope) (m : List (PySem.Str × SV)) (d : Nat) (ct : Option PySem.Expr) (elt : PySem.Expr) (x : PySem.Str) (chk : List (Nat × SO) → Bool) (k : List SV → St → Bool) (xs : List SV) : List SV → St → Bool := List.rec (motive := fun _ => List SV → St → Bool) k (fun v _ ih ys σ => Option.rec (self (bsc sc scope m (σ.nx + 1) x v) d (.ex elt) (blkIn σ) (kv fun y σ' => out3 σ.nx σ'.heap && (chk (blkOut σ.nx σ').heap && ih (ys ++ [y]) (blkOut σ.nx σ')))) (fun t => self (bsc sc scope m (σ.nx + 1) x v) d (.tst t) (blkIn σ) (kb fun b σ₁ => orB b (self (bsc sc scope m (σ.nx + 1) x v) d (.ex elt) σ₁ (kv fun y σ' => out3 σ.nx σ'.heap && (chk (blkOut σ.nx σ').heap && ih (ys ++ [y]) (blkOut σ.nx σ')))) (out3 σ.nx σ₁.heap && (chk (blkOut σ.nx σ₁).heap && ih ys (blkOut σ.nx σ₁))))) ct) xs
theorem mem_rel {V : Vl} {h₀ : Heap} {L : Addr} {s : Shared} {m : PySem.Str → Option Value} {news : List (Addr × Obj)} (o : Obj) (R : RepG G V σ h₀ L s m news) : RepG G (V.mem o) σ h₀ L s m news := ⟨R.1, R.fr, R.nw, R.lc.up (V.le_mem o), R.hp.imp fun _ _ => PRel.up (V.le_mem o), R.nd⟩
theorem opq_in {V : Vl} {h₀ : Heap} {L : Addr} {s : Shared} {m : PySem.Str → Option Value} {news : List (Addr × Obj)} (R : RepG G V σ h₀ L s m news) {a : Addr} {o : Obj} (N' : News h₀ L s.heap ((a, o) :: (news ++ V.r))) (ne : ∀ p ∈ news ++ V.r, p.1 ≠ a) :
    ∃ V', V.le V' ∧ V'.r = V.r ∧ V'.n = V.n + 1 ∧ V'.ρ V.n = a ∧ V'.ω V.n = o ∧ RepG G V' { σ with nx := σ.nx + 1, heap := (σ.nx, .opq σ.nx) :: σ.heap } h₀ L s m ((a, o) :: news) := by
  have hn : V.n = σ.nx := R.nx
  have e : ((V.mem o).ext a).ω V.n = o := if_pos rfl
  have i2 := ORel.opq (prog := G.prog) (w := G.w) (C := G.C) (V := (V.mem o).ext a) (i := V.n) (Nat.lt_succ_self _)
  rw [e, hn] at i2
  exact ⟨(V.mem o).ext a, Vl.le_trans (V.le_mem o) ((V.mem o).le_ext a), rfl, rfl, (V.mem o).ext_at a, e, (rep_newN (so := .opq σ.nx) (tk := s.toks) (mem_rel o R) R.fr N' ne (fun q => nomatch q) i2).1⟩
theorem opq_out {V : Vl} {h₀ : Heap} {L : Addr} {s : Shared} {m : PySem.Str → Option Value} {news : List (Addr × Obj)} (R : RepG G V σ h₀ L s m news) {i : Nat} (ho : opqAt i σ.heap = true) :
    ∃ news', RepG G V { σ with heap := idel i σ.heap } h₀ L s m news' ∧ (V.ρ i, V.ω i) ∈ news ∧ (∀ p ∈ news', p ∈ news) ∧ ∀ p ∈ news' ++ V.r, p.1 ≠ V.ρ i := by
  refine Classical.byContradiction fun nO => ?_
  refine onO_k ho fun j hg ho => ?_
  have hg := get_k asOpq_ok hg
  rw [← Nat.eq_of_beq_eq_true ho] at hg
  obtain ⟨o, m1, o1, -, -⟩ := hget R.hp hg
  obtain ⟨rfl, -⟩ := ORel.opq' o1
  have nd := R.nd
  rw [List.map_append, List.nodup_append] at nd
  obtain ⟨news', u1, u2, u3⟩ := hdel R.hp hg nd.1
  refine nO ?_
  exact ⟨news', ⟨R.1, R.fr, fun p hp => R.nw p ((List.mem_append.mp hp).elim (fun hp => List.mem_append_left _ (u2.mem hp)) fun hp => List.mem_append_right _ hp), R.lc, u1, ((u2.append_right V.r).map (·.1)).nodup R.nd⟩, m1, fun p hp => u2.mem hp, fun p hp => (List.mem_append.mp hp).elim (u3 p) fun q e => nd.2.2 _ (List.mem_map.mpr ⟨_, m1, rfl⟩) _ (List.mem_map_of_mem q) e.symm⟩
noncomputable def Btw (G : Gv) (Vc : Vl) (mm : PySem.Str → Option Value) (V : Vl) (σ : St) (news : List (Addr × Obj)) : Prop :=
  Vc.le V ∧ V.n = σ.nx ∧ LRel G.C V mm σ.loc ∧ All2 (PRel G.prog G.w G.C V) news σ.heap ∧ ((news ++ V.r).map (·.1)).Nodup
theorem blk_end {Vc V4 : Vl} {n : Nat} {σ' : St} {h₀ : Heap} {L I C D : Addr} {oI oC oD : Obj} {s₁ s4 : Shared} {mm : PySem.Str → Option Value} {news4 : List (Addr × Obj)} {S : List (Addr × Obj) → Prop} {rest : Value → List (Addr × Obj) → Prop} {y : Value} (lc : Vc.le V4) (R4 : RepG G V4 σ' h₀ L s4 mm news4)
    (hD : V4.ρ n = D ∧ V4.ω n = oD) (hC : V4.ρ (n + 1) = C ∧ V4.ω (n + 1) = oC) (hI : V4.ρ (n + 2) = I ∧ V4.ω (n + 2) = oI) (hz : Same V4.z s₁) (ho : out3 n σ'.heap = true)
    (hS : ∀ news', Btw G Vc mm V4 (blkOut n σ') news' → S (news' ++ V4.r) ∧ rest y (news' ++ V4.r)) : LCg.CompEnd h₀ L mm s₁ I oI C oC D oD S rest y s4 := by
  refine Classical.byContradiction fun nO => ?_
  refine and_k ho fun o1 o2 => and_k o2 fun o2 o3 => ?_
  obtain ⟨na, Ra, a1, a2, a3⟩ := opq_out R4 o1
  obtain ⟨nb, Rb, b1, b2, b3⟩ := opq_out Ra o2
  obtain ⟨nc, Rc, c1, c2, c3⟩ := opq_out Rb o3
  refine nO ?_
  rw [hD.1, hD.2] at a1
  rw [hC.1, hC.2] at b1
  rw [hI.1, hI.2] at c1
  rw [hD.1] at a3
  rw [hC.1] at b3
  rw [hI.1] at c3
  rw [Same.eq hz R4.sm]
  have up : ∀ {l l' : List (Addr × Obj)}, (∀ p ∈ l', p ∈ l) → ∀ p ∈ l' ++ V4.r, p ∈ l ++ V4.r := fun h p hp => (List.mem_append.mp hp).elim (fun q => List.mem_append_left _ (h p q)) fun q => List.mem_append_right _ q
  obtain ⟨h1, h2⟩ := hS nc ⟨lc, Rc.nx, Rc.lc, Rc.hp, Rc.nd⟩
  refine LCg.CompEnd.intro (all := news4 ++ V4.r) R4.fr R4.nw (nc ++ V4.r) (fun p hp => ?_) (LCg.Off3.of fun p hp => ⟨c3 p hp, b3 p (up c2 p hp), a3 p (up b2 p (up c2 p hp))⟩) h1 h2
  exact (List.mem_cons.mp hp).elim (fun e => e ▸ List.mem_append_left _ (a2 _ (b2 _ c1))) fun hp => (List.mem_cons.mp hp).elim (fun e => e ▸ List.mem_append_left _ (a2 _ b1)) fun hp => (List.mem_cons.mp hp).elim (fun e => e ▸ List.mem_append_left _ a1) fun hp => up a2 p (up b2 p (up c2 p hp))
theorem blk_begin {V₀ Vc V : Vl} {A : Around} {env : Env} {h₀ : Heap} {L I C D : Addr} {oI oC oD : Obj} {E : Value → Shared → Prop} (fx : Fx G V₀ A env h₀ L sc d E) (hcp : sc.comp = none) {scope : Scope} (hk : scope.kind = .function) {mc : List (PySem.Str × SV)} {cl : List (PySem.Str × Addr)} (hcl : CellsIn Vc cl mc) {x : PySem.Str} {mm m₂ : PySem.Str → Option Value} {s₁ : Shared} {news : List (Addr × Obj)} (hB : Btw G Vc mm V σ news) (hz : Same V.z s₁)
    {v : Value} {xv : SV} (hoC : LCg.NsObj oC m₂) (hmx : m₂ x = some v) (F : Fr h₀ L s₁.heap mm) (N : News h₀ L s₁.heap ((I, oI) :: (C, oC) :: (D, oD) :: (news ++ V.r))) (off : LCg.Off3 I C D (news ++ V.r)) (hne : ((@Ne Nat I C) ∧ (@Ne Nat I D) ∧ (@Ne Nat C D))) (hv : ∀ V', V.le V' → VRel G.C V' v xv) :
    ∃ V3, V.le V3 ∧ RepG G V3 (blkIn σ) h₀ L s₁ mm ((I, oI) :: (C, oC) :: (D, oD) :: news) ∧ (V3.ρ σ.nx = D ∧ V3.ω σ.nx = oD) ∧ (V3.ρ (σ.nx + 1) = C ∧ V3.ω (σ.nx + 1) = oC) ∧ (V3.ρ (σ.nx + 2) = I ∧ V3.ω (σ.nx + 2) = oI) ∧ σ.nx + 2 < V3.n ∧ Fx G V3 A (compEnvC scope cl C env) h₀ L (bsc sc scope mc (σ.nx + 1) x xv) d (fun _ _ => False) := by
  refine Classical.byContradiction fun nO => ?_
  obtain ⟨lc, hn, hl, hr, nd⟩ := hB
  have of := off.mem
  obtain ⟨V1, a1, ar, a2, a3, a4, R1⟩ := opq_in (G := G) (σ := σ) (m := mm) (news := news) (s := s₁) (a := D) (o := oD) ⟨⟨hn, hz⟩, F, fun p hp => N p (.tail _ (.tail _ (.tail _ hp))), hl, hr, nd⟩ (fun p hp => N p (.tail _ (.tail _ hp))) (fun p hp => (of p hp).2.2)
  refine nO ?_
  obtain ⟨V2, b1, br, b2, b3, b4, R2⟩ := opq_in (a := C) (o := oC) R1 (by rw [ar]; exact fun p hp => N p (.tail _ hp)) (fun p hp => by
    rw [ar] at hp
    exact (List.mem_cons.mp hp).elim (fun z => z ▸ fun e => hne.2.2 e.symm) fun hp => (of p hp).2.1)
  obtain ⟨V3, c1, cr, c2, c3, c4, R3⟩ := opq_in (a := I) (o := oI) R2 (by rw [br, ar]; exact N) (fun p hp => by
    rw [br, ar] at hp
    exact (List.mem_cons.mp hp).elim (fun z => z ▸ fun e => hne.1 e.symm) fun hp => (List.mem_cons.mp hp).elim (fun z => z ▸ fun e => hne.2.1 e.symm) fun hp => (of p hp).1)
  have l13 := Vl.le_trans b1 c1
  have l3 := Vl.le_trans a1 l13
  have n1 : V1.n = σ.nx + 1 := by rw [a2, hn]
  have n2 : V2.n = σ.nx + 2 := by rw [b2, n1]
  have lt1 : σ.nx < V1.n := by rw [n1]; exact Nat.lt_succ_self _
  have lt2 : σ.nx + 1 < V2.n := by rw [n2]; exact Nat.lt_succ_self _
  rw [hn] at a3 a4
  rw [n1] at b3 b4
  rw [n2] at c3 c4
  have hC : V3.ρ (σ.nx + 1) = C ∧ V3.ω (σ.nx + 1) = oC := ⟨(c1.2 _ lt2).trans b3, (c1.3 _ lt2).trans b4⟩
  refine ⟨V3, l3, R3, ⟨(l13.2 _ lt1).trans a3, (l13.3 _ lt1).trans a4⟩, hC, ⟨c3, c4⟩, by rw [c2, n2]; exact Nat.lt_succ_self _, ?_⟩
  refine Classical.byContradiction fun nO => ?_
  obtain ⟨cn', sc', ae', ccd', cl', A₀, base, outer, hk', B, hfr, -⟩ := fx.o
  refine nO ?_
  refine ⟨?_, hk, ⟨cn', sc', ae', ccd', cl', A₀, base, outer, hk', B, hfr, fun q => nomatch q⟩, fx.hh, fx.hd, fx.hu, fx.X, (fun _ _ q => nomatch q), fx.T⟩
  refine Classical.byContradiction fun nO => ?_
  obtain ⟨cn, ae, ccd, cl0, rfl⟩ := fx.fn hcp
  refine nO ?_
  have := EnvIs.blk (C := G.C) (V := V3) (L := L) (cn := cn) (sc₀ := sc.sc) (scp := scope) (a := ae) (ccd := ccd) (cl₀ := cl0) (cl := cl) (cs := mc) (i := σ.nx + 1) (x := x) (v := xv) (u := v) (m := m₂) (q := true) (b := false) (tb := none) (CellsIn.up (Vl.le_trans lc l3) hcl) (by rw [c2, n2]; exact Nat.lt_succ_of_lt (Nat.lt_succ_self _)) (by rw [hC.2]; exact hoC) hmx (hv V3 l3)
  rw [hC.1] at this
  exact this
end

section
variable {G : Gv} {self : Ev} {sc : Sc} {d : Nat} {σ : St} {k : Kt}
theorem turnsU {V₀ Vc : Vl} {A : Around} {env : Env} {h₀ : Heap} {L : Addr} {E : Value → Shared → Prop} (hs : Snd G self) (fx : Fx G V₀ A env h₀ L sc d E) (hcp : sc.comp = none) {scope : Scope} (hk : scope.kind = .function) {mc : List (PySem.Str × SV)} {cl : List (PySem.Str × Addr)} (hcl : CellsIn Vc cl mc) {elt : PySem.Expr} {x : PySem.Str} {chk : List (Nat × SO) → Bool} {kk : List SV → St → Bool}
    {S : List (Addr × Obj) → Prop} {P : Nat → Value → Prop} {mm : PySem.Str → Option Value} {s₂ : Shared} (hz : Same Vc.z s₂) {Fin : List Value → List (Addr × Obj) → Prop}
    (hS : ∀ V' hp news', Vc.le V' → chk hp = true → All2 (PRel G.prog G.w G.C V') news' hp → S (news' ++ V'.r))
    (hFin : ∀ V' ys ysv σ' news', kk ys σ' = true → All2 (VRel G.C V') ysv ys → Btw G Vc mm V' σ' news' → Fin ysv (news' ++ V'.r)) :
    ∀ (xs : List SV) (i : Nat) (ys : List SV) (ysv : List Value) (σ : St) (V : Vl) (news : List (Addr × Obj)), Btw G Vc mm V σ news → (∀ j v xv, xs[j]? = some xv → P (i + j) v → ∀ V', Vc.le V' → VRel G.C V' v xv) → turnsS self sc scope mc d none elt x chk kk xs ys σ = true → All2 (VRel G.C V) ysv ys →
      LCg.CompRest G.prog G.w A h₀ L mm env elt x scope cl s₂ S P Fin xs.length i ysv (news ++ V.r) := by
  intro xs
  induction xs with
  | nil => intro i ys ysv σ V news hB hP h hy; exact hFin V ys ysv σ news h hy hB
  | cons xv xs ih =>
    intro i ys ysv σ V news hB hP h hy
    intro v I oI C oC D m₂ h' tk E' hPv hoC hmx F N off hne
    refine Classical.byContradiction fun nO => ?_
    obtain ⟨V3, l3, R3, hD, hC, hI, hlt, fq⟩ := blk_begin fx hcp hk hcl hB (s₁ := { s₂ with heap := h', toks := tk }) (by rw [hB.1.4]; exact hz) hoC hmx F N off hne (fun V' l => hP 0 v xv rfl hPv V' (Vl.le_trans hB.1 l))
    refine nO ?_
    have lc3 := Vl.le_trans hB.1 l3
    refine wpAny_mono (any_X (hs (bsc sc scope mc (σ.nx + 1) x xv) d (.ex elt) _ _ h V3 A _ h₀ L _ fq PassesOwn.never V3 _ mm _ (Vl.le_refl V3) R3 _ (ends_v fun V4 y y' σ' s4 news4 l4 hk4 hy4 R4 => ?_))) (fun _ _ z => z) fun _ _ z => z.elim
    refine and_k hk4 fun ho hk4 => and_k hk4 fun hc hk4 => ?_
    have lc4 := Vl.le_trans lc3 l4
    have at4 : ∀ {j : Nat} {a : Addr} {o : Obj}, j ≤ σ.nx + 2 → V3.ρ j = a ∧ V3.ω j = o → V4.ρ j = a ∧ V4.ω j = o := fun hj e => ⟨(l4.2 _ (Nat.lt_of_le_of_lt hj hlt)).trans e.1, (l4.3 _ (Nat.lt_of_le_of_lt hj hlt)).trans e.2⟩
    refine blk_end lc4 R4 (at4 (Nat.le_add_right _ _) hD) (at4 (Nat.le_succ _) hC) (at4 (Nat.le_refl _) hI) (by rw [lc4.4]; exact hz) ho fun news' hB' => ⟨hS V4 _ news' lc4 hc hB'.2.2.2.1, ?_⟩
    exact ih (i + 1) (ys ++ [y']) (ysv ++ [y]) _ V4 news' hB' (fun j v' xv' e p => hP (j + 1) v' xv' e (by rw [show i + (j + 1) = i + 1 + j by (first | lia | omega)]; exact p)) hk4 ((VsRel.up (Vl.le_trans l3 l4) hy).app (.cons hy4 .nil))
theorem turnsT {V₀ Vc : Vl} {A : Around} {env : Env} {h₀ : Heap} {L : Addr} {E : Value → Shared → Prop} (hs : Snd G self) (fx : Fx G V₀ A env h₀ L sc d E) (hcp : sc.comp = none) {scope : Scope} (hk : scope.kind = .function) {mc : List (PySem.Str × SV)} {cl : List (PySem.Str × Addr)} (hcl : CellsIn Vc cl mc) {ct elt : PySem.Expr} {x : PySem.Str} {chk : List (Nat × SO) → Bool} {kk : List SV → St → Bool}
    {S : List (Addr × Obj) → Prop} {P : Nat → Value → Prop} {mm : PySem.Str → Option Value} {s₂ : Shared} (hz : Same Vc.z s₂) {Fin : List Value → List (Addr × Obj) → Prop}
    (hS : ∀ V' hp news', Vc.le V' → chk hp = true → All2 (PRel G.prog G.w G.C V') news' hp → S (news' ++ V'.r))
    (hFin : ∀ V' ys ysv σ' news', kk ys σ' = true → All2 (VRel G.C V') ysv ys → Btw G Vc mm V' σ' news' → Fin ysv (news' ++ V'.r)) :
    ∀ (xs : List SV) (i : Nat) (ys : List SV) (ysv : List Value) (σ : St) (V : Vl) (news : List (Addr × Obj)), Btw G Vc mm V σ news → (∀ j v xv, xs[j]? = some xv → P (i + j) v → ∀ V', Vc.le V' → VRel G.C V' v xv) → turnsS self sc scope mc d (some ct) elt x chk kk xs ys σ = true → All2 (VRel G.C V) ysv ys →
      LCt.CompRestT G.prog G.w A h₀ L mm env ct elt x scope cl s₂ S P Fin xs.length i ysv (news ++ V.r) := by
  intro xs
  induction xs with
  | nil => intro i ys ysv σ V news hB hP h hy; exact hFin V ys ysv σ news h hy hB
  | cons xv xs ih =>
    intro i ys ysv σ V news hB hP h hy
    intro v I oI C oC D m₂ h' tk E' hPv hoC hmx F N off hne
    refine Classical.byContradiction fun nO => ?_
    obtain ⟨V3, l3, R3, hD, hC, hI, hlt, fq⟩ := blk_begin fx hcp hk hcl hB (s₁ := { s₂ with heap := h', toks := tk }) (by rw [hB.1.4]; exact hz) hoC hmx F N off hne (fun V' l => hP 0 v xv rfl hPv V' (Vl.le_trans hB.1 l))
    refine nO ?_
    have lc3 := Vl.le_trans hB.1 l3
    have nxt : ∀ j v' xv', xs[j]? = some xv' → P (i + 1 + j) v' → ∀ V', Vc.le V' → VRel G.C V' v' xv' := fun j v' xv' e p => hP (j + 1) v' xv' e (by rw [show i + (j + 1) = i + 1 + j by (first | lia | omega)]; exact p)
    have fin : ∀ {V4 : Vl} {σ' : St} {s4 : Shared} {news4 : List (Addr × Obj)} {rest : Value → List (Addr × Obj) → Prop} {y : Value}, V3.le V4 → RepG G V4 σ' h₀ L s4 mm news4 → out3 σ.nx σ'.heap = true → chk (blkOut σ.nx σ').heap = true → (∀ news', Btw G Vc mm V4 (blkOut σ.nx σ') news' → rest y (news' ++ V4.r)) → LCg.CompEnd h₀ L mm { s₂ with heap := h', toks := tk } I oI C oC D (LCg.lst ysv) S rest y s4 := by
      intro V4 σ' s4 news4 rest y l4 R4 ho hc hr
      have lc4 := Vl.le_trans lc3 l4
      have at4 : ∀ {j : Nat} {a : Addr} {o : Obj}, j ≤ σ.nx + 2 → V3.ρ j = a ∧ V3.ω j = o → V4.ρ j = a ∧ V4.ω j = o := fun hj e => ⟨(l4.2 _ (Nat.lt_of_le_of_lt hj hlt)).trans e.1, (l4.3 _ (Nat.lt_of_le_of_lt hj hlt)).trans e.2⟩
      exact blk_end lc4 R4 (at4 (Nat.le_add_right _ _) hD) (at4 (Nat.le_succ _) hC) (at4 (Nat.le_refl _) hI) (by rw [lc4.4]; exact hz) ho fun news' hB' => ⟨hS V4 _ news' lc4 hc hB'.2.2.2.1, hr news' hB'⟩
    refine wpAny_mono (any_X (hs (bsc sc scope mc (σ.nx + 1) x xv) d (.tst ct) _ _ h V3 A _ h₀ L _ fq PassesOwn.never V3 _ mm _ (Vl.le_refl V3) R3 _ (ends_b fun V5 b σ₁ s5 news5 l5 hk5 R5 => ?_))) (fun _ _ z => z) fun _ _ z => z.elim
    cases b with
    | true =>
      rw [if_pos rfl]
      refine wpAny_mono (any_X (hs (bsc sc scope mc (σ.nx + 1) x xv) d (.ex elt) _ _ hk5 V3 A _ h₀ L _ fq PassesOwn.never V5 _ mm _ l5 R5 _ (ends_v fun V4 y y' σ' s4 news4 l4 hk4 hy4 R4 => ?_))) (fun _ _ z => z) fun _ _ z => z.elim
      refine and_k hk4 fun ho hk4 => and_k hk4 fun hc hk4 => ?_
      exact fin (Vl.le_trans l5 l4) R4 ho hc fun news' hB' => ih (i + 1) (ys ++ [y']) (ysv ++ [y]) _ V4 news' hB' nxt hk4 ((VsRel.up (Vl.le_trans l3 (Vl.le_trans l5 l4)) hy).app (.cons hy4 .nil))
    | false =>
      rw [if_neg Bool.false_ne_true]
      refine and_k hk5 fun ho hk5 => and_k hk5 fun hc hk5 => ?_
      exact fin l5 R5 ho hc fun news' hB' => ih (i + 1) ys ysv _ V5 news' hB' nxt hk5 (VsRel.up (Vl.le_trans l3 l5) hy)
theorem hre {prog : Program} {w : PySem.World} {C : Cs} {V : Vl} {i : Nat} {so : SO} {news : List (Addr × Obj)} {hp : List (Nat × SO)} (h : All2 (PRel prog w C V) news hp) (e : iget i hp = some so) :
    ∃ o, (V.ρ i, o) ∈ news ∧ ORel prog w C V o so ∧ ∀ V' so', V.le V' → isI so' = isI so → ORel prog w C V' o so' → All2 (PRel prog w C V') news (iset i so' hp) := by
  induction h with
  | nil => exact no_o e
  | @cons p q ps qs h1 r ih =>
    refine iget_cons e (fun e1 e2 q1 => ?_) fun q1 e => ?_
    · obtain ⟨hl, ha, ho, hm⟩ := h1
      subst e1 e2
      refine ⟨p.2, by rw [← ha]; exact .head _, ho, fun V' so' l hI ho' => ?_⟩
      rw [iset_at q1]
      exact .cons ⟨Nat.lt_of_lt_of_le hl l.1, ha.trans (l.2 _ hl).symm, ho', fun z => hm (hI ▸ z)⟩ (r.imp fun _ _ => PRel.up l)
    · obtain ⟨o, k0, k1, k2⟩ := ih e
      refine ⟨o, .tail _ k0, k1, fun V' so' l hI ho => ?_⟩
      rw [iset_off q1]
      exact .cons (h1.up l) (k2 V' so' l hI ho)
theorem chk_at {V V' : Vl} {i j : Nat} {so so' : SO} {hp : List (Nat × SO)} {news : List (Addr × Obj)} (hg : iget i hp = some so') (hI : isI so' = isI so) (hu : ∀ o, ORel G.prog G.w G.C V' o so' → o = V'.ω j) (hr : All2 (PRel G.prog G.w G.C V') news hp) (l : V.le V') (hi : i < V.n) (hj : j < V.n) (ho : ORel G.prog G.w G.C V (V.ω j) so) :
    (V.ρ i, V.ω j) ∈ news ∧ All2 (PRel G.prog G.w G.C V') news (iset i so hp) := by
  refine Classical.byContradiction fun nO => ?_
  obtain ⟨o, h1, h2, h3⟩ := hre hr hg
  obtain rfl := hu o h2
  refine nO ?_
  rw [l.2 _ hi, l.3 _ hj] at h1
  exact ⟨h1, h3 V' so V'.le_refl hI.symm (l.3 _ hj ▸ ho.up l)⟩
theorem comp_fin {V Vc V' : Vl} {h₀ : Heap} {L : Addr} {s₂ : Shared} {mm : PySem.Str → Option Value} {news' : List (Addr × Obj)} {ys : List SV} {ysv : List Value} {hp : List (Nat × SO)} {σ' : St} {Q : Value → Shared → Prop} (hQ : Ends G V h₀ L mm (RV G.C) k Q) (lv : V.le Vc) (hB : Btw G Vc mm V' σ' news') (hy : All2 (VRel G.C V') ysv ys) (hz : Same Vc.z s₂)
    (hr : All2 (PRel G.prog G.w G.C V') news' hp) (h : newO { σ' with heap := hp } (.list ys) k = true) : LCg.FinE h₀ L mm s₂ Q ysv (news' ++ V'.r) := by
  refine Classical.byContradiction fun nO => ?_
  obtain ⟨lc, hn, hl, -, nd⟩ := hB
  refine nO ?_
  intro D g tk F N off
  have of : ∀ {l : List (Addr × Obj)}, LCg.Off1 D l → ∀ p ∈ l, p.1 ≠ D := by
    intro l
    induction l with
    | nil => exact fun _ _ h => nomatch h
    | cons a r ih => exact fun h p hp => (List.mem_cons.mp hp).elim (fun e => e ▸ h.1) (ih h.2 p)
  have R : RepG G V' { σ' with heap := hp } h₀ L { s₂ with heap := g, toks := tk } mm news' := ⟨⟨hn, by rw [lc.4]; exact hz⟩, F, fun p hp => N p (.tail _ hp), hl, hr, nd⟩
  exact rep_newVN (hQ.up (Vl.le_trans lv lc)) R (so := .list ys) F N (of off) (fun q => nomatch q) (.list (VsRel.up (V'.le_ext D) hy)) h
end

section
variable {G : Gv} {self : Ev} {sc : Sc} {d : Nat} {σ : St} {k : Kt}
noncomputable def blkOk (scope : Scope) (x : PySem.Str) : Bool := scope.names.all (fun y => decide (y.2 ≠ .cell)) && (decide (scope.kind = .function) && (scope.names.all (fun y => decide (y.2 = .local → scope.names.lookup y.1 = some .local)) && decide (scope.names.lookup x = some .local)))
noncomputable def opqIs (i j : Nat) (hp : List (Nat × SO)) : Bool := onO (obind (iget i hp) asOpq) fun j' => Nat.beq j j'
noncomputable def idfIs (i j : Nat) (hp : List (Nat × SO)) : Bool := onO (obind (iget i hp) asIdF) fun q => Nat.beq j q.2
noncomputable def frzd (σ : St) (i : Nat) (so : SO) : St := { σ with nx := σ.nx + 1, heap := iset i so σ.heap }
noncomputable def thaw (i : Nat) (so : SO) (chk : List (Nat × SO) → Bool) (k : Kt) (ys : List SV) (σ : St) : Bool := chk σ.heap && newO { σ with heap := iset i so σ.heap } (.list ys) k
section
variable (self : Ev) (sc : Sc) (scope : Scope) (m : List (PySem.Str × SV)) (d : Nat) (elt : PySem.Expr) (x : PySem.Str) (i : Nat) (σ : St) (k : Kt)
noncomputable def compL (ct : Option PySem.Expr) (e : Bool) : Bool := hpList σ i (fun vs => decide (vs.length ≤ 1000) && turnsS self sc scope m d ct elt x (opqIs i σ.nx) (thaw i (.list vs) (opqIs i σ.nx) k) vs [] (frzd σ i (.opq σ.nx))) e
noncomputable def compD : Bool := hpId σ i (fun ks => decide (ks.length ≤ 1000) && turnsS self sc scope m d none elt x (idfIs i σ.nx) (thaw i (.idict ks) (idfIs i σ.nx) k) (ks.map fun q => .int (.lit q.1)) [] (frzd σ i (.idictF ks σ.nx))) false
noncomputable def compR : Bool := hpRgo σ i (fun n => decide (0 ≤ n ∧ n ≤ 1000) && turnsS self sc scope m d none elt x (fun _ => true) (fun ys σ' => newO σ' (.list ys) k) ((List.range n.toNat).map fun i : Nat => SV.int (.lit (i : Int))) [] σ) false
end
noncomputable def compS (self : Ev) (sc : Sc) (d : Nat) (elt : PySem.Expr) (gs : List Comprehension) (scope : Scope) (σ : St) (k : Kt) : Bool := onO (oneL gs) fun g => onO (exName g.target) fun nm => decide (g.is_async = 0) && noneO sc.comp (onO (closE sc.cells scope.names []) fun m => setLess g.iter && (blkOk scope nm.1 && List.rec (orB (self sc.any d (.ex g.iter) σ (kv fun v σ₁ => onRef v fun i => compL self sc scope m d elt nm.1 i σ₁ k none (compR self sc scope m d elt nm.1 i σ₁ k))) true (self sc.any d (.ex g.iter) σ (kv fun v σ₁ => onRef v fun i => compD self sc scope m d elt nm.1 i σ₁ k))) (fun ct r _ => r.isEmpty && self sc.any d (.ex g.iter) σ (kv fun v σ₁ => onRef v fun i => compL self sc scope m d elt nm.1 i σ₁ k (some ct) false)) g.ifs))
theorem frz_ok {V : Vl} {h₀ : Heap} {L : Addr} {s : Shared} {mm : PySem.Str → Option Value} {news : List (Addr × Obj)} (R : RepG G V σ h₀ L s mm news) {i : Nat} {so so' : SO} (hg : iget i σ.heap = some so) (hI : isI so' = isI so) (hf : ∀ V' o, ORel G.prog G.w G.C V' o so → σ.nx < V'.n → V'.ω σ.nx = o → ORel G.prog G.w G.C V' o so') :
    ∃ Vc : Vl, V.le Vc ∧ Vc.r = V.r ∧ (V.ρ i, Vc.ω σ.nx) ∈ news ∧ ORel G.prog G.w G.C V (Vc.ω σ.nx) so ∧ (isI so = true → (V.ρ i == sysModules) = false) ∧ Btw G Vc mm Vc (frzd σ i so') news ∧ ∀ V' hp news', Vc.le V' → (∃ so'', iget i hp = some so'' ∧ isI so'' = isI so ∧ ∀ o, ORel G.prog G.w G.C V' o so'' → o = V'.ω σ.nx) → All2 (PRel G.prog G.w G.C V') news' hp → (V.ρ i, Vc.ω σ.nx) ∈ news' ∧ All2 (PRel G.prog G.w G.C V') news' (iset i so hp) := by
  refine Classical.byContradiction fun nO => ?_
  obtain ⟨o, h1, h2, h3⟩ := hre R.hp hg
  obtain ⟨-, -, -, h4, h5⟩ := hget R.hp hg
  refine nO ?_
  have hn := R.nx
  have l : V.le ((V.mem o).ext 0) := Vl.le_trans (V.le_mem o) ((V.mem o).le_ext 0)
  have e : ((V.mem o).ext 0).ω σ.nx = o := if_pos hn.symm
  have lt : σ.nx < ((V.mem o).ext 0).n := by show σ.nx < V.n + 1; rw [hn]; exact Nat.lt_succ_self _
  refine ⟨(V.mem o).ext 0, l, rfl, by rw [e]; exact h1, by rw [e]; exact h2, h4, ⟨Vl.le_refl _, congrArg (· + 1) hn, R.lc.up l, h3 _ _ l hI (hf _ o (h2.up l) lt e), R.nd⟩, fun V' hp news' l' hso hr => ?_⟩
  refine Classical.byContradiction fun nO => ?_
  obtain ⟨so'', g1, g2, g3⟩ := hso
  refine nO ?_
  have := chk_at g1 g2 g3 hr l' (Nat.lt_of_lt_of_le h5 l.1) lt (by rw [e]; exact h2.up l)
  rwa [l.2 _ h5] at this
section
variable {V₀ V : Vl} {A : Around} {env : Env} {h₀ : Heap} {L : Addr} {E : Value → Shared → Prop} {s : Shared} {mm : PySem.Str → Option Value} {news : List (Addr × Obj)} {scope : Scope} {mc : List (PySem.Str × SV)} {cl : List (PySem.Str × Addr)} {elt : PySem.Expr} {x : PySem.Str} {Q : Value → Shared → Prop}
theorem frzL (R : RepG G V σ h₀ L s mm news) {i : Nat} {vs : List SV} (hg : iget i σ.heap = some (.list vs)) :
    ∃ (Vc : Vl) (us : List Value) (n : Nat), V.le Vc ∧ Vc.r = V.r ∧ (V.ρ i, listOf us.toArray n) ∈ news ∧ All2 (VRel G.C Vc) us vs ∧ Btw G Vc mm Vc (frzd σ i (.opq σ.nx)) news ∧ ∀ V' hp news', Vc.le V' → opqIs i σ.nx hp = true → All2 (PRel G.prog G.w G.C V') news' hp → (V.ρ i, listOf us.toArray n) ∈ news' ∧ All2 (PRel G.prog G.w G.C V') news' (iset i (.list vs) hp) := by
  refine Classical.byContradiction fun nO => ?_
  obtain ⟨Vc, lv, hrr, hm, ho, -, hB, hK⟩ := frz_ok R hg (so' := .opq σ.nx) rfl fun V' o _ lt e => e ▸ .opq lt
  obtain ⟨us, n, e, hu⟩ := ORel.list' ho
  refine nO ?_
  rw [e] at hm hK
  exact ⟨Vc, us, n, lv, hrr, hm, VsRel.up lv hu, hB, fun V' hp news' l hc hr => hK V' hp news' l (onO_k hc fun j hj hc => ⟨_, get_k asOpq_ok hj, rfl, fun o q => by rw [Nat.eq_of_beq_eq_true hc]; exact (ORel.opq' q).1⟩) hr⟩
theorem at_j {us : List Value} {vs : List SV} {V : Vl} (hu : All2 (VRel G.C V) us vs) {j : Nat} {v : Value} {xv : SV} (e : vs[j]? = some xv) (p : us.toArray[0 + j]? = some v) : VRel G.C V v xv := by
  obtain ⟨y, y1, y2⟩ := all2_get hu e
  rw [Nat.zero_add, List.getElem?_toArray, y1] at p
  exact Option.some.inj p ▸ y2
theorem compL_U (hs : Snd G self) (fx : Fx G V₀ A env h₀ L sc d E) (hcp : sc.comp = none) (hk : scope.kind = .function) (hcl : CellsIn V₀ cl mc) (l₀ : V₀.le V) (R : RepG G V σ h₀ L s mm news) {i : Nat} {vs : List SV} (hg : iget i σ.heap = some (.list vs)) (hl : vs.length ≤ 1000) (h : turnsS self sc scope mc d none elt x (opqIs i σ.nx) (thaw i (.list vs) (opqIs i σ.nx) k) vs [] (frzd σ i (.opq σ.nx)) = true) (hQ : Ends G V h₀ L mm (RV G.C) k Q) :
    LCg.CompSrc G.prog G.w A h₀ L mm env elt x scope cl (fun s₂ => LCg.FinE h₀ L mm s₂ Q) (.ref (V.ρ i)) s := by
  refine Classical.byContradiction fun nO => ?_
  obtain ⟨Vc, us, n, lv, hrr, hm, hu, hB, hK⟩ := frzL R hg
  refine nO ?_
  have hz : Same Vc.z s := by rw [lv.4]; exact R.sm
  have hsz : us.toArray.size = vs.length := hu.len
  refine LCg.CompSrc.ledger (k := n) fx.hh R.fr R.nw (List.mem_append_left _ hm) (by rw [hsz, sizeLine_eq]; (first | lia | omega)) fun g => ?_
  rw [hsz, ← hrr]
  exact turnsU hs fx hcp hk (CellsIn.up (Vl.le_trans l₀ lv) hcl) (by exact hz) (fun V' hp news' l hc hr => by exact .inr ⟨_, List.mem_append_left _ (hK V' hp news' l hc hr).1, rfl, _, rfl⟩) (fun V' ys ysv σ' news' hkk hy hB' => and_k hkk fun hc hkk => comp_fin hQ lv hB' hy (by exact hz) (hK V' _ news' hB'.1 hc hB'.2.2.2.1).2 hkk) vs 0 [] [] _ Vc news hB (fun j v xv e p V' l => by exact (at_j hu e p).up l) h .nil
theorem compL_T (hs : Snd G self) (fx : Fx G V₀ A env h₀ L sc d E) (hcp : sc.comp = none) (hk : scope.kind = .function) (hcl : CellsIn V₀ cl mc) (l₀ : V₀.le V) (R : RepG G V σ h₀ L s mm news) {i : Nat} {ct : PySem.Expr} {vs : List SV} (hg : iget i σ.heap = some (.list vs)) (hl : vs.length ≤ 1000) (h : turnsS self sc scope mc d (some ct) elt x (opqIs i σ.nx) (thaw i (.list vs) (opqIs i σ.nx) k) vs [] (frzd σ i (.opq σ.nx)) = true) (hQ : Ends G V h₀ L mm (RV G.C) k Q) :
    LCt.CompSrcT G.prog G.w A h₀ L mm env ct elt x scope cl (fun s₂ => LCg.FinE h₀ L mm s₂ Q) (.ref (V.ρ i)) s := by
  refine Classical.byContradiction fun nO => ?_
  obtain ⟨Vc, us, n, lv, hrr, hm, hu, hB, hK⟩ := frzL R hg
  refine nO ?_
  have hz : Same Vc.z s := by rw [lv.4]; exact R.sm
  have hsz : us.toArray.size = vs.length := hu.len
  refine LCt.CompSrcT.ledger (k := n) fx.hh R.fr R.nw (List.mem_append_left _ hm) (by rw [hsz, sizeLine_eq]; (first | lia | omega)) fun g => ?_
  rw [hsz, ← hrr]
  exact turnsT hs fx hcp hk (CellsIn.up (Vl.le_trans l₀ lv) hcl) (by exact hz) (fun V' hp news' l hc hr => by exact .inr ⟨_, List.mem_append_left _ (hK V' hp news' l hc hr).1, rfl, _, rfl⟩) (fun V' ys ysv σ' news' hkk hy hB' => and_k hkk fun hc hkk => comp_fin hQ lv hB' hy (by exact hz) (hK V' _ news' hB'.1 hc hB'.2.2.2.1).2 hkk) vs 0 [] [] _ Vc news hB (fun j v xv e p V' l => by exact (at_j hu e p).up l) h .nil
theorem compD_U (hs : Snd G self) (fx : Fx G V₀ A env h₀ L sc d E) (hcp : sc.comp = none) (hk : scope.kind = .function) (hcl : CellsIn V₀ cl mc) (l₀ : V₀.le V) (R : RepG G V σ h₀ L s mm news) {i : Nat} (h : compD self sc scope mc d elt x i σ k = true) (hQ : Ends G V h₀ L mm (RV G.C) k Q) :
    CompSrcD G.prog G.w A h₀ L mm env elt x scope cl (fun s₂ => LCg.FinE h₀ L mm s₂ Q) (.ref (V.ρ i)) s := by
  refine hpId_e h (fun ks hg h => dec_k h fun hl h => ?_) no_k
  obtain ⟨Vc, lv, hrr, hm, ho, hs', hB, hK⟩ := frz_ok R hg (so' := .idictF ks σ.nx) rfl fun V' o ho lt e => by
    obtain ⟨kvs, h1, h2⟩ := ORel.idict' ho
    subst e; exact .idictF lt h1 h2
  obtain ⟨kvs, hd, hks⟩ := ORel.idict' ho
  have hz : Same Vc.z s := by rw [lv.4]; exact R.sm
  have hlen := hks.len
  refine CompSrcD.intro fx.hh R.fr R.nw (List.mem_append_left _ hm) hd (hs' rfl) (by rw [sizeLine_eq]; (first | lia | omega)) fun g => ?_
  rw [show kvs.length = (ks.map fun q => SV.int (.lit q.1)).length by rw [List.length_map, hlen], ← hrr]
  have key : ∀ V' hp news', Vc.le V' → idfIs i σ.nx hp = true → All2 (PRel G.prog G.w G.C V') news' hp → (V.ρ i, Vc.ω σ.nx) ∈ news' ∧ All2 (PRel G.prog G.w G.C V') news' (iset i (.idict ks) hp) := fun V' hp news' l hc hr => hK V' hp news' l (onO_k hc fun j hj hc => ⟨_, get_k asIdF_ok hj, rfl, fun o q => by
    obtain ⟨_, q, -⟩ := ORel.idictF' q
    rw [Nat.eq_of_beq_eq_true hc]; exact q⟩) hr
  refine turnsU hs fx hcp hk (CellsIn.up (Vl.le_trans l₀ lv) hcl) (by exact hz) (fun V' hp news' l hc hr => by exact List.mem_append_left _ (key V' hp news' l hc hr).1) (fun V' ys ysv σ' news' hkk hy hB' => and_k hkk fun hc hkk => comp_fin hQ lv hB' hy (by exact hz) (key V' _ news' hB'.1 hc hB'.2.2.2.1).2 hkk) _ 0 [] [] _ Vc news hB (fun j v xv e' p V' l => ?_) h .nil
  refine Classical.byContradiction fun nO => ?_
  obtain ⟨t, rfl⟩ := p
  rw [List.getElem?_map] at e'
  obtain ⟨q, q1, rfl⟩ := Option.map_eq_some_iff.mp e'
  obtain ⟨y, y1, y2⟩ := all2_get hks q1
  refine nO ?_
  refine .int _ ?_
  show (kvs.map (·.1)).getD (0 + j) 0 = q.1
  rw [Nat.zero_add, List.getD_eq_getElem?_getD, List.getElem?_map, y1]
  exact y2.1
theorem compR_U (hs : Snd G self) (fx : Fx G V₀ A env h₀ L sc d E) (hcp : sc.comp = none) (hk : scope.kind = .function) (hcl : CellsIn V₀ cl mc) (l₀ : V₀.le V) (R : RepG G V σ h₀ L s mm news) {i : Nat} (h : compR self sc scope mc d elt x i σ k = true) (hQ : Ends G V h₀ L mm (RV G.C) k Q) :
    LCg.CompSrc G.prog G.w A h₀ L mm env elt x scope cl (fun s₂ => LCg.FinE h₀ L mm s₂ Q) (.ref (V.ρ i)) s := by
  refine Classical.byContradiction fun nO => hpRgo_e h (fun n hg h => dec_k h fun c h => RAt R hg fun o m1 o1 _ => nO ?_) no_k
  refine Classical.byContradiction fun nO => ?_
  obtain ⟨t, u, v, rfl⟩ := ORel.rgo' o1
  obtain ⟨e1, e2⟩ := range_size c.1 c.2
  refine nO ?_
  refine LCg.CompSrc.range (n := n.toNat) fx.hh R.fr R.nw (R.nw _ m1).1 e2 (by rw [e1]; (first | lia | omega)) (by rw [sizeLine_eq]; (first | lia | omega)) fun g => ?_
  have hsz' : n.toNat = ((List.range n.toNat).map fun i : Nat => SV.int (.lit (i : Int))).length := by rw [List.length_map, List.length_range]
  rw [hsz']
  refine turnsU hs fx hcp hk (CellsIn.up l₀ hcl) (by exact R.sm) (fun V' hp news' l hc hr => by exact trivial) (fun V' ys ysv σ' news' hkk hy hB' => comp_fin hQ V.le_refl hB' hy (by exact R.sm) hB'.2.2.2.1 hkk) _ 0 [] [] _ V news ⟨V.le_refl, R.nx, R.lc, R.2.2.2.2⟩ (fun j v xv e p V' l => ?_) h .nil
  refine Classical.byContradiction fun nO => ?_
  obtain ⟨t, rfl⟩ := p
  rw [List.getElem?_map] at e
  obtain ⟨q, q1, rfl⟩ := Option.map_eq_some_iff.mp e
  obtain ⟨_, q2⟩ := List.getElem?_eq_some_iff.mp q1
  refine nO ?_
  rw [List.getElem_range] at q2
  refine .int _ ?_
  show (0 : Int) + ((0 + j : Nat) : Int) = (q : Int)
  rw [Int.zero_add, Nat.zero_add, q2]
end
theorem blkOk_ok {scope : Scope} {x : PySem.Str} (h : blkOk scope x = true) : (∀ y ∈ scope.names, y.2 ≠ .cell) ∧ scope.kind = .function ∧ (∀ y ∈ scope.names, y.2 = .local → scope.names.lookup y.1 = some .local) ∧ scope.names.lookup x = some .local :=
  and_k h fun h1 h => dec_k h fun h2 h => and_k h fun h3 h4 => ⟨fun y hy => of_decide_eq_true (List.all_eq_true.mp h1 y hy), h2, fun y hy => of_decide_eq_true (List.all_eq_true.mp h3 y hy), of_decide_eq_true h4⟩
theorem comp_eta {g : Comprehension} {t : PySem.Expr} {a : Int} (h : g.target = t) (h' : g.is_async = a) : g = ⟨t, g.iter, g.ifs, a⟩ := by
  cases g
  subst h; subst h'; rfl
theorem comp_sound (hs : Snd G self) {elt : PySem.Expr} {gs : List Comprehension} {scope : Scope} {pos : Pos} (h : compS self sc d elt gs scope σ k = true) : Hold G sc d (.ex (.ListComp elt gs scope pos)) σ k := by
  intro V₀ A env h₀ L E fx po V s m news hV R Q hQ
  refine wpX_any (onO_k h fun g hgs h => onO_k h fun nm hnm h => dec_k h fun h0 h => noneO_k h fun hcp h => onO_k h fun mc hc h => and_k h fun hb h => and_k h fun hb' hJ => ?_)
  clear h
  refine Classical.byContradiction fun nO => ?_
  obtain ⟨b1, b2, b3, b4⟩ := blkOk_ok hb'
  obtain ⟨-, -, -, ec⟩ := fx.e.its
  obtain ⟨cl, c1, c2⟩ := closure_ok ec hc
  refine nO ?_
  rw [oneL_ok hgs, comp_eta (exName_ok hnm) h0]
  generalize g.ifs = cts at hJ ⊢
  cases cts with
  | nil =>
    refine orB_k hJ (fun h _ => ?_) fun _ h => ?_
    · refine LCg.ListComp_U (F₀ := R.fr) c1 b1 b2 b3 b4 (Sc.of <| hs sc.any d _ σ _ h V₀ A env h₀ L E fx.any po V s m news hV R _ (ends_v fun V' v x' σ' s' news' l hk hv R' => ?_)) (folded_no hb)
      apply onRef_k hk hv; intro i hi hk
      exact hpList_e hk (fun vs hg h => dec_k h fun hl h => compL_U hs fx hcp b2 c2 (Vl.le_trans hV l) R' hg hl h (hQ.up l)) fun h => compR_U hs fx hcp b2 c2 (Vl.le_trans hV l) R' h (hQ.up l)
    · refine ListComp_D (F₀ := R.fr) c1 b1 b2 b3 b4 (Sc.of <| hs sc.any d _ σ _ h V₀ A env h₀ L E fx.any po V s m news hV R _ (ends_v fun V' v x' σ' s' news' l hk hv R' => ?_)) (folded_no hb)
      apply onRef_k hk hv; intro i hi hk
      exact compD_U hs fx hcp b2 c2 (Vl.le_trans hV l) R' hk (hQ.up l)
  | cons ct r =>
    refine and_k hJ fun hr h => ?_
    rw [List.isEmpty_iff.mp hr]
    refine LCt.ListComp_T (F₀ := R.fr) c1 b1 b2 b3 b4 (Sc.of <| hs sc.any d _ σ _ h V₀ A env h₀ L E fx.any po V s m news hV R _ (ends_v fun V' v x' σ' s' news' l hk hv R' => ?_)) (folded_no hb)
    apply onRef_k hk hv; intro i hi hk
    exact hpList_e hk (fun vs hg h => dec_k h fun hl h => compL_T hs fx hcp b2 c2 (Vl.le_trans hV l) R' hg hl h (hQ.up l)) no_k
end

section
variable {G : Gv} {self : Ev} {sc : Sc} {d : Nat} {σ : St} {k : Kt}
theorem bLit {C : Cs} {b : Array UInt8} {sb : SB} {l : List SI} (h : BRel C b sb) (e : sb = .lit l) : All2 (IRel C) (KBw.bInts b) l := by subst e; exact h
noncomputable def loLen (c : Cfg) (b : SB) : Option Int := opO (lenB c b) (loI c.bd)
theorem loLen_ok {b : Array UInt8} {sb : SB} {z : Int} (hb : BRel G.C b sb) (h : loLen G.cf sb = some z) : z ≤ ((KBw.bInts b).length : Int) ∧ (KBw.bInts b).length ≤ 1000 := opO_k h fun _ hx h => ⟨loI_ok (lenB_ok hb hx).1 h, (lenB_ok hb hx).2⟩
noncomputable def inLen (c : Cfg) (b : SB) (n : Int) : Bool := onO (loLen c b) fun lo => decide (0 ≤ n) && decide (n < lo)
theorem inLen_ok {b : Array UInt8} {sb : SB} {n : Int} (hb : BRel G.C b sb) (h : inLen G.cf sb n = true) : 0 ≤ n ∧ n < ((KBw.bInts b).length : Int) ∧ (KBw.bInts b).length ≤ 1000 := onO_k h fun _ hl h => dec_k h fun h1 h2 => ⟨h1, Int.lt_of_lt_of_le (of_decide_eq_true h2) (loLen_ok hb hl).1, (loLen_ok hb hl).2⟩
noncomputable def byI (c : Cfg) (b : SB) (n : Int) : Option SI := opB (inLen c b n) (orP (opO (sbL b) fun l => l[n.toNat]?) (some (.rng 0 255)))
theorem bInts_in {b : Array UInt8} {k : Int} (h : k ∈ KBw.bInts b) : 0 ≤ k ∧ k ≤ 255 := by
  have := KBw.ints_in h
  (first | lia | omega)
theorem byI_ok {b : Array UInt8} {sb : SB} {n : Int} {x : SI} (hb : BRel G.C b sb) (h : byI G.cf sb n = some x) : ∃ c, (if 0 ≤ n then (KBw.bInts b)[n.toNat]? else none) = some c ∧ IRel G.C c x ∧ (KBw.bInts b).length ≤ 1000 := by
  refine Classical.byContradiction fun nO => ?_
  refine opB_k h fun hl h => ?_
  obtain ⟨q1, q2, q3⟩ := inLen_ok hb hl
  refine nO ?_
  rw [if_pos q1]
  refine orP_k h (fun h => opO_k h fun l hb' h => ?_) fun h => ?_
  · obtain ⟨c, c1, c2⟩ := all2_get (bLit hb (sbL_ok hb')) h
    exact ⟨c, c1, c2, q3⟩
  · rw [← Option.some.inj h]
    have lt : n.toNat < (KBw.bInts b).length := by (first | lia | omega)
    exact ⟨_, List.getElem?_eq_getElem lt, bInts_in (List.getElem_mem lt), q3⟩
noncomputable def sub2 (c : Cfg) (a b : SV) (σ : St) : Option SV := orP (opO (svBy a) fun sb => opO (svLit b) fun n => opO (byI c sb n) fun i => some (.int i)) (opO (svRef a) fun i => orP (opO (obind (iget i σ.heap) asBa) fun sb => opO (svLit b) fun n => opB (inLen c sb n) (some (.int (.rng 0 255)))) (sub0 b σ i))
theorem tempB {value : PySem.Expr} {b : Array UInt8} {t : Tok} : ∀ r, letTemporaryGo value (.bytes b t) r = pure () := fun _ => by
  cases value <;> rfl
theorem sub2_sound {V : Vl} {A : Around} {E : Value → Shared → Prop} {h₀ : Heap} {L : Addr} {s : Shared} {m : PySem.Str → Option Value} {news : List (Addr × Obj)} (R : RepG G V σ h₀ L s m news) {value slice : PySem.Expr} {a b x : SV} {v u : Value} {Q : Value → Shared → Prop} (e : sub2 G.cf a b σ = some x) (hsl : sliceLess slice = true) (ha : VRel G.C V v a) (hb : VRel G.C V u b) (h : ∀ y kk, VRel G.C V y x → Q y { s with toks := kk }) : WPG G A (subscriptTail value slice v u) Q E s := by
  refine orP_k e (fun e => opO_k e fun sb h1 e => opO_k e fun n h2 e => opO_k e fun si e1 e => ?_) fun e => opO_k e fun i h1 e => ?_
  · rw [← Option.some.inj e] at h
    apply svBy_k h1 ha; intro bb t hbb
    apply svLit_k h2 hb; intro tt
    obtain ⟨c, c1, c2, c3⟩ := byI_ok hbb e1
    exact by_item rfl c1 c3 (fun t' tk' => h _ _ (.int _ c2)) (sub_eq hsl) tempB
  · apply svRef_k h1 ha; intro hi
    refine orP_k e (fun e => opO_k e fun sb hg e => opO_k e fun n h2 e => opB_k e fun hl e => ?_) fun e => sub0_sound R e hsl hb h
    rw [← Option.some.inj e] at h
    refine RAt R (get_k asBa_ok hg) fun o m1 o1 _ => ?_
    obtain ⟨bb, rfl, hbb⟩ := ORel.ba' o1
    obtain ⟨q1, q2, q3⟩ := inLen_ok hbb hl
    apply svLit_k h2 hb; intro tt
    exact ba_getK R.nw m1 rfl (by (first | lia | omega)) q1 q2 (fun y t' tk y0 y1 => h _ _ (.int _ ⟨y0, by (first | lia | omega)⟩)) (sub_eq hsl)
theorem sub2e_sound (hs : Snd G self) {value slice : PySem.Expr} {pos : Pos} (h : (sliceLess slice && self sc.any d (.ex value) σ (kv fun a σ₁ => self sc.any d (.ex slice) σ₁ (kv fun b σ₂ => onO (sub2 G.cf a b σ₂) fun x => k (.v x) σ₂))) = true) : Hold G sc d (.ex (.Subscript value slice pos)) σ k := by
  intro V₀ A env h₀ L E fx po V s m news hV R Q hQ
  refine and_k h fun h0 h => wpX_any (Subscript_ (Sc.of <| hs sc.any d _ σ _ h V₀ A env h₀ L E fx.any po V s m news hV R _ (ends_v fun V' v x σ' s' news' l hk hv R' => ?_)))
  refine Sc.of <| hs sc.any d _ σ' _ hk V₀ A env h₀ L E fx.any po V' s' m news' (Vl.le_trans hV l) R' _ (ends_v fun V'' v' x' σ'' s'' news'' l' hk' hv' R'' => onO_k hk' fun t ht hk' => ?_)
  exact sub2_sound R'' ht h0 (hv.up l') hv' fun y kk hy => hQ V'' _ _ σ'' _ news'' (Vl.le_trans l l') hk' (.mk hy) (RMove R'' R''.fr R''.nw)
noncomputable def partS (self : Ev) (sc : Sc) (d : Nat) (e : Option PySem.Expr) (σ : St) (k : Option Int → St → Bool) : Bool := Option.rec (k none σ) (fun e => self sc.any d (.ex e) σ (kv fun v σ₁ => onLit v fun n => k (some n) σ₁)) e
theorem part_sound (hs : Snd G self) {e : Option PySem.Expr} {kk : Option Int → St → Bool} (h : partS self sc d e σ kk = true) {V₀ V : Vl} {A : Around} {env : Env} {h₀ : Heap} {L : Addr} {E : Value → Shared → Prop} (fx : Fx G V₀ A env h₀ L sc d E) (po : PassesOwn (model G.prog G.w) A env E) {s : Shared} {m : PySem.Str → Option Value} {news : List (Addr × Obj)} (hV : V₀.le V) (R : RepG G V σ h₀ L s m news) {Q : Value → Shared → Prop}
    (hQ : ∀ V' v n σ' s' news', V.le V' → IsPart v n → (e = none → v = .none) → kk n σ' = true → RepG G V' σ' h₀ L s' m news' → Q v s') : WPG G A (evalPart e env) Q E s := by
  cases e with
  | none => rw [evalPart_none]; exact wpAny_pure (hQ V _ none σ s news V.le_refl .none (fun _ => rfl) h R)
  | some e =>
    rw [evalPart_some]
    refine Sc.of <| hs sc.any d _ σ _ h V₀ A env h₀ L E fx.any po V s m news hV R Q (ends_v fun V' v x σ' s' news' l hk hv R' => ?_)
    apply onLit_k hk hv; intro n t hk
    exact hQ V' _ (some n) σ' s' news' l (.int n t) (fun q => nomatch q) hk R'
noncomputable def cutL (c : Cfg) (b : SB) (lo hi : Option Int) : Option SB := opO lo fun z => opB (decide (z = 1 ∧ hi.isNone = true)) (opO (lenB c b) fun x => opO (loI c.bd x) fun z => opB (decide (1 ≤ z)) (some (.ln (subI x (.lit 1)))))
noncomputable def cutB (c : Cfg) (b : SB) (lo hi : Option Int) : Option SB := orP (opO (sbL b) fun l => opB (decide (l.length ≤ 1000)) (some (.lit ((l.drop (lo.elim 0 (clipAt l.length))).take (hi.elim l.length (clipAt l.length) - lo.elim 0 (clipAt l.length)))))) (cutL c b lo hi)
theorem all2_drop {α β : Type} {R : α → β → Prop} {as : List α} {bs : List β} (h : All2 R as bs) : ∀ (n : Nat), All2 R (as.drop n) (bs.drop n) := by
  induction h with
  | nil => intro n; rw [List.drop_nil, List.drop_nil]; exact .nil
  | cons h r ih =>
    intro n
    cases n with
    | zero => exact .cons h r
    | succ n => exact ih n
theorem all2_take {α β : Type} {R : α → β → Prop} {as : List α} {bs : List β} (h : All2 R as bs) : ∀ (n : Nat), All2 R (as.take n) (bs.take n) := by
  induction h with
  | nil => intro n; rw [List.take_nil, List.take_nil]; exact .nil
  | cons h _ ih =>
    intro n
    cases n with
    | zero => exact .nil
    | succ n => exact .cons h (ih n)
theorem cutB_ok {b b' : Array UInt8} {sb r : SB} {lo hi : Option Int} (hb : BRel G.C b sb) (h : cutB G.cf sb lo hi = some r) (e : KBw.bInts b' = ((KBw.bInts b).drop (lo.elim 0 (clipAt (KBw.bInts b).length))).take (hi.elim (KBw.bInts b).length (clipAt (KBw.bInts b).length) - lo.elim 0 (clipAt (KBw.bInts b).length))) : BRel G.C b' r ∧ (KBw.bInts b).length ≤ 1000 := by
  refine Classical.byContradiction fun nO => orP_k h (fun h => opO_k h fun l hl h => dco_k h fun c h => nO ?_) fun h => opO_k h fun o ho h => dco_k h fun c h => opO_k h fun x hx h => opO_k h fun z hz h => dco_k h fun hc h => nO ?_
  all_goals rw [← Option.some.inj h]
  · have hb := bLit hb (sbL_ok hl)
    have hl := hb.len
    refine ⟨?_, by rw [hl]; exact c⟩
    show All2 (IRel G.C) (KBw.bInts b') _
    rw [e, hl]
    exact all2_take (all2_drop hb _) _
  · subst ho
    refine Classical.byContradiction fun nO => ?_
    obtain ⟨rfl, c2⟩ := c
    rw [Option.isNone_iff_eq_none.mp c2] at e
    obtain ⟨q1, q2⟩ := lenB_ok hb hx
    refine nO ?_
    have := loI_ok q1 hz
    have el : (KBw.bInts b').length = (KBw.bInts b).length - 1 := by
      have e1 : clipAt (KBw.bInts b).length 1 = 1 := by unfold clipAt; (first | lia | omega)
      rw [e]
      simp only [Option.elim, e1, List.length_take, List.length_drop]
      (first | lia | omega)
    refine ⟨⟨?_, by (first | lia | omega)⟩, q2⟩
    have := subI_ok (b := .lit 1) (y := 1) q1 rfl
    rw [el, Int.ofNat_sub (by (first | lia | omega))]
    exact this
noncomputable def sliceS (c : Cfg) (self : Ev) (sc : Sc) (d : Nat) (value : PySem.Expr) (lo hi st : Option PySem.Expr) (σ : St) (k : Kt) : Bool :=
  self sc.any d (.ex value) σ (kv fun v σ₁ => partS self sc d lo σ₁ fun l σ₂ => partS self sc d hi σ₂ fun u σ₃ => partS self sc d st σ₃ fun p σ₄ => orBy v (fun b => st.isNone && onO (cutB c b l u) fun r => k (.v (.bytes r)) σ₄) (onRef v fun i => onO (exName value) fun _ => lo.isNone && (hi.isNone && (st.isSome && onO p fun p => decide (p = -1) && hpList σ₄ i (fun xs => decide (xs.length ≤ 1000) && newO σ₄ (.list xs.reverse) k) false))))
theorem slice_sound (hs : Snd G self) {value : PySem.Expr} {lo hi st : Option PySem.Expr} {p pos : Pos} (h : sliceS G.cf self sc d value lo hi st σ k = true) : Hold G sc d (.ex (.Subscript value (.Slice lo hi st p) pos)) σ k := by
  intro V₀ A env h₀ L E fx po V s m news hV R Q hQ
  refine wpX_any (Subscript_ (Sc.of <| hs sc.any d _ σ _ h V₀ A env h₀ L E fx.any po V s m news hV R _ (ends_v fun V' v x σ' s' news' l hk hv R' => ?_)))
  refine wpAny_Slice (part_sound hs hk fx po (Vl.le_trans hV l) R' fun V1 v1 n1 σ1 s1 news1 l1 i1 e1 hk1 R1 => ?_)
  refine part_sound hs hk1 fx po (Vl.le_trans hV (Vl.le_trans l l1)) R1 fun V2 v2 n2 σ2 s2 news2 l2 i2 e2 hk2 R2 => ?_
  refine part_sound hs hk2 fx po (Vl.le_trans hV (Vl.le_trans l (Vl.le_trans l1 l2))) R2 fun V3 v3 n3 σ3 s3 news3 l3 i3 e3 hk3 R3 => ?_
  have l03 := Vl.le_trans l1 (Vl.le_trans l2 l3)
  apply orBy_k hk3 (hv.up l03)
  · intro b t sb hb h
    refine and_k h fun h0 h => onO_k h fun r hr hK => ?_
    have h0 := Option.isNone_iff_eq_none.mp h0
    subst h0
    rw [e3 rfl]
    have hz : (KBw.bInts b).length ≤ 1000 := (cutB_ok (b' := KBy.picked b n1 n2) hb hr (KBc.ints_picked rfl n1 n2)).2
    exact slice_lit R3.fr R3.nw rfl i1 i2 (by (first | lia | omega)) rfl (fun b' h' t' kk F' N' e => hQ V3 _ _ σ3 _ news3 (Vl.le_trans l l03) hK (.mk (.bytes _ (cutB_ok hb hr e).1)) (RMove R3 F' N')) (hs := rfl) (ht := tempB)
  intro h
  apply onRef_k h (hv.up l03); intro i hi h
  refine Classical.byContradiction fun nO => onO_k h fun nm hn h => and_k h fun q1 h => and_k h fun q2 h => and_k h fun q0 h => onO_k h fun q q3 h => dec_k h fun q4 h => hpList_e h (fun xs hg h => dec_k h fun p1 hK => nO ?_) no_k
  rw [exName_ok hn]
  have q1 := Option.isNone_iff_eq_none.mp q1
  have q2 := Option.isNone_iff_eq_none.mp q2
  obtain ⟨st', rfl⟩ := Option.isSome_iff_exists.mp q0
  subst q1; subst q2
  rw [e1 rfl, e2 rfl]
  obtain ⟨us, t1, t2⟩ := isList_of R3 hg
  refine PySem.W.krv_lit R3.fr R3.nw t1 (q4 ▸ q3 ▸ i3) rfl (fun D h' F' N' lD => ?_) rfl (fun _ => rfl) (by have := szl t2 p1 (by decide); (first | lia | omega))
  exact rep_newV (hQ.up (Vl.le_trans l l03)) R3 (so := .list xs.reverse) F' N' lD (fun q => nomatch q) (.list (VsRel.up (V3.le_ext D) (by simpa using t2.rev))) hK
end

section
variable {G : Gv} {self : Ev} {sc : Sc} {d : Nat} {σ : St} {k : Kt}
noncomputable def bnd (c : Cfg) (n : SI) (z : Int) : Bool := onO (loI c.bd n) fun l => onO (hiI c.bd n) fun h => decide (0 ≤ l) && decide (h ≤ z)
theorem bnd_ok {x : Int} {n : SI} {z : Int} (hx : IRel G.C x n) (h : bnd G.cf n z = true) : 0 ≤ x ∧ x ≤ z := onO_k h fun l h1 h => onO_k h fun u h2 h => dec_k h fun p1 h => ⟨Int.le_trans p1 (loI_ok hx h1), Int.le_trans (hiI_ok hx h2) (of_decide_eq_true h)⟩
noncomputable def appB (c : Cfg) (a b : SB) : Option SB := orP (opO (sbL a) fun x => opO (sbL b) fun y => opB (decide (x.length ≤ 500 ∧ y.length ≤ 500)) (some (.lit (x ++ y)))) (opO (lenB c a) fun x => opO (lenB c b) fun y => opB (bnd c x 500) (opB (bnd c y 500) (some (.ln (addI x y)))))
theorem appB_ok {x y z : Array UInt8} {a b r : SB} (ha : BRel G.C x a) (hb : BRel G.C y b) (h : appB G.cf a b = some r) (e : KBw.bInts z = KBw.bInts x ++ KBw.bInts y) : BRel G.C z r ∧ (KBw.bInts x).length ≤ 500 ∧ (KBw.bInts y).length ≤ 500 := by
  refine Classical.byContradiction fun nO => orP_k h (fun h => opO_k h fun l h1 h => opO_k h fun l' h2 h => dco_k h fun c h => nO ?_) fun h => opO_k h fun u hu h => opO_k h fun v hv h => opB_k h fun c1 h => opB_k h fun c2 h => nO ?_
  all_goals rw [← Option.some.inj h]
  · have ha := bLit ha (sbL_ok h1)
    have hb := bLit hb (sbL_ok h2)
    refine ⟨?_, ha.len ▸ c.1, hb.len ▸ c.2⟩
    show All2 (IRel G.C) (KBw.bInts z) _
    rw [e]; exact ha.app hb
  · have q1 := (lenB_ok ha hu).1
    have q2 := (lenB_ok hb hv).1
    have b1 := (bnd_ok q1 c1).2
    have b2 := (bnd_ok q2 c2).2
    have el : (KBw.bInts z).length = (KBw.bInts x).length + (KBw.bInts y).length := by rw [e, List.length_append]
    refine ⟨⟨?_, by (first | lia | omega)⟩, by (first | lia | omega), by (first | lia | omega)⟩
    rw [el, Int.natCast_add]
    exact addI_ok q1 q2
noncomputable def mulA (c : Cfg) (xs : List SV) (n : SI) (σ : St) (k : Kt) : Bool := bnd c n 100 && (decide (xs.length ≤ 2) && newO σ (.seqA "list") k)
noncomputable def mulL (c : Cfg) (xs : List SV) (n : SI) (σ : St) (k : Kt) : Bool := orO (siN n) (fun z => decide (0 ≤ z ∧ z ≤ 256 ∧ xs.length * z.toNat ≤ 256) && newO σ (.list (List.replicate z.toNat xs).flatten) k) (mulA c xs n σ k)
noncomputable def mulS (c : Cfg) (i : Nat) (n : SI) (σ : St) (k : Kt) : Bool := hpList σ i (fun xs => mulL c xs n σ k) (hpTup σ i (fun xs => bnd c n 1000 && (decide (xs.length ≤ 1000) && (k (.v (.ref i)) σ && newO σ (.seqA "tuple") k))) false)
noncomputable def binJ (c : Cfg) (op : Operator) (a b : SI) : Option SI := opB (bnd c a 255) (orP (opB (decide (op = .BitXor)) (opO (sameO a b) fun _ => some (.lit 0))) (opO (siN b) fun n => orP (opB (decide (op = .BitAnd ∧ n = 255)) (some a)) (orP (opB (decide (op = .RShift ∧ n = 0)) (some a)) (opB (decide (op = .LShift ∧ n = 0)) (some a)))))
theorem bits_255 : ∀ n : Fin 256, Builtin.bitXor (n.val : Int) (n.val : Int) = 0 ∧ Builtin.bitAnd (n.val : Int) 255 = (n.val : Int) := by decide +kernel
theorem binJ_sound {A : Around} {E : Value → Shared → Prop} {s : Shared} {op : Operator} {x y : Int} {t u : Tok} {a b r : SI} {Q : Value → Shared → Prop} (e : binJ G.cf op a b = some r) (ha : IRel G.C x a) (hb : IRel G.C y b) (h : ∀ z t' k, IRel G.C z r → Q (.int z t') { s with toks := k }) : WPG G A (binaryOp op (.int x t) (.int y u)) Q E s := by
  refine Classical.byContradiction fun no => opB_k e fun q e => ?_
  refine Classical.byContradiction fun nO => ?_
  obtain ⟨b1, b2⟩ := bnd_ok ha q
  obtain ⟨c1, c2⟩ := bits_255 ⟨x.toNat, by (first | lia | omega)⟩
  refine nO ?_
  rw [show ((⟨x.toNat, by (first | lia | omega)⟩ : Fin 256).val : Int) = x from Int.toNat_of_nonneg b1] at c1 c2
  refine Classical.byContradiction fun nO => orP_k e (fun e => dco_k e fun c e => opO_k e fun _ hz e => nO ?_) fun e => opO_k e fun n hn e => orP_k e (fun e => dco_k e fun c e => nO ?_) fun e => orP_k e (fun e => dco_k e fun c e => nO ?_) fun e => dco_k e fun c e => nO ?_
  all_goals rw [← Option.some.inj e] at h; refine no ?_
  · rw [c, ← sameO_ok _ _ _ _ _ ha hb hz]
    exact xor_int (h _ _ _ c1)
  · rw [c.1, siN_e hb hn, c.2]
    exact and_int (h _ _ _ (by rw [c2]; exact ha))
  · rw [c.1, siN_e hb hn, c.2]
    exact rshift_int (Int.le_refl _) (h _ _ _ (by simpa using ha))
  · rw [c.1, siN_e hb hn, c.2]
    exact lshift_int_small (Int.le_refl _) (by (first | lia | omega)) (by (first | lia | omega)) (h _ _ _ (by simpa using ha))
noncomputable def intS (c : Cfg) (op : Operator) (a b : SI) (σ : St) (k : Kt) : Bool := onO (orP (binJ c op a b) (binI c op a b)) fun z => k (.v (.int z)) σ
noncomputable def bin2S (c : Cfg) (op : Operator) (a b : SV) (σ : St) (k : Kt) : Bool := orBy a (fun x => onBy b fun y => decide (op = .Add) && onO (appB c x y) fun z => k (.v (.bytes z)) σ) (orStr a (fun x => onInt b fun n => decide (op = .Mult) && (Nat.beq (Str.length x) 1 && (bnd c n 1000 && k (.v .strA) σ))) (orRef a (fun i => onInt b fun n => decide (op = .Mult) && mulS c i n σ k) (onInt a fun i => onInt b fun j => intS c op i j σ k)))
theorem mul_ok1 {x : PySem.Str} {n : Int} (h : Str.length x = 1) (h0 : 0 ≤ n) (h1 : n ≤ 1000) : MulOk x n := by
  refine ⟨by simp; (first | lia | omega), fun h2 _ => ?_, fun _ _ => ?_⟩
  · rw [h]
    have : (1 : Int) ≤ (2 ^ 63 - 1) / n := by
      rw [Int.le_ediv_iff_mul_le (by (first | lia | omega))]; (first | lia | omega)
    (first | lia | omega)
  · rw [h]
    show decide (1 * n.toNat > sizeLine) = false
    rw [sizeLine_eq]
    exact decide_eq_false (by (first | lia | omega))
theorem all2_flat {C : Cs} {V : Vl} {vs : List Value} {xs : List SV} (h : All2 (VRel C V) vs xs) (n : Nat) : All2 (VRel C V) (List.replicate n vs).flatten (List.replicate n xs).flatten := by
  induction n with
  | zero => exact .nil
  | succ n ih => rw [List.replicate_succ, List.replicate_succ, List.flatten_cons, List.flatten_cons]; exact h.app ih
theorem bin2_ok {V : Vl} {A : Around} {E : Value → Shared → Prop} {h₀ : Heap} {L : Addr} {s : Shared} {m : PySem.Str → Option Value} {news : List (Addr × Obj)} (R : RepG G V σ h₀ L s m news) {op : Operator} {a b : SV} {v u : Value} {Q : Value → Shared → Prop} (h : bin2S G.cf op a b σ k = true) (ha : VRel G.C V v a) (hb : VRel G.C V u b) (hQ : Ends G V h₀ L m (RV G.C) k Q) : WPG G A (binaryOp op v u) Q E s := by
  apply orBy_k h ha
  · intro x t sx hx h
    apply onBy_k h hb; intro y t' sy hy h
    refine Classical.byContradiction fun no => dec_k h fun c h => onO_k h fun z hz h => no ?_
    rw [c]
    exact KBa.add_K rfl rfl (by have := (appB_ok (z := x ++ y) hx hy hz (by unfold KBw.bInts; simp)).2; (first | lia | omega)) fun t' kk e => hQ.v h (.bytes _ (appB_ok hx hy hz e).1) (RMove R R.fr R.nw)
  intro h
  apply orStr_k h ha
  · intro t x h
    apply onInt_k h hb; intro n t' i hn h
    refine Classical.byContradiction fun no => dec_k h fun c h => and_k h fun p1 h => and_k h fun p2 h => no ?_
    obtain ⟨b1, b2⟩ := bnd_ok hn p2
    rw [c]
    exact SB.mul (mul_ok1 (Nat.eq_of_beq_eq_true p1) b1 b2) fun t' kk => hQ.v h (.strA _ _) (RMove R R.fr R.nw)
  intro h
  apply orRef_k h ha
  · intro i hi h
    apply onInt_k h hb; intro n t' z hn h
    refine dec_k h fun c h => ?_
    rw [c]
    refine Classical.byContradiction fun nO => hpList_e h (fun xs hg h => nO ?_) fun h => hpTup_e h (fun xs hg h => and_k h fun p1 h => dec_k h fun p2 h => and_k h fun h h' => nO ?_) no_k
    · obtain ⟨us, t1, t2⟩ := isList_of R hg
      have hl := t2.len
      refine Classical.byContradiction fun nO => orO_k h (fun w hw h => dec_k h fun q h => nO ?_) fun h => and_k h fun p1 h => dec_k h fun p2 h => nO ?_
      · rw [siN_e hn hw]
        exact KMa.mul R.fr R.nw t1 (by (first | lia | omega)) (by (first | lia | omega)) (by rw [hl]; exact q.2.2) rfl fun D h' F' N' lD => rep_newV hQ R (so := .list (List.replicate w.toNat xs).flatten) F' N' lD (fun q => nomatch q) (.list (VsRel.up (V.le_ext D) (all2_flat t2 _))) h
      · obtain ⟨b1, b2⟩ := bnd_ok hn p1
        have : us.length * n.toNat ≤ 256 := Nat.le_trans (Nat.mul_le_mul (show us.length ≤ 2 by (first | lia | omega)) (show n.toNat ≤ 100 by (first | lia | omega))) (by decide)
        exact KMa.mul R.fr R.nw t1 (by (first | lia | omega)) (by (first | lia | omega)) this rfl fun D h' F' N' lD => rep_newV hQ R (so := .seqA "list") F' N' lD (fun q => nomatch q) (.seqA rfl) h
    · obtain ⟨b1, b2⟩ := bnd_ok hn p1
      refine Classical.byContradiction fun nO => ?_
      refine RAt R hg fun o m1 o1 _ => ?_
      obtain ⟨vs, rfl, hl⟩ := ORel.tup' o1
      refine nO ?_
      refine tm_K R.fr R.nw m1 b1 b2 (by rw [hl.len]; exact p2) fun D ws h2 tk F' N' lD => ?_
      rcases lD with rfl | lD
      · exact hQ.v h (.ref hi) (RMove R F' fun q hq => N' q (.tail _ hq))
      · exact rep_newV hQ R (so := .seqA "tuple") F' N' lD (fun q => nomatch q) (.seqA rfl) h'
  intro h
  apply onInt_k h ha; intro x t i hx h
  apply onInt_k h hb; intro y t' j hy h
  refine Classical.byContradiction fun no => onO_k h fun z hz h => orP_k hz (fun hz => no ?_) fun hz => no ?_
  · exact binJ_sound hz hx hy fun z t'' kk hr => hQ.v h (.int _ hr) (RMove R R.fr R.nw)
  · exact bin_sound hz hx hy fun z t'' kk hr => hQ.v h (.int _ hr) (RMove R R.fr R.nw)
theorem binop2_sound (hs : Snd G self) {l r : PySem.Expr} {op : Operator} {pos : Pos} (h : self sc.any d (.ex l) σ (kv fun a σ₁ => self sc.any d (.ex r) σ₁ (kv fun b σ₂ => bin2S G.cf op a b σ₂ k)) = true) : Hold G sc d (.ex (.BinOp l op r pos)) σ k := by
  intro V₀ A env h₀ L E fx po V s m news hV R Q hQ
  refine wpX_any ?_
  refine wpAny_BinOp (Sc.of <| hs sc.any d _ σ _ h V₀ A env h₀ L E fx.any po V s m news hV R _ (ends_v fun V' v x σ' s' news' l hk hv R' => ?_))
  refine Sc.of <| hs sc.any d _ σ' _ hk V₀ A env h₀ L E fx.any po V' s' m news' (Vl.le_trans hV l) R' _ (ends_v fun V'' v' x' σ'' s'' news'' l' hk' hv' R'' => ?_)
  exact bin2_ok R'' hk' (hv.up l') hv' (hQ.up (Vl.le_trans l l'))
end

section
variable {G : Gv} {self : Ev} {sc : Sc} {d : Nat} {σ : St} {k : Kt}
noncomputable def octet (bd : List (Int × Int)) (x : SV) : Option SI := opO (svInt x) fun i => opO (loI bd i) fun a => opO (hiI bd i) fun b => opB (decide (0 ≤ a ∧ b < 256)) (some i)
noncomputable def octets (bd : List (Int × Int)) (xs : List SV) : Option (List SI) := mapO (octet bd) xs
noncomputable def OctIs (C : Cs) (v : Value) (i : SI) : Prop := ∃ x t, v = .int x t ∧ (0 ≤ x ∧ x < 256) ∧ IRel C x i
theorem octet_ok {V : Vl} {x : SV} {v : Value} {i : SI} (h : VRel G.C V v x) (e : octet G.cf.bd x = some i) : OctIs G.C v i := by
  refine Classical.byContradiction fun nO => ?_
  refine opO_k e fun j hj e => opO_k e fun a h1 e => opO_k e fun b h2 e => dco_k e fun c e => ?_
  refine nO ?_
  rw [← Option.some.inj e]
  apply svInt_k (P := fun v => OctIs G.C v j) hj h; intro z t hz
  exact ⟨z, t, rfl, ⟨Int.le_trans c.1 (loI_ok hz h1), Int.lt_of_le_of_lt (hiI_ok hz h2) c.2⟩, hz⟩
theorem octIs_all {C : Cs} {l : List SI} {vs : List Value} (h : All2 (OctIs C) vs l) : ∃ ns, IntsAre vs ns ∧ (∀ n ∈ ns, 0 ≤ n ∧ n < 256) ∧ All2 (IRel C) ns l := by
  induction h with
  | nil => exact ⟨[], .nil, fun _ h => (nomatch h), .nil⟩
  | cons h _ ih =>
    refine Classical.byContradiction fun nO => ?_
    obtain ⟨x, t, rfl, h1, h2⟩ := h
    obtain ⟨ns, i1, i2, i3⟩ := ih
    refine nO ?_
    exact ⟨x :: ns, .cons _ _ i1, fun n hn => (List.mem_cons.mp hn).elim (fun e => e ▸ h1) (i2 n), .cons h2 i3⟩
theorem bInts_of {ns : List Int} (h : ∀ n ∈ ns, 0 ≤ n ∧ n < 256) : KBw.bInts (List.map (fun n => Nat.toUInt8 (Int.toNat n)) ns).toArray = ns := by
  unfold KBw.bInts
  rw [List.map_map]
  conv => rhs; rw [← List.map_id ns]
  refine List.map_congr_left fun n hn => ?_
  obtain ⟨h1, h2⟩ := h n hn
  show ((Nat.toUInt8 n.toNat).toNat : Int) = n
  have : n.toNat < 256 := by (first | lia | omega)
  simp [Nat.toUInt8, Nat.mod_eq_of_lt this]
  (first | lia | omega)
noncomputable def TyOk (G : Gv) (g : List SV → St → Kt → Bool) (f : String) : Prop := ∀ xs σ k, g xs σ k = true → ∀ (V : Vl) (A : Around) (E : Value → Shared → Prop) (h₀ : Heap) (L : Addr) (s : Shared) (m : PySem.Str → Option Value) (news : List (Addr × Obj)), A.handled = none → RepG G V σ h₀ L s m news → ∀ (vs : List Value) (Q : Value → Shared → Prop), All2 (VRel G.C V) vs xs → Ends G V h₀ L m (RV G.C) k Q → WPG G A (call (.type f) vs) Q E s
theorem ty_ite {f0 f : String} {g r : List SV → St → Kt → Bool} (h1 : TyOk G g f0) (h2 : TyOk G r f) : TyOk G (fun xs σ k => if f = f0 then g xs σ k else r xs σ k) f := by
  intro xs σ k h
  have h : (if f = f0 then g xs σ k else r xs σ k) = true := h
  by_cases e : f = f0
  · rw [if_pos e] at h
    rw [e]
    exact h1 xs σ k h
  · rw [if_neg e] at h
    exact h2 xs σ k h
noncomputable def zerosB (c : Cfg) (n : SI) : Option SB := orP (opO (siN n) fun z => opB (decide (0 ≤ z ∧ z ≤ 1000)) (some (.lit (List.replicate z.toNat (.lit 0))))) (opO c.zl fun q => opO (sameO n q.2) fun _ => opB (bnd c n 1000) (some (.var q.1)))
theorem bInts_zeros (n : Nat) : KBw.bInts (Array.replicate n 0) = List.replicate n 0 := by
  unfold KBw.bInts
  simp
theorem sameO_eq {a b : SI} {r : Unit} (q : sameO a b = some r) : a = b :=
  orP_k q (fun q => opO_k q fun p hp q => opO_k q fun p' hp' q => opB_k q fun z q => dco_k q fun e _ => by rw [siVar_ok hp, siVar_ok hp', Nat.eq_of_beq_eq_true z, e]) fun q => opO_k q fun x hx q => opO_k q fun y hy q => dco_k q fun e _ => by rw [siN_ok hx, siN_ok hy, e]
theorem all2_rep {α β : Type} {R : α → β → Prop} {a : α} {b : β} (h : R a b) (n : Nat) : All2 R (List.replicate n a) (List.replicate n b) := by
  induction n with
  | zero => exact .nil
  | succ n ih => rw [List.replicate_succ, List.replicate_succ]; exact .cons h ih
theorem zerosB_ok {x : Int} {n : SI} {b : SB} (hx : IRel G.C x n) (h : zerosB G.cf n = some b) : BRel G.C (Array.replicate x.toNat 0) b ∧ 0 ≤ x ∧ x ≤ 1000 := by
  refine Classical.byContradiction fun nO => orP_k h (fun h => opO_k h fun z hz h => dco_k h fun c h => nO ?_) fun h => opO_k h fun q hz h => opO_k h fun _ c1 h => opB_k h fun c2 h => nO ?_
  all_goals rw [← Option.some.inj h]
  · rw [siN_e hx hz]
    refine ⟨?_, c⟩
    show All2 (IRel G.C) (KBw.bInts _) _
    rw [bInts_zeros]
    exact all2_rep (R := IRel G.C) (show IRel G.C 0 (.lit 0) from rfl) _
  · obtain ⟨b1, b2⟩ := bnd_ok hx c2
    refine ⟨?_, b1, b2⟩
    show KBw.bInts _ = G.C.β q.1
    rw [bInts_zeros, G.hzl q.1 q.2 hz x (sameO_eq c1 ▸ hx) b1]
noncomputable def byS (c : Cfg) (xs : List SV) (σ : St) (k : Kt) : Bool := on1 xs fun x => orBy x (fun b => k (.v (.bytes b)) σ) (orRef x (fun i => hpBa σ i (fun b => onO (lenB c b) fun _ => k (.v (.bytes b)) σ) (hpList σ i (fun l => onO (octets c.bd l) fun os => decide (l.length ≤ 1000) && k (.v (.bytes (.lit os))) σ) false)) (onInt x fun n => onO (zerosB c n) fun b => k (.v (.bytes b)) σ))
theorem by_ok : TyOk G (byS G.cf) "bytes" := by
  intro xs σ k h V A E h₀ L s m news hh R vs Q hv hQ
  apply on1_k h hv; intro _ _ h hv
  apply orBy_k h hv
  · intro z t b hb h
    exact by_bytes (hQ.v h (.bytes _ hb) (RMove R R.fr R.nw))
  intro h
  apply orRef_k h hv
  · intro i hi h
    refine Classical.byContradiction fun nO => hpBa_e h (fun b hg h => onO_k h fun x hx h => nO ?_) fun h => hpList_e h (fun l hg h => onO_k h fun os ho h => dec_k h fun p1 h => nO ?_) no_k
    · refine RAt R hg fun o m1 o1 _ => ?_
      obtain ⟨bb, rfl, hb⟩ := ORel.ba' o1
      have := (lenB_ok hb hx).2
      exact by_baK R.nw m1 rfl (by (first | lia | omega)) (hQ.v h (.bytes _ hb) (RMove R R.fr R.nw))
    · obtain ⟨us, t1, t2⟩ := isList_of R hg
      refine Classical.byContradiction fun nO => ?_
      obtain ⟨ns, n1, n2, n3⟩ := octIs_all (mapO_ok (R := VRel G.C V) (S := OctIs G.C) (f := octet G.cf.bd) (fun _ _ _ => octet_ok) t2 ho)
      refine nO ?_
      refine bytes_K R.fr R.nw t1 n1 n2 (by have := t2.len; rw [sizeLine_eq]; (first | lia | omega)) hh fun h' t' kk F' N' _ => hQ.v h (.bytes _ ?_) (RMove R F' N')
      show All2 (IRel G.C) (KBw.bInts _) os
      rw [bInts_of n2]
      exact n3
  intro h
  apply onInt_k h hv; intro x t i hx h
  refine Classical.byContradiction fun nO => ?_
  refine onO_k h fun b hb h => ?_
  obtain ⟨z1, z2, z3⟩ := zerosB_ok hx hb
  refine nO ?_
  exact by_int z2 (by (first | lia | omega)) (hQ.v h (.bytes _ z1) (RMove R R.fr R.nw))
noncomputable def tupC (xs : List SV) (σ : St) (k : Kt) : Bool := on1 xs fun x => onRef x fun i => hpList σ i (fun l => decide (l.length ≤ 1000) && newO σ (.tup l) k) false
theorem tup_ok : TyOk G tupC "tuple" := by
  intro xs σ k h V A E h₀ L s m news hh R vs Q hv hQ
  apply on1_k h hv; intro _ _ h hv
  apply onRef_k h hv; intro i hi h
  refine hpList_e h (fun l hg h => dec_k h fun p1 h => ?_) no_k
  obtain ⟨us, t1, t2⟩ := isList_of R hg
  exact kde_tupleOf R.fr R.nw t1 (by have := t2.len; simp; (first | lia | omega)) rfl fun D h' F' N' l1 => rep_newV hQ R (so := .tup l) F' N' l1 (fun q => nomatch q) (.tup (VsRel.up (V.le_ext D) (by simpa using t2))) h
noncomputable def rgC (xs : List SV) (σ : St) (k : Kt) : Bool := on1 xs fun x => onLit x fun n => newO σ (.rgo n) k
theorem rg_ok : TyOk G rgC "range" := by
  intro xs σ k h V A E h₀ L s m news hh R vs Q hv hQ
  apply on1_k h hv; intro _ _ h hv
  apply onLit_k h hv; intro x t h
  refine range1_rows R.fr R.nw fun h' tk t1 u1 v1 hr F' N' kp => ?_
  refine rep_newV hQ R (so := .rgo x) F' (fun q hq => ?_) (fun p hp => Heap.lt_size (R.nw p hp).1) (fun q => nomatch q) (.rgo t1 u1 v1) h
  rcases List.mem_cons.mp hq with rfl | hq
  · exact ⟨hr, fun q => Nat.ne_of_gt R.fr.ns.lt q, none_sz R.fr⟩
  · exact N' q hq
noncomputable def lstC (c : Cfg) (xs : List SV) (σ : St) (k : Kt) : Bool := on1 xs fun x => onBy x fun b => onO (lenB c b) fun _ => newO σ (.seqA "list") k
theorem lst_ok : TyOk G (lstC G.cf) "list" := by
  intro xs σ k h V A E h₀ L s m news hh R vs Q hv hQ
  apply on1_k h hv; intro _ _ h hv
  apply onBy_k h hv; intro z t b hb h
  refine onO_k h fun y hy h => ?_
  have := (lenB_ok hb hy).2
  exact lb_K R.fr R.nw hh rfl (by (first | lia | omega)) fun l ws c h' tk F' N' lD => rep_newV hQ R (so := .seqA "list") F' N' lD (fun q => nomatch q) (.seqA rfl) h
noncomputable def ty2S (c : Cfg) (t : String) (xs : List SV) (σ : St) (k : Kt) : Bool := if t = "bytes" then byS c xs σ k else if t = "tuple" then tupC xs σ k else if t = "range" then rgC xs σ k else if t = "list" then lstC c xs σ k else false
theorem ty2_ok {t : String} : TyOk G (ty2S G.cf t) t := ty_ite by_ok (ty_ite tup_ok (ty_ite rg_ok (ty_ite lst_ok fun _ _ _ h => no_k h)))
noncomputable def baS (c : Cfg) (xs : List SV) (σ : St) (k : Kt) : Bool := on1 xs fun x => orBy x (fun b => onO (lenB c b) fun _ => newO σ (.ba b) k) (onInt x fun n => onO (zerosB c n) fun b => newO σ (.ba b) k)
theorem ba_sound {xs : List SV} (h : baS G.cf xs σ k = true) (hc : sc.cl = true) {V : Vl} {A : Around} {E : Value → Shared → Prop} {h₀ : Heap} {L : Addr} {s : Shared} {m : PySem.Str → Option Value} {news : List (Addr × Obj)} (R : RepG G V σ h₀ L s m news) {vs : List Value} {Q : Value → Shared → Prop} (hv : All2 (VRel G.C V) vs xs) (hQ : Ends G V h₀ L m (RV G.C) k Q) : WPX G sc A (call (.type "bytearray") vs) Q E s := by
  unfold WPX
  rw [hc]
  refine wpX_C ?_
  apply on1_k h hv; intro _ _ h hv
  apply orBy_k h hv
  · intro z t sb hb h
    refine onO_k h fun y hy h => ?_
    have := (lenB_ok hb hy).2
    exact ba_bytes R.fr R.nw (by rw [← KBw.ints_length]; (first | lia | omega)) fun l h' F' N' lD => rep_newV hQ R (so := .ba sb) F' N' lD (fun q => nomatch q) (.ba hb) h
  intro h
  apply onInt_k h hv; intro x t i hx h
  refine Classical.byContradiction fun nO => ?_
  refine onO_k h fun b hz h => ?_
  obtain ⟨z1, z2, z3⟩ := zerosB_ok hx hz
  refine nO ?_
  exact ba_int R.fr R.nw z2 (by (first | lia | omega)) fun l h' F' N' lD => rep_newV hQ R (so := .ba b) F' N' lD (fun q => nomatch q) (.ba z1) h
end

section
variable {G : Gv} {self : Ev} {sc : Sc} {d : Nat} {σ : St} {k : Kt}
theorem lt_cast {a : List Nat} : ∀ {b : List Nat}, a.map (fun n : Nat => (n : Int)) < b.map (fun n : Nat => (n : Int)) → a < b := by
  induction a with
  | nil =>
    intro b h
    cases b with
    | nil => exact absurd h (List.lt_irrefl _)
    | cons => exact List.nil_lt_cons _ _
  | cons x a ih =>
    intro b h
    cases b with
    | nil => exact absurd h (List.not_lt_nil _)
    | cons y b =>
      rcases List.cons_lt_cons_iff.mp h with h | ⟨h1, h2⟩
      · exact List.cons_lt_cons_iff.mpr (.inl (Int.ofNat_lt.mp h))
      · exact List.cons_lt_cons_iff.mpr (.inr ⟨Int.ofNat.inj h1, ih h2⟩)
noncomputable def sbLit (b : SB) : Option (List Int) := SB.rec (motive := fun _ => Option (List Int)) (mapO siN) (fun _ => none) none (fun _ => none) b
theorem sbLit_ok {C : Cs} {z : Array UInt8} {b : SB} {l : List Int} (hb : BRel C z b) (h : sbLit b = some l) : KBw.bInts z = l := by
  cases b with
  | lit ls => exact (mapO_ok (R := IRel C) (S := fun a b => a = b) (fun _ _ _ => siN_e) hb h).eq
  | _ => exact no_o h
noncomputable def litB (x : SV) : Option (List Int) := opO (svBy x) sbLit
theorem litB_ok {C : Cs} {V : Vl} {v : Value} {x : SV} {l : List Int} (hv : VRel C V v x) (h : litB x = some l) : ∃ b t, v = .bytes b t ∧ KBw.bInts b = l := opO_k h fun b hb h => by
  apply svBy_k hb hv; intro z t hz
  exact ⟨z, t, rfl, sbLit_ok hz h⟩
theorem bytes_lt {b c : Array UInt8} {x y : List Int} (h1 : KBw.bInts b = x) (h2 : KBw.bInts c = y) (h : x < y) : b.toList.map UInt8.toNat < c.toList.map UInt8.toNat := by
  refine lt_cast ?_
  rw [List.map_map, List.map_map]
  show KBw.bInts b < KBw.bInts c
  rw [h1, h2]; exact h
noncomputable def riseL (l : List (List Int)) : Bool := List.rec true (fun a r ih => r.all (fun b => decide (a < b)) && ih) l
theorem rise_less {b : Array UInt8} {a : List Int} (hb : KBw.bInts b = a) {vs : List Value} {ls : List (List Int)} (h : All2 (fun v l => ∃ b t, v = Value.bytes b t ∧ KBw.bInts b = l) vs ls) (e : ls.all (fun b => decide (a < b)) = true) : ∀ v ∈ vs, ∃ c u, v = .bytes c u ∧ b.toList.map UInt8.toNat < c.toList.map UInt8.toNat := by
  induction h with
  | nil => exact fun _ h => nomatch h
  | cons h1 _ ih =>
    refine dec_k e fun p e v hv => (List.mem_cons.mp hv).elim (fun q => ?_) (ih e v)
    refine Classical.byContradiction fun nO => ?_
    obtain ⟨c, t, e1, e2⟩ := h1
    refine nO ?_
    exact ⟨c, t, q.trans e1, bytes_lt hb e2 p⟩
theorem rise_ok {vs : List Value} {ls : List (List Int)} (h : All2 (fun v l => ∃ b t, v = Value.bytes b t ∧ KBw.bInts b = l) vs ls) (e : riseL ls = true) : Rise vs := by
  induction h with
  | nil => exact .nil
  | cons h1 r ih =>
    refine Classical.byContradiction fun nO => ?_
    obtain ⟨b, t, rfl, hb⟩ := h1
    refine nO ?_
    exact and_k e fun e1 e2 => .cons b t (ih e2) (rise_less hb r e1)
noncomputable def oneB (xs : List SV) : Bool := on1 xs fun x => onBy x fun _ => true
noncomputable def riseB (xs : List SV) : Bool := orB (oneB xs) true (onO (mapO litB xs) riseL)
theorem riseB_ok {C : Cs} {V : Vl} {vs : List Value} {xs : List SV} (h : All2 (VRel C V) vs xs) (e : riseB xs = true) : Rise vs := by
  refine orB_k e (fun e _ => ?_) fun _ e => onO_k e fun ls hl e => rise_ok (mapO_ok (R := VRel C V) (S := fun v l => ∃ b t, v = Value.bytes b t ∧ KBw.bInts b = l) (fun _ _ _ => litB_ok) h hl) e
  apply on1_k e h; intro x v e hv
  apply onBy_k e hv; intro z t i hi e
  exact .one z t
noncomputable def sortedS (xs : List SV) (σ : St) (k : Kt) : Bool := on1 xs fun v => onRef v fun i => hpList σ i (fun l => decide (l.length < 64) && (riseB l && newO σ (.list l) k)) false
theorem sorted_ok : BiOk G sortedS "sorted" := by
  intro xs σ k h V A E h₀ L s m news hh R vs Q hv hQ
  apply on1_k h hv; intro _ _ h hv
  apply onRef_k h hv; intro i hi h
  refine Classical.byContradiction fun nO => hpList_e h (fun l hg h => dec_k h fun p1 h => and_k h fun p2 h => nO ?_) no_k
  obtain ⟨us, t1, t2⟩ := isList_of R hg
  refine sorted_by R.fr R.nw t1 (riseB_ok t2 p2) (by rw [t2.len]; exact p1) fun D e h' F' N' lD => ?_
  exact rep_newV hQ R (so := .list l) F' N' lD (fun q => nomatch q) (.list (VsRel.up (V.le_ext D) t2)) h
noncomputable def extendS (xs : List SV) (σ : St) (k : Kt) : Bool := on2 xs fun a b => onRef a fun i => onRef b fun j => hpList σ j (fun l2 => hpList σ i (fun l => decide (l.length ≤ 500) && (decide (l2.length ≤ 500) && k (.v .none) { σ with heap := iset i (.list (l ++ l2)) σ.heap })) false) false
theorem kl_extend0 {prog : Program} {w : PySem.World} {A : Around} {E : Value → Shared → Prop} {s : Shared} {h₀ : Heap} {L D b : Addr} {m : PySem.Str → Option Value} {news news' : List (Addr × Obj)} {its : Array Value} {n n2 : Nat} {Q : Value → Shared → Prop} (F : Fr h₀ L s.heap m) (N : News h₀ L s.heap news) (hb : (b, PySem.W.listOf #[] n2) ∈ news) (U : Upd D (PySem.W.listOf its n) (PySem.W.listOf its n) news news')
    (hz : its.size ≤ 1000) (h : ∀ h', Fr h₀ L h' m → News h₀ L h' news' → Q .none { s with heap := h' }) : wpAny (model prog w) A (call (.builtin "list.extend") [.ref D, .ref b]) Q E s := by
  refine Classical.byContradiction fun nO => ?_
  obtain ⟨pre, post, rfl, rfl, a, c⟩ := U.split
  refine nO ?_
  have z := N (D, PySem.W.listOf its n) (List.mem_append.mpr (.inr (.head _)))
  refine call_meets PySem.F.slot_list_extend ⟨_, z.1, rfl⟩ PySem.F.entry_list_extend (PySem.F.args_list_extend_2 _ _) (PySem.AutoSeq1.list_extend_list_list_0 D its n b #[] n2 ?_ (by rw [sizeLine_eq]; (first | lia | omega)) (by simp [sizeLine_eq]; (first | lia | omega))) ⟨z.1, (N _ hb).1, h _ (F.change (Heap.SameBut.update ..) z.2.1 z.2.2) (PySem.W.kl_turn0 _ N a c ?_ rfl)⟩
  · have : Builtin.List.listTooLong (its.size + (#[] : Array Value).size) = false := by
      show decide (_ > sizeLine) = false
      rw [sizeLine_eq]
      exact decide_eq_false (by simp; (first | lia | omega))
    rw [this, Bool.and_false]; exact Bool.false_ne_true
  · simp
theorem short {n : Nat} (h : n ≤ 1000) : Builtin.List.listTooLong n = false := by
  show decide (n > sizeLine) = false
  rw [sizeLine_eq]
  exact decide_eq_false (by (first | lia | omega))
theorem extend_ok : BiOk G extendS "list.extend" := by
  intro xs σ k h V A E h₀ L s m news hh R vs Q hv hQ
  apply on2_k h hv; intro _ _ _ _ h hv hu
  apply onRef_k h hv; intro i hi h
  apply onRef_k h hu; intro j hj h
  refine Classical.byContradiction fun nO => hpList_e h (fun l2 hg2 h => hpList_e h (fun l hg h => dec_k h fun p1 h => dec_k h fun p2 h => nO ?_) no_k) no_k
  refine Classical.byContradiction fun nO => ?_
  refine RAt R hg2 fun o2 m2 r2 _ => RUpd R hg fun o g o1 u1 K => ?_
  obtain ⟨ws2, n2, rfl, hw2⟩ := ORel.list' r2
  obtain ⟨ws, n, rfl, hw⟩ := ORel.list' o1
  refine nO ?_
  have e1 : ws.toArray.size ≤ 500 := by rw [List.size_toArray, hw.len]; exact p1
  have e2 : ws2.toArray.size ≤ 500 := by rw [List.size_toArray, hw2.len]; exact p2
  cases ws2 with
  | nil =>
    refine kl_extend0 R.fr R.nw m2 (UpdF.upd u1) (by (first | lia | omega)) fun h' F' N' => ?_
    cases hw2
    obtain ⟨news', R'⟩ := K _ (.list l) h' s.toks rfl (.list hw) F' N'
    rw [List.append_nil] at h
    exact hQ.v h .none R'
  | cons w ws2 =>
    refine PySem.W.kl_extend (l := ws ++ w :: ws2) R.fr R.nw m2 (by simp) (Nat.succ_ne_zero _) (UpdF.upd u1) (by rw [short (by (first | lia | omega)), Bool.and_false]; exact Bool.false_ne_true) (by rw [sizeLine_eq, Array.length_toList]; (first | lia | omega)) (by rw [sizeLine_eq]; (first | lia | omega)) fun h' F' N' => ?_
    obtain ⟨news', R'⟩ := K _ (.list (l ++ l2)) h' s.toks rfl (.list (hw.app hw2)) F' N'
    exact hQ.v h .none R'
noncomputable def insertS (xs : List SV) (σ : St) (k : Kt) : Bool := on3 xs fun a b x => onRef a fun i => onLit b fun z => decide (z = 0) && hpList σ i (fun l => decide (l.length ≤ 500) && k (.v .none) { σ with heap := iset i (.list (x :: l)) σ.heap }) false
theorem insert_ok : BiOk G insertS "list.insert" := by
  intro xs σ k h V A E h₀ L s m news hh R vs Q hv hQ
  apply on3_k h hv; intro _ _ x _ _ y h hv hu hy
  apply onRef_k h hv; intro i hi h
  apply onLit_k h hu; intro z t h
  refine dec_k h fun p0 h => ?_
  subst p0
  refine hpList_e h (fun l hg h => dec_k h fun p1 h => ?_) no_k
  refine Classical.byContradiction fun nO => ?_
  refine RUpd R hg fun o g o1 u1 K => ?_
  obtain ⟨ws, n, rfl, hw⟩ := ORel.list' o1
  refine nO ?_
  refine PySem.W.kl_insert R.fr R.nw (by decide) (by simp [PySem.W.kl_ins]) (UpdF.upd (o' := PySem.W.listOf (y :: ws).toArray (n + 1)) u1) (by rw [sizeLine_eq]; show ws.length ≤ _; rw [hw.len]; (first | lia | omega)) fun h' F' N' => ?_
  obtain ⟨news', R'⟩ := K _ (.list (x :: l)) h' s.toks rfl (.list (.cons hy hw)) F' N'
  exact hQ.v h .none R'
noncomputable def removeS (xs : List SV) (σ : St) (k : Kt) : Bool := on2 xs fun a b => onRef a fun i => onLit b fun n => hpList σ i (fun l => on1 l fun y => onLit y fun z => decide (n = z) && k (.v .none) { σ with heap := iset i (.list []) σ.heap }) false
theorem remove_ok : BiOk G removeS "list.remove" := by
  intro xs σ k h V A E h₀ L s m news hh R vs Q hv hQ
  apply on2_k h hv; intro _ _ _ _ h hv hu
  apply onRef_k h hv; intro i hi h
  apply onLit_k h hu; intro z t h
  refine hpList_e h (fun l hg h => RUpd R hg fun o g o1 u1 K => ?_) no_k
  refine Classical.byContradiction fun nO => ?_
  obtain ⟨ws, n, rfl, hw⟩ := ORel.list' o1
  refine nO ?_
  revert u1
  apply on1_k h hw; intro y u h hy
  apply onLit_k h hy; intro z' t' h u1
  refine dec_k h fun p1 hk => ?_
  subst p1
  refine PySem.W.kf_remove R.fr R.nw rfl (j := 0) (by simp [PySem.W.kf_at, isInt]) rfl (UpdF.upd (o' := PySem.W.listOf ([] : List Value).toArray (n + 1)) u1) (by simp [sizeLine_eq]) fun h' F' N' => ?_
  obtain ⟨news', R'⟩ := K _ (.list []) h' s.toks rfl (.list .nil) F' N'
  exact hQ.v hk .none R'
noncomputable def biT (c : Cfg) (f : String) (xs : List SV) (σ : St) (k : Kt) : Bool :=
  if f = "len" then lenS c xs σ k else if f = "list.append" then appendS xs σ k else if f = "list.pop" then popS xs σ k else if f = "list.extend" then extendS xs σ k else if f = "str.split" then splitS xs σ k else if f = "min" then minS c xs σ k else if f = "sorted" then sortedS xs σ k else if f = "list.insert" then insertS xs σ k else if f = "list.remove" then removeS xs σ k else false
theorem bi_ok (f : String) : BiOk G (biT G.cf f) f :=
  bi_ite len_ok <| bi_ite append_ok <| bi_ite pop_ok <| bi_ite extend_ok <| bi_ite split_ok <| bi_ite min_ok <| bi_ite sorted_ok <| bi_ite insert_ok <| bi_ite remove_ok fun _ _ _ h => no_k h
end

section
variable {M : Model} {A : Around} {E : Value → Shared → Prop} {s : Shared} {env : Env}
theorem c_target {t : PySem.Expr} {value : PySem.Expr} {pos : Pos} {Q : Flow → Shared → Prop} (hs : swapsWithSole [t] value pos.line env = pure false) (hw : swappedStores [t] value env = pure none) (he : (assignEach [t] env).map (·.2) = [assign t env])
    (h : wpC M A (eval value env) (fun v s₁ => wpC M A (assign t env v) (fun _ s' => Q .next s') E s₁) E s) : wpC M A (exec (.Assign [t] value pos) env) Q E s := by
  rw [arm_exec_Assign, he]
  refine wpC_bindA (wpAny_standAt (wpC_bindEq hs (wpC_no rfl (wpC_bind (wpC_mono h (fun v s₁ z => wpC_bindEq hw ?_) fun _ _ z => z)))))
  show wpC _ _ (assign t env v >>= fun _ => pure Flow.next) _ _ _
  exact wpC_bind (wpC_mono z (fun _ _ z => wpC_pure z) fun _ _ z => z)
end
section
variable {G : Gv} {self : Ev} {sc : Sc} {d : Nat} {σ : St} {k : Kt}
noncomputable def setSB (sb : SB) (n : Nat) (x : SI) : SB := SB.rec (motive := fun _ => SB) (fun l => .lit (l.set n x)) (fun _ => .any) .any (fun _ => .any) sb
theorem all2_set {α β : Type} {R : α → β → Prop} {a : α} {b : β} (h : R a b) {as : List α} {bs : List β} (hl : All2 R as bs) : ∀ (n : Nat), All2 R (as.set n a) (bs.set n b) := by
  induction hl with
  | nil => exact fun _ => .nil
  | cons h' r ih =>
    intro n
    cases n with
    | zero => exact .cons h r
    | succ n => exact .cons h' (ih n)
theorem bInts_set {b : Array UInt8} {n : Nat} {v : Int} (h0 : 0 ≤ v) (h1 : v ≤ 255) : KBw.bInts (b.setIfInBounds n v.toNat.toUInt8) = (KBw.bInts b).set n v := by
  unfold KBw.bInts
  rw [Array.toList_setIfInBounds, List.map_set]
  congr 1
  have : v.toNat < 256 := by (first | lia | omega)
  simp [Nat.toUInt8, Nat.mod_eq_of_lt this]
  (first | lia | omega)
theorem setSB_ok {C : Cs} {b : Array UInt8} {sb : SB} {n : Nat} {v : Int} {x : SI} (hb : BRel C b sb) (hv : IRel C v x) (h0 : 0 ≤ v) (h1 : v ≤ 255) : BRel C (b.setIfInBounds n v.toNat.toUInt8) (setSB sb n x) := by
  cases sb with
  | lit l =>
    show All2 (IRel C) (KBw.bInts _) _
    rw [bInts_set h0 h1]
    exact all2_set hv hb n
  | _ => trivial
noncomputable def setI2 (c : Cfg) (o key v : SV) (σ : St) (k : St → Bool) : Bool := onRef o fun i => onLit key fun n => hpId σ i (fun kvs => decide (kvs.length ≤ 1000) && k { σ with heap := iset i (.idict (istore n v kvs)) σ.heap }) (hpBa σ i (fun sb => onInt v fun x => inLen c sb n && (bnd c x 255 && k { σ with heap := iset i (.ba (setSB sb n.toNat x)) σ.heap })) false)
theorem setI2_sound {kk : St → Bool} {V : Vl} {A : Around} {E : Value → Shared → Prop} {h₀ : Heap} {L : Addr} {s : Shared} {m : PySem.Str → Option Value} {news : List (Addr × Obj)} {o key x : SV} {ov kv v : Value} {Q : Unit → Shared → Prop} (R : RepG G V σ h₀ L s m news) (ho : VRel G.C V ov o) (hk : VRel G.C V kv key) (hv : VRel G.C V v x) (h : setI2 G.cf o key x σ kk = true)
    (hQ : ∀ σ' s' news', kk σ' = true → RepG G V σ' h₀ L s' m news' → Q () s') : WPG G A (setItem ov kv v) Q E s := by
  apply onRef_k h ho; intro i hi h
  apply onLit_k h hk; intro n t h
  refine hpId_e h (fun kvs hg h => dec_k h fun p1 h => setD_sound R hg p1 hv fun s' news' => hQ _ s' news' h) fun h => hpBa_e h (fun sb hg h => ?_) no_k
  apply onInt_k h hv; intro y t' i' hx h
  refine and_k h fun p1 h => and_k h fun p2 h => RUpd R hg fun o g o1 u1 K => ?_
  obtain ⟨b1, b2⟩ := bnd_ok hx p2
  obtain ⟨b, rfl, hb⟩ := ORel.ba' o1
  obtain ⟨c1, c2, c3⟩ := inLen_ok hb p1
  refine ba_setK R.fr R.nw (UpdF.upd u1) rfl (by (first | lia | omega)) c1 c2 b1 (by (first | lia | omega)) fun h' F' N' => ?_
  obtain ⟨news', R'⟩ := K _ (.ba (setSB sb n.toNat i')) h' _ rfl (.ba (setSB_ok hb hx b1 b2)) F' N'
  exact hQ _ _ news' h R'
noncomputable def nameT (sc : Sc) (n : PySem.Str) (v : SV) (σ : St) (k : St → Bool) : Bool := onO (sget n sc.sc.names) fun nk => orB (decide (nk = .local)) (k { σ with loc := (n, v) :: σ.loc }) (decide (nk = .cell) && onO (sget n sc.cells) fun x => onO (svRef x) fun i => onO (iget i σ.heap) fun so => cellO so && k { σ with heap := iset i (.cell v) σ.heap })
theorem cellO_ok {prog : Program} {w : PySem.World} {C : Cs} {V : Vl} {o : Obj} {so : SO} (h : ORel prog w C V o so) (e : cellO so = true) : ∃ v, o.data = .cell v := by
  cases so
  case cell => obtain ⟨v, e, -⟩ := ORel.cell' h; exact ⟨_, e⟩
  case cell0 => exact ⟨_, ORel.cell0' h⟩
  all_goals exact no_k e
theorem nameT_sound {kk : St → Bool} {n : PySem.Str} {x : SV} (h : nameT sc n x σ kk = true) {V₀ V : Vl} {A : Around} {env : Env} {h₀ : Heap} {L : Addr} {E E' : Value → Shared → Prop} (fx : Fx G V₀ A env h₀ L sc d E) (hc : sc.comp = none) {s : Shared} {m : PySem.Str → Option Value} {news : List (Addr × Obj)} (hV : V₀.le V) (R : RepG G V σ h₀ L s m news) {v : Value} (hv : VRel G.C V v x) {Q : Unit → Shared → Prop}
    (hQ : ∀ σ' s' m' news', kk σ' = true → RepG G V σ' h₀ L s' m' news' → Q () s') : WPG G A (storeName env n v) Q E' s := by
  refine Classical.byContradiction fun nO => ?_
  obtain ⟨-, -, -, ec⟩ := fx.e.its
  obtain ⟨cn, ae, ccd, cl, rfl⟩ := fx.fn hc
  refine onO_k h fun nk hq h => ?_
  refine nO ?_
  rw [sget_lookup] at hq
  refine Classical.byContradiction fun nO => orB_k h (fun q h => nO ?_) fun _ h => dec_k h fun q h => onO_k h fun y hg h => onO_k h fun i hy h => onO_k h fun so hs h => and_k h fun c1 h => RUpd R hs fun o g o1 u1 K => nO ?_
  · rw [of_decide_eq_true q] at hq
    exact storeX_L R.fr R.nw (fun h' F' N' => hQ _ _ _ news h ⟨R.1, F', N', R.lc.store hv, R.2.2.2.2⟩) fx.k hq
  · rw [q] at hq
    rw [svRef_ok hy] at hg
    refine Classical.byContradiction fun nO => ?_
    obtain ⟨i', e, hi, hlk⟩ := ec n _ hg
    obtain rfl := ref_inj e
    obtain ⟨v₀, hd⟩ := cellO_ok o1 c1
    refine nO ?_
    refine storeX_C R.fr R.nw (by rw [hV.2 _ hi]; exact hlk) u1 hd (fun h' o' F' N' hd' => ?_) fx.k hq
    obtain ⟨news', R'⟩ := K o' (.cell x) h' _ (cellO_I c1) (.cell hd' hv) F' N'
    exact hQ _ _ m news' h R'
noncomputable def tgtS (c : Cfg) (self : Ev) (sc : Sc) (d : Nat) (t : PySem.Expr) (v : SV) (σ : St) (k : St → Bool) : Bool := orO (exName t) (fun x => nameT sc x.1 v σ k) (onO (exSubscript t) fun x => sliceLess x.2.1 && self sc.any d (.ex x.1) σ (kv fun ov σ₁ => self sc.any d (.ex x.2.1) σ₁ (kv fun iv σ₂ => setI2 c ov iv v σ₂ k)))
theorem a_sub {M : Model} {A : Around} {E : Value → Shared → Prop} {s : Shared} {env : Env} {o i : PySem.Expr} {pos : Pos} {v : Value} {Q : Unit → Shared → Prop}
    (h : wpAny M A (eval o env) (fun ov s₂ => wpAny M A (eval i env) (fun iv s₃ => wpAny M A (setItem ov iv v) Q E s₃) E s₂) E s) : wpAny M A (assign (.Subscript o i pos) env v) Q E s := PySem.W.kas_sub h
theorem tgt_sound (hs : Snd G self) {kk : St → Bool} {t : PySem.Expr} {x : SV} (h : tgtS G.cf self sc d t x σ kk = true) {V₀ V : Vl} {A : Around} {env : Env} {h₀ : Heap} {L : Addr} {E : Value → Shared → Prop} (fx : Fx G V₀ A env h₀ L sc d E) (po : PassesOwn (model G.prog G.w) A env E) (hc : sc.comp = none) {s : Shared} {m : PySem.Str → Option Value} {news : List (Addr × Obj)} (hV : V₀.le V) (R : RepG G V σ h₀ L s m news) {v : Value} (hv : VRel G.C V v x) {Q : Unit → Shared → Prop}
    (hQ : ∀ V' σ' s' m' news', V.le V' → kk σ' = true → RepG G V' σ' h₀ L s' m' news' → Q () s') : WPG G A (assign t env v) Q E s := by
  refine Classical.byContradiction fun nO => orO_k h (fun y hy h => nO ?_) fun h => onO_k h fun y hy h => and_k h fun h0 h => nO ?_
  · rw [exName_ok hy]
    exact assign_Name (nameT_sound h fx hc hV R hv fun σ' s' m' news' => hQ V σ' s' m' news' V.le_refl)
  · rw [exSubscript_ok hy]
    refine a_sub (Sc.of <| hs sc.any d _ σ _ h V₀ A env h₀ L E fx.any po V s m news hV R _ (ends_v fun V' ov o σ' s' news' l hk ho R' => ?_))
    refine Sc.of <| hs sc.any d _ σ' _ hk V₀ A env h₀ L E fx.any po V' s' m news' (Vl.le_trans hV l) R' _ (ends_v fun V'' iv i σ'' s'' news'' l' hk' hi R'' => ?_)
    exact setI2_sound R'' (ho.up l') hi (hv.up (Vl.le_trans l l')) hk' fun σ3 s3 news3 => hQ V'' σ3 s3 m news3 (Vl.le_trans l l')
noncomputable def tgtsS (c : Cfg) (self : Ev) (sc : Sc) (d : Nat) (ts : List PySem.Expr) : List SV → St → (St → Bool) → Bool := List.rec (motive := fun _ => List SV → St → (St → Bool) → Bool) (fun xs σ k => List.rec (k σ) (fun _ _ _ => false) xs) (fun t _ ih xs σ k => List.rec false (fun x r _ => starLess t && tgtS c self sc d t x σ fun σ' => ih r σ' k) xs) ts
theorem assignEach_cons {t : PySem.Expr} {r : List PySem.Expr} {env : Env} (h : starLess t = true) : assignEach (t :: r) env = (false, assign t env) :: assignEach r env := by
  cases t <;> first | exact rfl | exact no_k h
theorem tgts_sound (hs : Snd G self) {kk : St → Bool} {V₀ : Vl} {A : Around} {env : Env} {h₀ : Heap} {L : Addr} {E : Value → Shared → Prop} (fx : Fx G V₀ A env h₀ L sc d E) (po : PassesOwn (model G.prog G.w) A env E) (hc : sc.comp = none) (ts : List PySem.Expr) : ∀ {xs : List SV} {σ : St} (_ : tgtsS G.cf self sc d ts xs σ kk = true) {V : Vl} {s : Shared} {m : PySem.Str → Option Value} {news : List (Addr × Obj)} (_ : V₀.le V) (_ : RepG G V σ h₀ L s m news) {vs : List Value} (_ : All2 (VRel G.C V) vs xs) {Q : Unit → Shared → Prop}
    (_ : ∀ V' σ' s' m' news', V.le V' → kk σ' = true → RepG G V' σ' h₀ L s' m' news' → Q () s'), WPG G A (assignInOrder ((assignEach ts env).map (·.2)) vs) Q E s := by
  induction ts with
  | nil =>
    intro xs σ h V s m news _ R vs hv Q hQ
    cases hv with
    | nil => exact assignInOrder_nil (hQ V σ s m news V.le_refl h R)
    | cons => exact no_k h
  | cons t ts ih =>
    intro xs σ h V s m news hV R vs hv Q hQ
    cases hv with
    | nil => exact no_k h
    | cons hv r =>
      refine and_k h fun h0 h => ?_
      rw [assignEach_cons h0]
      exact assignInOrder_cons (tgt_sound hs h fx po hc hV R hv fun V' σ' s' m' news' l hk R' => ih hk (Vl.le_trans hV l) R' (VsRel.up l r) fun V'' σ'' s'' m'' news'' l' => hQ V'' σ'' s'' m'' news'' (Vl.le_trans l l'))
theorem each_len {env : Env} (ts : List PySem.Expr) (h : ts.all starLess = true) : (assignEach ts env).length = ts.length ∧ (assignEach ts env).findIdx? (·.1) = none := by
  induction ts with
  | nil => exact ⟨rfl, rfl⟩
  | cons t ts ih =>
    obtain ⟨h1, h2⟩ := Bool.and_eq_true_iff.mp (show (starLess t && ts.all starLess) = true from h)
    rw [assignEach_cons h1, List.findIdx?_cons, (ih h2).2, List.length_cons, (ih h2).1]
    exact ⟨rfl, rfl⟩
noncomputable def tupT (c : Cfg) (self : Ev) (sc : Sc) (d : Nat) (ts : List PySem.Expr) (v : SV) (σ : St) (k : St → Bool) : Bool := onRef v fun i => hpTup σ i (fun xs => Nat.beq xs.length ts.length && (ts.all starLess && tgtsS c self sc d ts xs σ k)) false
theorem tupT_sound (hs : Snd G self) {kk : St → Bool} {ts : List PySem.Expr} {x : SV} (h : tupT G.cf self sc d ts x σ kk = true) {V₀ V : Vl} {A : Around} {env : Env} {h₀ : Heap} {L : Addr} {E : Value → Shared → Prop} (fx : Fx G V₀ A env h₀ L sc d E) (po : PassesOwn (model G.prog G.w) A env E) (hc : sc.comp = none) {s : Shared} {m : PySem.Str → Option Value} {news : List (Addr × Obj)} (hV : V₀.le V) (R : RepG G V σ h₀ L s m news) {v : Value} (hv : VRel G.C V v x) {kk' : Nat} {p : Pos} {Q : Unit → Shared → Prop}
    (hQ : ∀ V' σ' s' m' news', V.le V' → kk σ' = true → RepG G V' σ' h₀ L s' m' news' → Q () s') : WPG G A (assign (.Tuple ts kk' p) env v) Q E s := by
  apply onRef_k h hv; intro i hi h
  refine Classical.byContradiction fun nO => hpTup_e h (fun xs hg h => and_k h fun p1 h => and_k h fun p2 h => nO ?_) no_k
  refine Classical.byContradiction fun nO => ?_
  obtain ⟨us, t1, t2⟩ := isTup_of R hg
  obtain ⟨e1, e2⟩ := each_len (env := env) ts p2
  refine nO ?_
  refine unpackN_ R.fr R.nw t1 fx.hh (by rw [e1]; simp [t2.len, Nat.eq_of_beq_eq_true p1]) e2 fun h' F' N' => ?_
  exact tgts_sound hs fx po hc ts h (s := { s with heap := h' }) hV (RMove R F' N') (by simpa using t2) hQ
theorem stup_sound (hs : Snd G self) {ts : List PySem.Expr} {v : PySem.Expr} {kk' : Nat} {p pos : Pos} (hcl : compLess v = true) (hw : ∀ env : Env, env.scope = sc.sc → swappedStores [.Tuple ts kk' p] v env = pure none)
    (h : self sc.any d (.ex v) σ (kv fun x σ₁ => tupT G.cf self sc d ts x σ₁ fun σ₂ => k .nx σ₂) = true) : Hold G sc d (.st (.Assign [.Tuple ts kk' p] v pos)) σ k := by
  intro V₀ A env h₀ L E fx po V s m news hV R hc Q hQ
  refine wpX_any ?_
  refine Assign_Tuple (Sc.of <| hs sc.any d _ σ _ h V₀ A env h₀ L E fx.any po V s m news hV R _ (ends_v fun V' v x' σ' s' news' l hk hv R' => ?_)) (sole_no hcl) (hw env fx.e.its.1)
  exact tupT_sound hs hk fx po hc (Vl.le_trans hV l) R' hv fun V'' σ'' s'' m'' news'' l' hk' R'' => hQ V'' _ _ σ'' s'' m'' news'' (Vl.le_trans l l') hk' .nx R''
theorem sname2_sound (hs : Snd G self) {x : PySem.Str} {p pos : Pos} {e : PySem.Expr} (h : (compLess e && self sc d (.ex e) σ (kv fun v σ₁ => nameT sc x v σ₁ fun σ₂ => k .nx σ₂)) = true) : Hold G sc d (.st (.Assign [.Name x p] e pos)) σ k := by
  intro V₀ A env h₀ L E fx po V s m news hV R hc Q hQ
  obtain ⟨c1, h⟩ := Bool.and_eq_true_iff.mp h
  refine x_name (hs sc d _ σ _ h V₀ A env h₀ L E fx po V s m news hV R _ (ends_v fun V' v x' σ' s' news' l hk hv R' => ?_)) (swaps_no c1)
  exact nameT_sound hk fx hc (Vl.le_trans hV l) R' hv fun σ'' s'' m'' news'' hk' R'' => hQ V' _ _ σ'' s'' m'' news'' l hk' .nx R''
theorem ssub2_sound (hs : Snd G self) {o i : PySem.Expr} {p pos : Pos} {e : PySem.Expr} (h : (compLess e && self sc d (.ex e) σ (kv fun v σ₁ => self sc.any d (.ex o) σ₁ (kv fun ov σ₂ => self sc.any d (.ex i) σ₂ (kv fun iv σ₃ => setI2 G.cf ov iv v σ₃ fun σ₄ => k .nx σ₄)))) = true) : Hold G sc d (.st (.Assign [.Subscript o i p] e pos)) σ k := by
  intro V₀ A env h₀ L E fx po V s m news hV R hc Q hQ
  obtain ⟨c1, h⟩ := Bool.and_eq_true_iff.mp h
  refine x_sub (hs sc d _ σ _ h V₀ A env h₀ L E fx po V s m news hV R _ (ends_v fun V' v x' σ' s' news' l hk hv R' => ?_)) (swaps_no c1)
  refine Sc.of <| hs sc.any d _ σ' _ hk V₀ A env h₀ L E fx.any po V' s' m news' (Vl.le_trans hV l) R' _ (ends_v fun V'' v' x'' σ'' s'' news'' l' hk' hv' R'' => ?_)
  refine Sc.of <| hs sc.any d _ σ'' _ hk' V₀ A env h₀ L E fx.any po V'' s'' m news'' (Vl.le_trans hV (Vl.le_trans l l')) R'' _ (ends_v fun V3 v3 x3 σ3 s3 news3 l3 hk3 hv3 R3 => ?_)
  exact setI2_sound R3 (hv'.up l3) hv3 (hv.up (Vl.le_trans l' l3)) hk3 fun σ4 s4 news4 hk4 R4 => hQ V3 _ _ σ4 s4 m news4 (Vl.le_trans l (Vl.le_trans l' l3)) hk4 .nx R4
noncomputable def setAllS (c : Cfg) (ov v : SV) (σ : St) (k : St → Bool) : Bool := onRef ov fun i => onBy v fun b => hpBa σ i (fun _ => onO (lenB c b) fun _ => k { σ with heap := iset i (.ba b) σ.heap }) false
theorem sall_sound (hs : Snd G self) (hcl : sc.cl = true) {o : PySem.Expr} {p p' pos : Pos} {e : PySem.Expr} (h : (compLess e && self sc d (.ex e) σ (kv fun v σ₁ => self sc.any d (.ex o) σ₁ (kv fun ov σ₂ => setAllS G.cf ov v σ₂ fun σ₃ => k .nx σ₃))) = true) : Hold G sc d (.st (.Assign [.Subscript o (.Slice none none none p') p] e pos)) σ k := by
  intro V₀ A env h₀ L E fx po V s m news hV R hc Q hQ
  obtain ⟨c1, h⟩ := Bool.and_eq_true_iff.mp h
  have toC : ∀ {α : Type} {t : Sem α} {P : α → Shared → Prop} {E : Value → Shared → Prop} {s : Shared}, WPX G sc A t P E s → wpC (model G.prog G.w) A t P E s := fun h => by unfold WPX at h; rw [hcl] at h; exact C_X h
  unfold WPX
  rw [hcl]
  refine wpX_C (c_target (sole_no c1) (by cases e <;> rfl) rfl (toC <| hs sc d _ σ _ h V₀ A env h₀ L E fx po V s m news hV R _ (ends_v fun V' v x' σ' s' news' l hk hv R' => ?_)))
  refine c_setAll (Sc.of <| hs sc.any d _ σ' _ hk V₀ A env h₀ L E fx.any po V' s' m news' (Vl.le_trans hV l) R' _ (ends_v fun V'' ov o' σ'' s'' news'' l' hk' ho R'' => ?_))
  apply onRef_k hk' ho; intro i hi h
  apply onBy_k h (hv.up l'); intro z t sb hb h
  refine Classical.byContradiction fun nO => hpBa_e h (fun sb' hg h => onO_k h fun y hy h => RUpd R'' hg fun o g o1 u1 K => nO ?_) no_k
  obtain ⟨b', rfl, -⟩ := ORel.ba' o1
  refine setAll_K R''.fr R''.nw (UpdF.upd u1) rfl (lenB_ok hb hy).2 fun h' F' N' => ?_
  obtain ⟨news3, R3⟩ := K _ (.ba sb) h' _ rfl (.ba hb) F' N'
  exact hQ V'' _ _ _ _ m news3 (Vl.le_trans l l') h .nx R3
noncomputable def noName (sc : Sc) (e : PySem.Expr) : Bool := orO (exName e) (fun x => !locB sc.sc x.1) true
theorem swapless2 {ts : List PySem.Expr} {kk : Nat} {p : Pos} {v : PySem.Expr} {env : Env} (he : env.scope = sc.sc) (h : ts.any (noName sc) = true) : swappedStores [.Tuple ts kk p] v env = pure none := by
  have key : ∀ (line : Nat), (ts.filterMap fun
    | .Name id pos => if env.kindOf id == some .local && pos.line == line then some id else none
    | _ => none).length ≠ ts.length := fun line => by
    refine Nat.ne_of_lt ?_
    induction ts with
    | nil => cases h
    | cons t r ih =>
      have le : ∀ r : List PySem.Expr, (r.filterMap fun
        | .Name id pos => if env.kindOf id == some .local && pos.line == line then some id else none
        | _ => none).length ≤ r.length := fun r => List.length_filterMap_le _ _
      rw [List.filterMap_cons]
      rcases Bool.or_eq_true_iff.mp (show (noName sc t || r.any (noName sc)) = true from h) with h | h
      · cases t
        case Name id pos h =>
          have h : (!locB sc.sc id) = true := h
          have hk : (env.kindOf id == some NameKind.local) = false := by
            show (env.scope.names.lookup id == some NameKind.local) = false
            rw [he, ← sget_lookup]
            cases q : sget id sc.sc.names with
            | none => rfl
            | some kd =>
              have : locB sc.sc id = decide (kd = .local) := by unfold locB; rw [q]; rfl
              rw [this] at h
              cases kd <;> first | rfl | exact no_k h
          dsimp only
          rw [hk]
          exact Nat.lt_succ_of_le (le r)
        all_goals exact Nat.lt_succ_of_le (le r)
      · have := ih h
        split
        · exact Nat.lt_succ_of_lt this
        · exact Nat.succ_lt_succ this
  cases v with
  | Tuple vs k' p' =>
    unfold swappedStores
    dsimp only
    split
    · rfl
    · split
      · rfl
      · rw [if_pos]
        rw [Bool.or_eq_true]
        left
        exact bne_iff_ne.mpr (key _)
  | _ => rfl
end

section
variable {G : Gv} {self : Ev} {sc : Sc} {d : Nat} {σ : St} {k : Kt}
noncomputable def tgtF (c : Cfg) (self : Ev) (sc : Sc) (d : Nat) (t : PySem.Expr) (v : SV) (σ : St) (k : St → Bool) : Bool := orO (exName t) (fun x => nameT sc x.1 v σ k) (onO (exTuple t) fun x => tupT c self sc d x.1 v σ k)
theorem tgtF_sound (hs : Snd G self) {kk : St → Bool} {t : PySem.Expr} {x : SV} (h : tgtF G.cf self sc d t x σ kk = true) {V₀ V : Vl} {A : Around} {env : Env} {h₀ : Heap} {L : Addr} {E : Value → Shared → Prop} (fx : Fx G V₀ A env h₀ L sc d E) (po : PassesOwn (model G.prog G.w) A env E) (hc : sc.comp = none) {s : Shared} {m : PySem.Str → Option Value} {news : List (Addr × Obj)} (hV : V₀.le V) (R : RepG G V σ h₀ L s m news) {v : Value} (hv : VRel G.C V v x) {Q : Unit → Shared → Prop}
    (hQ : ∀ V' σ' s' m' news', V.le V' → kk σ' = true → RepG G V' σ' h₀ L s' m' news' → Q () s') : WPG G A (assign t env v) Q E s := by
  refine orO_k h (fun y hy h => ?_) fun h => onO_k h fun y hy h => ?_
  · rw [exName_ok hy]
    exact assign_Name (nameT_sound h fx hc hV R hv fun σ' s' m' news' => hQ V σ' s' m' news' V.le_refl)
  · rw [exTuple_ok hy]
    exact tupT_sound hs h fx po hc hV R hv hQ
theorem owned_ok {M : Model} {A : Around} {E : Value → Shared → Prop} {s : Shared} {t : PySem.Expr} {r : Addr} {v : Value} {Q : Unit → Shared → Prop} {o : Obj} (ho : s.heap.get? r = some o) (hc : o.cls = .type "list_iterator" ∨ o.cls = .type "range_iterator" ∨ o.cls = .type "bytes_iterator") (h : Q () s) : wpAny M A (letOwnedTupleGo t (.ref r) v) Q E s := by
  have go : wpAny M A (do
      let (.ref r, .ref a) := ((.ref r : Value), v) | return
      let o ← load r
      match o.cls, o.data with
      | .type n, .fields vs =>
        if ["enumerate", "zip", "dict_itemiterator", "dict_reverseitemiterator", "odict_iterator", "itertools.zip_longest", "itertools.pairwise"].contains n && vs[0]? == some (rawInt a) then
          rule "for.unpacks-the-owned-tuple"
          updateField r 0 .none
      | _, _ => pure ()) Q E s := by
    cases v with
    | ref a =>
      refine wpAny_bind (wpAny_load ho ?_)
      rcases hc with hc | hc | hc <;> rw [hc] <;> (cases o.data <;> exact wpAny_pure h)
    | _ => exact wpAny_pure h
  cases t <;> first | exact go | exact wpAny_pure h
noncomputable def afterT (self : Ev) (sc : Sc) (d : Nat) (it : Nat) (t : PySem.Expr) (body : List Stmt) (k : Kt) : Kt := fun f σ => match f with
  | .nx => self sc d (.loop it t body) σ k
  | .bk => k .nx σ
  | .rt v => k (.rt v) σ
  | _ => false
noncomputable def turnS (c : Cfg) (self : Ev) (sc : Sc) (d : Nat) (it : Nat) (t : PySem.Expr) (body : List Stmt) (σ : St) (k : Kt) (x : SV) (so : SO) : Bool := tgtF c self sc d t x { σ with heap := iset it so σ.heap } fun σ₁ => self sc d (.sts body) σ₁ (afterT self sc d it t body k)
noncomputable def loopS (c : Cfg) (self : Ev) (sc : Sc) (d : Nat) (it : Nat) (t : PySem.Expr) (body : List Stmt) (σ : St) (k : Kt) : Bool := hpRit σ it (fun x left => orB (decide (0 < left)) (turnS c self sc d it t body σ k (.int (.lit x)) (.rit (x + 1) (left - 1))) (k .nx { σ with heap := idel it σ.heap })) (hpLit σ it (fun l i => hpList σ l (fun vs => orO vs[i]? (fun x => turnS c self sc d it t body σ k x (.lit l (i + 1))) (k .nx { σ with heap := idel it σ.heap })) false) (hpBit σ it (fun b i => onO (sbL b) fun l => orO l[i]? (fun x => turnS c self sc d it t body σ k (.int x) (.bit b (i + 1))) (k .nx { σ with heap := idel it σ.heap })) false))
theorem none_of {α : Type} {l : List α} {i : Nat} {f : α → Bool} {e : Bool} (h : orO l[i]? f e = true) {P : Prop} (K : ∀ a, l[i]? = some a → f a = true → P) (K' : l.length ≤ i → e = true → P) : P := by
  cases q : l[i]? with
  | some a => rw [q] at h; exact K a q h
  | none => rw [q] at h; exact K' (List.getElem?_eq_none_iff.mp q) h
theorem loop_sound (hs : Snd G self) {it : Nat} {t : PySem.Expr} {body : List Stmt} (h : loopS G.cf self sc d it t body σ k = true) : Hold G sc d (.loop it t body) σ k := by
  intro V₀ A env h₀ L E fx po V s m news hV R hc Q hQ hit
  have hden : ∀ b : List Stmt, (model G.prog G.w).den (.forLoop t (.ref (V.ρ it)) b [] env) = (forTurn t (.ref (V.ρ it)) b [] env).onRaise (fun x => do noteFrame x env; theTreesLotGoes x) := fun _ => rfl
  have turn : ∀ {so so' : SO} {x : SV} {v : Value} {o' : Obj} {h' : Heap} {tk : Nat}, iget it σ.heap = some so → isI so' = isI so → turnS G.cf self sc d it t body σ k x so' = true → VRel G.C V v x → Heap.SameBut (V.ρ it) s.heap h' → h'.get? (V.ρ it) = some o' → ORel G.prog G.w G.C V o' so' →
      wpAny (model G.prog G.w) A (assign t env v) (fun _ s₂ => wpX sc.cl (model G.prog G.w) A (execs body env) (fun f s₃ => match f with
            | .next | .cont => codeX sc.cl (model G.prog G.w) A (.forLoop t (.ref (V.ρ it)) body [] env) (fun r s' => match r with | .ok f => Q f s' | .error e => cameBackBy (model G.prog G.w) A env E e s') s₃
            | .brk => Q .next s₃
            | .ret v => Q (.ret v) s₃) (notedBy (model G.prog G.w) A env fun e s' => cameBackBy (model G.prog G.w) A env E e s') s₂) (notedBy (model G.prog G.w) A env fun e s' => cameBackBy (model G.prog G.w) A env E e s') { s with heap := h', toks := tk } := by
    intro so so' x v o' h' tk hg hI hb hv hsb ho hr'
    obtain ⟨news', R'⟩ := rep_same R hI hg hsb ho hr'
    refine wpAny_mono (tgtF_sound hs (s := { s with heap := h', toks := tk }) hb fx po hc hV R' hv fun V₂ σ₁ s₂ m₂ news₂ l₂ hk R₂ => ?_) (fun _ _ z => z) po
    refine wpX_mono (hs sc d _ σ₁ _ hk V₀ A env h₀ L E fx po V₂ s₂ m₂ news₂ (Vl.le_trans hV l₂) R₂ hc _ fun V' r f σ₃ s₃ m₃ news₃ l hk₃ hR R₃ => ?_) (fun _ _ z => z) po
    cases hR with
    | nx =>
      have l := Vl.le_trans l₂ l
      have := hs sc d _ σ₃ k hk₃ V₀ A env h₀ L E fx po V' s₃ m₃ news₃ (Vl.le_trans hV l) R₃ hc Q (hQ.up l) (Nat.lt_of_lt_of_le hit l.1)
      rwa [l.2 _ hit] at this
    | rt hv' => exact hQ V' _ _ σ₃ s₃ m₃ news₃ (Vl.le_trans l₂ l) hk₃ (.rt hv') R₃
    | bk => exact hQ V' _ _ σ₃ s₃ m₃ news₃ (Vl.le_trans l₂ l) hk₃ .nx R₃
  have stop : ∀ {so : SO} {h' : Heap}, iget it σ.heap = some so → Heap.ExtBut (V.ρ it) s.heap h' → k .nx { σ with heap := idel it σ.heap } = true → Q .next { s with heap := h' } := fun hg he hk => by
    obtain ⟨news', R'⟩ := rep_drop R hg he
    exact hQ V _ _ _ _ m news' (V.le_refl) hk .nx R'
  refine Classical.byContradiction fun nO => hpRit_e h (fun x left hg h => RAt R hg fun o m1 o1 _ => nO ?_) fun h => hpLit_e h (fun l i hg h => hpList_e h (fun vs hgl h => RAt R hg fun o m1 o1 _ => nO ?_) no_k) fun h => hpBit_e h (fun b i hg h => onO_k h fun l hl h => RAt R hg fun o m1 o1 _ => nO ?_) no_k
  · obtain rfl := ORel.rit' o1
    have ho := (R.nw _ m1).1
    refine orB_k h (fun hc h => ?_) fun hc h => ?_
    · exact for_item (v := .int x s.toks) (wpAny_pyNext_range_item ho (of_decide_eq_true hc) fun h' h1 h2 => ⟨rfl, fun Q E q => owned_ok h1 (.inr (.inl rfl)) q, turn (so' := .rit (x + 1) (left - 1)) (x := .int (.lit x)) hg rfl h (.int _ (show x = x from rfl)) h2 h1 .rit⟩) (hden body)
    · exact for_end (wpAny_pyNext_range_end fx.hh ho (Int.not_lt.mp (of_decide_eq_false hc)) fun h' he => ⟨rfl, stop hg he h⟩) (hden body) fun s₁ q => codeAny_block (wpAny_execs_nil q)
  · obtain ⟨hll, hc, hd⟩ := ORel.lit' o1
    obtain ⟨us, t1, t2⟩ := isList_of R hgl
    have hti : s.heap.IsListIter (V.ρ it) (V.ρ l) i := ⟨_, (R.nw _ m1).1, hc, hd⟩
    refine none_of h (fun x hx h => ?_) fun hx h => ?_
    · obtain ⟨y, y1, y2⟩ := all2_get t2 hx
      refine for_item (v := y) (wpAny_pyNext_list_item hti t1 (by simpa using y1) fun h' h1 h2 => ?_) (hden body)
      refine Classical.byContradiction fun nO => ?_
      obtain ⟨o', k1, k2, k3⟩ := h1
      refine nO ?_
      exact ⟨rfl, fun Q E q => owned_ok k1 (.inl k2) q, turn (so' := .lit l (i + 1)) (tk := s.toks) hg rfl h y2 h2 k1 (.lit hll k2 k3)⟩
    · exact for_end (wpAny_pyNext_list_end fx.hh hti t1 (by have := t2.len; simp; omega) fun h' he => ⟨rfl, stop hg he h⟩) (hden body) fun s₁ q => codeAny_block (wpAny_execs_nil q)
  · obtain ⟨bb, tt, hb, hc, hd⟩ := ORel.bit' o1
    have hti : KBw.IsBytesIter s.heap (V.ρ it) bb tt i := ⟨_, (R.nw _ m1).1, hc, hd⟩
    have hb' := bLit hb (sbL_ok hl)
    refine none_of h (fun x hx h => ?_) fun hx h => ?_
    · obtain ⟨y, y1, y2⟩ := all2_get hb' hx
      unfold KBw.bInts at y1
      rw [List.getElem?_map] at y1
      obtain ⟨c, c1, rfl⟩ := Option.map_eq_some_iff.mp y1
      refine for_item (v := .int (c.toNat : Int) s.toks) (KBw.next_item hti (by simpa using c1) fun h' h1 h2 => ?_) (hden body)
      refine Classical.byContradiction fun nO => ?_
      obtain ⟨o', k1, k2, k3⟩ := h1
      refine nO ?_
      exact ⟨rfl, fun Q E q => owned_ok k1 (.inr (.inr k2)) q, turn (so' := .bit b (i + 1)) hg rfl h (.int _ y2) h2 k1 (.bit hb k2 k3)⟩
    · exact for_end (KBw.next_end fx.hh hti (by have := hb'.len; rw [KBw.ints_length] at this; simp; omega) fun h' he => ⟨rfl, stop hg he h⟩) (hden body) fun s₁ q => codeAny_block (wpAny_execs_nil q)
noncomputable def loopN (self : Ev) (sc : Sc) (d : Nat) (t : PySem.Expr) (body : List Stmt) (so : SO) (σ : St) (k : Kt) : Bool := self sc d (.loop σ.nx t body) { σ with nx := σ.nx + 1, heap := (σ.nx, so) :: σ.heap } k
noncomputable def forS (self : Ev) (sc : Sc) (d : Nat) (t iter : PySem.Expr) (body : List Stmt) (σ : St) (k : Kt) : Bool := setLess iter && self sc d (.ex iter) σ (kv fun x σ₁ => orBy x (fun b => loopN self sc d t body (.bit b 0) σ₁ k) (onRef x fun i => hpRgo σ₁ i (fun n => decide (0 ≤ n ∧ n ≤ 1000) && loopN self sc d t body (.rit 0 n) σ₁ k) (hpList σ₁ i (fun _ => loopN self sc d t body (.lit i 0) σ₁ k) false)))
theorem for_sound (hs : Snd G self) {t iter : PySem.Expr} {body : List Stmt} {pos : Pos} (h : forS self sc d t iter body σ k = true) : Hold G sc d (.st (.For t iter body [] pos)) σ k := by
  intro V₀ A env h₀ L E fx po V s m news hV R hc Q hQ
  refine and_k h fun h1 h => x_for (hs sc d _ σ _ h V₀ A env h₀ L E fx po V s m news hV R _ (ends_v fun V' v x σ' s' news' l hk hv R' => ?_)) (folded_no h1)
  have go : ∀ {so : SO} {o : Obj}, o.isFreed = false → isI so = false → ORel G.prog G.w G.C (V'.ext s'.heap.objs.size) o so → loopN self sc d t body so σ' k = true → codeX sc.cl (model G.prog G.w) A (.forLoop t (.ref s'.heap.objs.size) body [] env) (fun r s' => match r with | .ok f => Q f s' | .error e => cameBackBy (model G.prog G.w) A env E e s') { s' with heap := s'.heap.push o } := fun hf hI ho hk => by
    obtain ⟨R2, -⟩ := rep_push R' hf hI ho
    have := hs sc d _ _ k hk V₀ A env h₀ L E fx po _ { s' with heap := _ } m _ (Vl.le_trans (Vl.le_trans hV l) (V'.le_ext _)) R2 hc Q (hQ.up (Vl.le_trans l (V'.le_ext _))) (by show σ'.nx < V'.n + 1; rw [R'.nx]; exact Nat.lt_succ_self _)
    have e3 : (V'.ext s'.heap.objs.size).ρ σ'.nx = s'.heap.objs.size := by rw [← R'.nx]; exact V'.ext_at _
    rwa [e3] at this
  apply orBy_k hk hv
  · intro b tb sb hb h
    exact KBw.pyIter_bytes (go (o := { cls := .type "bytes_iterator", data := .fields #[.bytes _ tb, .int 0 0] }) rfl rfl (.bit hb rfl rfl) h)
  intro h
  apply onRef_k h hv; intro i hi h
  refine Classical.byContradiction fun nO => hpRgo_e h (fun n hg h => dec_k h fun p h => RAt R' hg fun o m1 o1 _ => nO ?_) fun h => hpList_e h (fun vs hg h => nO ?_) no_k
  · obtain ⟨t', u, v, rfl⟩ := ORel.rgo' o1
    obtain ⟨e1, e2⟩ := range_size p.1 p.2
    refine wpAny_pyIter_range (R'.nw _ m1).1 e2 ?_
    rw [e1]
    exact go (o := { cls := .type "range_iterator", dict := none, data := .fields #[rawInt 0, rawInt n, rawInt 1], slots := #[] }) rfl rfl .rit h
  · obtain ⟨us, t1, t2⟩ := isList_of R' hg
    exact wpAny_pyIter_list t1 (go (o := { cls := .type "list_iterator", data := .fields #[.ref (V'.ρ i), .int 0 0] }) rfl rfl (.lit (Nat.lt_succ_of_lt hi) rfl (by rw [(V'.le_ext _).2 _ hi]; rfl)) h)
end

section
variable {G : Gv} {self : Ev} {sc : Sc} {d : Nat} {σ : St} {k : Kt}
theorem nxt_y {p : Int × Int} {many : Int} (h : 0 ≤ p.2) : 0 ≤ (nxt p many).2 ∧ (nxt p many).2 ≤ p.2 + 1 := by
  unfold nxt
  dsimp only
  split <;> (first | lia | omega)
noncomputable def drawn (many : Int) : List SI := orB (decide (many = 3)) [.lit 0, .rng 1 2] ((List.range many.toNat).map fun z : Nat => .lit (z : Int))
theorem drawn_ok {C : Cs} {many z : Int} (h0 : 0 ≤ z) (h1 : z < many) : ∃ i ∈ drawn many, IRel C z i := by
  unfold drawn
  cases q : decide (many = 3) with
  | true =>
    have := of_decide_eq_true q
    by_cases e : z = 0
    · exact ⟨.lit 0, .head _, e⟩
    · exact ⟨.rng 1 2, .tail _ (.head _), by (first | lia | omega), by (first | lia | omega)⟩
  | false => exact ⟨.lit ((z.toNat : Nat) : Int), List.mem_map.mpr ⟨z.toNat, List.mem_range.mpr (by (first | lia | omega)), rfl⟩, show z = ((z.toNat : Nat) : Int) by (first | lia | omega)⟩
noncomputable def drawS (c : Cfg) (d : Nat) (xs : List SV) (σ : St) (k : Kt) : Bool := on2 xs fun a b => onRef a fun i => onLit b fun many => decide (3 ≤ d) && (decide (1 ≤ many) && hpPen σ i (fun j => decide (j ≤ 1000) && onO c.dr[j]? fun y => decide (y.1 = many) && k (.v (.int y.2)) { σ with heap := iset i (.pen (j + 1)) σ.heap }) (hpPenA σ i (fun n => decide (n ≤ 1000) && (drawn many).all fun z => k (.v (.int z)) { σ with heap := iset i (.penA (n + 1)) σ.heap }) false))
theorem draw_sound {xs : List SV} (h : drawS G.cf d xs σ k = true) {V₀ V : Vl} {A : Around} {env : Env} {h₀ : Heap} {L : Addr} {sc : Sc} {E : Value → Shared → Prop} (fx : Fx G V₀ A env h₀ L sc d E) {s : Shared} {m : PySem.Str → Option Value} {news : List (Addr × Obj)} (R : RepG G V σ h₀ L s m news) {vs : List Value} {Q : Value → Shared → Prop} (hv : All2 (VRel G.C V) vs xs) (hQ : Ends G V h₀ L m (RV G.C) k Q) : WPG G A (call (.ref 1308) vs) Q E s := by
  apply on2_k h hv; intro _ _ _ _ h hv hu'
  apply onRef_k h hv; intro i hi h
  apply onLit_k h hu'; intro many t h
  refine Classical.byContradiction fun nO => ?_
  refine dec_k h fun p1 h => dec_k h fun p2 h => ?_
  obtain ⟨-, -, ⟨cn, sc₀, ae, ccd, cl, A₀, base, outer, hk, B, hfr, -⟩, hh, hd, hu, X, -, T⟩ := fx
  refine nO ?_
  refine Classical.byContradiction fun nO => hpPen_e h (fun j hg h => dec_k h fun p3 h => onO_k h fun y hx h => dec_k h fun p4 h => RUpd R hg fun o g o1 u1 K => nO ?_) fun h => hpPenA_e h (fun n hg h => dec_k h fun p3 h => RUpd R hg fun o g o1 u1 K => nO ?_) no_k
  · obtain ⟨tx, ty, c, rfl, b1, b2, b3, b4⟩ := ORel.pen' o1
    have nb := G.hnb
    obtain ⟨q1, q2⟩ := G.hdr j _ y.2 hx
    refine G.hdraw B R.fr X R.nw T hk hfr hh (by (first | lia | omega)) (by (first | lia | omega)) u1 b1 b2 b3 (by (first | lia | omega)) p2 fun td tx' ty' c' h' tk' d1 d2 x1 x2 F' N' => ?_
    have z := nxt_y (p := G.C.π j) (many := many) b3
    rw [p4] at q1 q2
    obtain ⟨news', R'⟩ := K (Mine.pen (nxt (G.C.π j) many).1 (nxt (G.C.π j) many).2 tx' ty' c') (.pen (j + 1)) h' tk' rfl (by
      rw [← q2]
      rw [← q2] at x1 x2 z
      exact .pen x1 x2 z.1 (by push_cast; have := z.2; (first | lia | omega))) F' N'
    exact hQ.v h (.int _ q1) R'
  · obtain ⟨x, y, tx, ty, c, rfl, b1, b2, b3, b4⟩ := ORel.penA' o1
    have nb := G.hnb
    refine G.hdraw B R.fr X R.nw T hk hfr hh (by (first | lia | omega)) (by (first | lia | omega)) u1 b1 b2 b3 (by (first | lia | omega)) p2 fun td tx' ty' c' h' tk' d1 d2 x1 x2 F' N' => ?_
    have z := nxt_y (p := (x, y)) (many := many) b3
    refine Classical.byContradiction fun nO => ?_
    obtain ⟨news', R'⟩ := K (Mine.pen (nxt (x, y) many).1 (nxt (x, y) many).2 tx' ty' c') (.penA (n + 1)) h' tk' rfl (.penA x1 x2 z.1 (by push_cast; have := z.2; dsimp only at this; (first | lia | omega))) F' N'
    obtain ⟨i', i1, i2⟩ := drawn_ok (C := G.C) d1 d2
    refine nO ?_
    exact hQ.v (List.all_eq_true.mp h i' i1) (.int _ i2) R'
noncomputable def octS (c : Cfg) (d : Nat) (xs : List SV) (σ : St) (k : Kt) : Bool := c.fl && on2 xs fun a b => onRef a fun i => onInt b fun n => decide (4 ≤ d) && (onO (loI c.bd n) fun lo => onO (hiI c.bd n) fun hi => decide (1 ≤ lo ∧ hi ≤ 4) && hpPen σ i (fun j => decide (j ≤ 1000) && onO (c.oc.find? fun q => Nat.beq q.1 j) fun q => onO (sameO n q.2.1) fun _ => onO c.dr[j]? fun y => decide (y.1 = 256) && k (.v (.bytes (.var q.2.2))) { σ with heap := iset i (.pen (j + 1)) σ.heap }) false)
theorem oct_sound {xs : List SV} (h : octS G.cf d xs σ k = true) {V₀ V : Vl} {A : Around} {env : Env} {h₀ : Heap} {L : Addr} {sc : Sc} {E : Value → Shared → Prop} (fx : Fx G V₀ A env h₀ L sc d E) {s : Shared} {m : PySem.Str → Option Value} {news : List (Addr × Obj)} (R : RepG G V σ h₀ L s m news) {vs : List Value} {Q : Value → Shared → Prop} (hv : All2 (VRel G.C V) vs xs) (hQ : Ends G V h₀ L m (RV G.C) k Q) : WPG G A (call (.ref 1315) vs) Q E s := by
  refine Classical.byContradiction fun nO => ?_
  refine and_k h fun hfl h => ?_
  obtain ⟨hnb, hoct, hfoul⟩ := G.hfl hfl
  refine nO ?_
  apply on2_k h hv; intro _ _ _ _ h hv hu'
  apply onRef_k h hv; intro i hi h
  apply onInt_k h hu'; intro n t sn hn h
  refine Classical.byContradiction fun nO => ?_
  refine dec_k h fun p1 h => onO_k h fun lo hlo h => onO_k h fun hi' hhi h => dec_k h fun p2 h => ?_
  obtain ⟨-, -, ⟨cn, sc₀, ae, ccd, cl, A₀, base, outer, hk, B, hfr, -⟩, hh, hd, hu, X, -, T⟩ := fx
  refine nO ?_
  refine Classical.byContradiction fun nO => hpPen_e h (fun j hg h => dec_k h fun p3 h => onO_k h fun q hq h => onO_k h fun _ hs h => onO_k h fun y hx h => dec_k h fun p4 h => RUpd R hg fun o g o1 u1 K => nO ?_) no_k
  refine Classical.byContradiction fun nO => ?_
  obtain ⟨tx, ty, c, rfl, b1, b2, b3, b4⟩ := ORel.pen' o1
  refine nO ?_
  have l1 := loI_ok hn hlo
  have l2 := hiI_ok hn hhi
  refine hoct B R.fr X R.nw T hk hfr hh (by (first | lia | omega)) (by (first | lia | omega)) u1 b1 b2 b3 (by (first | lia | omega)) (by (first | lia | omega)) (by (first | lia | omega)) fun b td tx' ty' c' h' tk' hb x1 x2 F' N' => ?_
  obtain ⟨-, q2⟩ := G.hdr j _ y.2 hx
  have z := nxt_y (p := G.C.π j) (many := 256) b3
  rw [p4] at q2
  obtain ⟨news', R'⟩ := K (Mine.pen (nxt (G.C.π j) 256).1 (nxt (G.C.π j) 256).2 tx' ty' c') (.pen (j + 1)) h' tk' rfl (by
    rw [← q2]
    rw [← q2] at x1 x2 z
    exact .pen x1 x2 z.1 (by push_cast; have := z.2; (first | lia | omega))) F' N'
  have e1 := Nat.eq_of_beq_eq_true (List.find?_some (p := fun q : Nat × SI × Nat => Nat.beq q.1 j) hq)
  have e2 := G.hoc q (List.mem_of_find?_eq_some hq) n (sameO_eq hs ▸ hn)
  rw [e1] at e2
  exact hQ.v h (.bytes _ (show KBw.bInts b = G.C.β q.2.2 from hb.trans e2.symm)) R'
noncomputable def foulS (c : Cfg) (d : Nat) (xs : List SV) (σ : St) (k : Kt) : Bool := c.fl && on2 xs fun a b => onRef a fun i => onBy b fun sb => decide (4 ≤ d) && hpPenA σ i (fun n => decide (n ≤ 1000) && onO (lenB c sb) fun x => onO (hiI c.bd x) fun hi => decide (hi ≤ 50) && (k (.v (.bytes (.ln (addI x (.lit 1))))) { σ with heap := iset i (.penA (n + 1)) σ.heap } && (orB (decide (hi ≤ 0)) true (k (.v (.bytes (.ln (subI x (.lit 1))))) { σ with heap := iset i (.penA (n + 1)) σ.heap }) && k (.v (.foul 0)) { σ with heap := iset i (.penA (n + 1)) σ.heap }))) false
theorem foul_sound {xs : List SV} (h : foulS G.cf d xs σ k = true) {V₀ V : Vl} {A : Around} {env : Env} {h₀ : Heap} {L : Addr} {sc : Sc} {E : Value → Shared → Prop} (fx : Fx G V₀ A env h₀ L sc d E) {s : Shared} {m : PySem.Str → Option Value} {news : List (Addr × Obj)} (R : RepG G V σ h₀ L s m news) {vs : List Value} {Q : Value → Shared → Prop} (hv : All2 (VRel G.C V) vs xs) (hQ : Ends G V h₀ L m (RV G.C) k Q) : WPG G A (call (.ref 1329) vs) Q E s := by
  refine Classical.byContradiction fun nO => ?_
  refine and_k h fun hfl h => ?_
  obtain ⟨hnb, hoct, hfoul⟩ := G.hfl hfl
  refine nO ?_
  apply on2_k h hv; intro _ _ _ _ h hv hu'
  apply onRef_k h hv; intro i hi h
  apply onBy_k h hu'; intro b t sb hb h
  refine Classical.byContradiction fun nO => dec_k h fun p1 h => hpPenA_e h (fun n hg h => dec_k h fun p3 h => onO_k h fun x hx h => onO_k h fun hi' hhi h => dec_k h fun p2 h => and_k h fun k1 h => and_k h fun k2 k3 => nO ?_) no_k
  refine Classical.byContradiction fun nO => ?_
  obtain ⟨-, -, ⟨cn, sc₀, ae, ccd, cl, A₀, base, outer, hk, B, hfr, -⟩, hh, hd, hu, X, -, T⟩ := fx
  obtain ⟨q1, q2⟩ := lenB_ok hb hx
  have q3 := hiI_ok q1 hhi
  obtain ⟨o, g, o1, u1, K⟩ := hupd (rest := V.r) R.hp hg R.nd
  obtain ⟨x0, y0, tx, ty, c, rfl, b1, b2, b3, b4⟩ := ORel.penA' o1
  refine nO ?_
  refine hfoul B R.fr X R.nw T hk hfr hh (by (first | lia | omega)) (by (first | lia | omega)) u1 b1 b2 b3 (by (first | lia | omega)) (by (first | lia | omega)) fun v x' y' tx' ty' c' h' tk' extra hf hex c1 c2 c3 c4 F' N' => ?_
  let V' : Vl := { V with r := extra ++ V.r }
  have lv : V.le V' := ⟨Nat.le_refl _, fun _ _ => rfl, fun _ _ => rfl, rfl, fun p hp => List.mem_append_right _ hp⟩
  refine Classical.byContradiction fun nO => ?_
  obtain ⟨news', e1, e2, e3⟩ := K V' (Mine.pen x' y' tx' ty' c') (.penA (n + 1)) rfl lv (.penA c1 c2 c3 (by push_cast; (first | lia | omega)))
  refine nO ?_
  rw [e1] at N'
  have e4 : (news' ++ V.r).map (·.1) = (news ++ V.r).map (·.1) := by rw [List.map_append, e3, ← List.map_append]
  have pm : (news' ++ V'.r).Perm (extra ++ (news' ++ V.r)) := by
    show (news' ++ (extra ++ V.r)).Perm _
    rw [← List.append_assoc, ← List.append_assoc]
    exact List.Perm.append_right _ List.perm_append_comm
  have hx1 : (extra.map (·.1)).Nodup := by
    rcases hf with ⟨e, -⟩ | ⟨e, -⟩ | ⟨a, o, e, -⟩ <;> rw [e]
    · exact List.nodup_nil
    · exact List.nodup_nil
    · exact List.nodup_cons.mpr ⟨List.not_mem_nil, List.nodup_nil⟩
  have R' : RepG G V' { σ with heap := iset i (.penA (n + 1)) σ.heap } h₀ L { s with heap := h', toks := tk' } m news' := by
    refine ⟨R.1, F', fun p hp => N' p (pm.mem_iff.mp hp), R.lc.up lv, e2, (pm.map _).nodup_iff.mpr ?_⟩
    rw [List.map_append]
    refine List.nodup_append.mpr ⟨hx1, e4 ▸ R.nd, fun a ha a' ha' e => ?_⟩
    refine Classical.byContradiction fun nO => ?_
    obtain ⟨z, z1, z2⟩ := List.mem_map.mp ha
    rw [e4] at ha'
    obtain ⟨y, y1, y2⟩ := List.mem_map.mp ha'
    refine nO ?_
    exact hex z z1 y y1 (y2.trans (e.symm.trans z2.symm))
  rcases hf with ⟨-, b', t', rfl, hl | hl⟩ | ⟨-, hv⟩ | ⟨a, o, e, rfl, hc⟩
  · refine hQ V' _ _ _ _ news' lv k1 (.mk (.bytes _ ⟨?_, by (first | lia | omega)⟩)) R'
    rw [hl]
    exact addI_ok (b := .lit 1) (y := 1) q1 rfl
  · refine orB_k k2 (fun z _ => ?_) fun _ k2 => hQ V' _ _ _ _ news' lv k2 (.mk (.bytes _ ⟨?_, by (first | lia | omega)⟩)) R'
    · have := of_decide_eq_true z; (first | lia | omega)
    · rw [show ((KBw.bInts b').length : Int) = (KBw.bInts b).length - 1 by (first | lia | omega)]
      exact subI_ok (b := .lit 1) (y := 1) q1 rfl
  · exact hQ V' _ _ _ _ news' lv k3 (.mk (show VRel G.C V' v (.foul 0) from hv.elim .inl fun z => .inr (.inl z))) R'
  · exact hQ V' _ _ _ _ news' lv k3 (.mk (show VRel G.C V' (.ref a) (.foul 0) from .inr (.inr ⟨a, o, rfl, by show (a, o) ∈ extra ++ V.r; rw [e]; exact .head _, hc⟩))) R'
end

section
variable {G : Gv} {self : Ev} {sc : Sc} {d : Nat} {σ : St} {k : Kt}
theorem iset_same {α : Type} {i : Nat} {v : α} {l : List (Nat × α)} (h : iget i l = some v) : iset i v l = l := by
  induction l with
  | nil => exact no_o h
  | cons q r ih =>
    refine iget_cons h (fun e1 e2 q1 => ?_) fun q1 h => ?_
    · rw [iset_at q1, ← e2]
    · rw [iset_off q1, ih h]
noncomputable def noPar (p : Arguments) : Bool := p.posonlyargs.isEmpty && (p.args.isEmpty && (p.vararg.isNone && (p.kwonlyargs.isEmpty && (p.kw_defaults.isEmpty && (p.kwarg.isNone && p.defaults.isEmpty)))))
theorem noPar_ok {p : Arguments} (h : noPar p = true) : p = noArgs :=
  and_k h fun a1 h => and_k h fun a2 h => and_k h fun a3 h => and_k h fun a4 h => and_k h fun a5 h => and_k h fun a6 a7 => by
    refine Classical.byContradiction fun nO => ?_
    obtain ⟨p1, p2, p3, p4, p5, p6, p7⟩ := p
    refine nO ?_
    rw [show p1 = [] from List.isEmpty_iff.mp a1, show p2 = [] from List.isEmpty_iff.mp a2, show p3 = none from Option.isNone_iff_eq_none.mp a3, show p4 = [] from List.isEmpty_iff.mp a4, show p5 = [] from List.isEmpty_iff.mp a5, show p6 = none from Option.isNone_iff_eq_none.mp a6, show p7 = [] from List.isEmpty_iff.mp a7]
noncomputable def lamS (sc : Sc) (params : Arguments) (body : PySem.Expr) (scope : Scope) (σ : St) (k : Kt) : Bool := noPar params && noneO sc.comp (onO sc.tb fun t => onO (closE sc.cells scope.names []) fun m => onO (obind (iget t.1 σ.heap) asTab) fun q => seq t.2 q && newO σ (.lam body scope t.2 m) k)
theorem lam_sound {params : Arguments} {body : PySem.Expr} {scope : Scope} {pos : Pos} (h : lamS sc params body scope σ k = true) : Hold G sc d (.ex (.Lambda params body scope pos)) σ k := by
  intro V₀ A env h₀ L E fx po V s m news hV R Q hQ
  refine wpX_any (and_k h fun hpa h => noneO_k h fun hcp h => onO_k h fun t htb h => onO_k h fun mc hcl h => onO_k h fun q' hg h => and_k h fun hq hk => ?_)
  rw [noPar_ok hpa]
  rw [← seq_iff.mp hq] at hg
  refine Classical.byContradiction fun nO => ?_
  obtain ⟨ht, ⟨c, hc, CH⟩, hqn⟩ := fx.tb t.1 t.2 htb
  obtain ⟨-, -, -, ec⟩ := fx.e.its
  obtain ⟨clos, c1, c2⟩ := closure_ok ec hcl
  obtain ⟨mean, mg, mb, T⟩ := fx.T
  obtain ⟨cn, ae, ccd, cl, rfl⟩ := fx.fn hcp
  refine nO ?_
  have hc : ccd = .ref c := hc
  refine PySem.W.kla_eval rfl ?_
  rw [hqn]
  have hm' := CellsIn.up hV c2
  refine Classical.byContradiction fun nO => ?_
  obtain ⟨o, g, o1, u1, k3⟩ := hupd (rest := V.r) R.hp (get_k asTab_ok hg) R.nd
  obtain ⟨ps, rfl, ht'⟩ := ORel.tab' o1
  refine nO ?_
  have CH' := CH
  rw [← hV.2 _ ht] at CH'
  cases hca : codeAmong pos ps.toList with
  | none =>
    refine PySem.W.kla_nest R.fr R.nw T CH' hc u1 ht'.1 hca c1 fun f c' oc vs t' ctv h' tk F' N' d1 d2 l1 l2 => ?_
    let V' : Vl := { V with r := (c', oc) :: V.r }
    have lv : V.le V' := ⟨Nat.le_refl _, fun _ _ => rfl, fun _ _ => rfl, rfl, fun p hp => .tail _ hp⟩
    refine Classical.byContradiction fun nO => ?_
    obtain ⟨news', e1, e2, e3⟩ := k3 V' (tabObj (ps ++ #[rawInt pos.line, rawInt pos.col, .ref c'])) (.tab t.2) rfl lv (.tab (ht'.push d1 d2))
    refine nO ?_
    rw [iset_same (get_k asTab_ok hg)] at e2
    rw [e1] at N'
    have e4 : (news' ++ V.r).map (·.1) = (news ++ V.r).map (·.1) := by rw [List.map_append, e3, ← List.map_append]
    have fresh : ∀ p ∈ news' ++ V.r, p.1 < c' := fun p hp => by
      obtain ⟨p', hp', e⟩ := List.mem_map.mp (show p.1 ∈ (news ++ V.r).map (·.1) by rw [← e4]; exact List.mem_map_of_mem hp)
      exact e ▸ l1 p' hp'
    have pm : (news' ++ V'.r).Perm ((c', oc) :: (news' ++ V.r)) := List.perm_middle (a := (c', oc)) (l₁ := news') (l₂ := V.r)
    have R1 : RepG G V' σ h₀ L { s with heap := h', toks := tk } m news' := ⟨R.1, F', fun p hp => N' p (.tail _ (pm.mem_iff.mp hp)), R.lc.up lv, e2, (pm.map _).nodup_iff.mpr (List.nodup_cons.mpr ⟨fun z => (List.mem_map.mp z).elim fun p hp => Nat.lt_irrefl _ (hp.2 ▸ fresh p hp.1), e4 ▸ R.nd⟩)⟩
    generalize hlo : PySem.W.kla_obj _ _ _ _ _ _ _ _ _ = lo at N'
    exact rep_newV (hQ.up lv) R1 (o := lo) (so := .lam body scope t.2 mc) F' (fun p hp => N' p ((List.mem_cons.mp hp).elim (fun z => z ▸ .head _) fun hp => .tail _ (pm.mem_iff.mp hp))) (fun p hp => (List.mem_cons.mp (pm.mem_iff.mp hp)).elim (fun z => z ▸ l2) fun hp => Nat.lt_trans (fresh p hp) l2) (fun q => nomatch q) (hlo ▸ .lam (CellsIn.up (Vl.le_trans lv (V'.le_ext f)) hm') ⟨oc, vs, t', .head _, d1, d2⟩) hk
  | some cv =>
    refine Classical.byContradiction fun nO => ?_
    obtain ⟨c', oc, vs, t', rfl, hm, d1, d2⟩ := ht'.2 _ _ hca
    refine nO ?_
    exact PySem.W.kla_hit R.fr R.nw T CH' hc (UpdF.mem u1) ht'.1 hca c1 fun f ctv h' tk F' N' l1 => rep_newV hQ R (so := .lam body scope t.2 mc) F' N' l1 (fun q => nomatch q) (.lam (CellsIn.up (V.le_ext f) hm') ⟨oc, vs, t', hm, d1, d2⟩) hk
end

section
variable {G : Gv} {self : Ev} {d : Nat} {σ : St} {k : Kt}
noncomputable def okL (scope : Scope) : Bool := decide (scope.isCoroutine = false ∧ scope.isGenerator = false ∧ scope.kind = .function) && scope.names.all (fun x => decide (x.2 ≠ .cell))
noncomputable def lamCS (self : Ev) (sc : Sc) (d : Nat) (i : Nat) (σ : St) (k : Kt) : Bool := Nat.rec false (fun d _ => onO (obind (iget i σ.heap) asLam) fun x => okL x.2.1 && self ⟨x.2.1, x.2.2.2, none, sc.q, sc.cl, none⟩ d (.ex x.1) { σ with loc := [] } (kv fun v σ' => k (.v v) { σ' with loc := σ.loc })) d
theorem lam_code (hs : Snd G self) {sc : Sc} {i : Nat} (h : lamCS self sc d i σ k = true) {V₀ V : Vl} {A : Around} {env : Env} {h₀ : Heap} {L : Addr} {R' : Result → Shared → Prop} (fx : Fx G V₀ A env h₀ L sc d fun e s' => R' (.error e) s') {s : Shared} {m : PySem.Str → Option Value} {news : List (Addr × Obj)} (hV : V₀.le V) (R : RepG G V σ h₀ L s m news)
    (hQ : Ends G V h₀ L m (RV G.C) k fun v s' => R' (.ok (.ret v)) s') : codeX sc.cl (model G.prog G.w) A (.call (.ref (V.ρ i)) ⟨[], []⟩) R' s := by
  cases d with
  | zero => exact no_k h
  | succ d' =>
  refine Classical.byContradiction fun nO => ?_
  refine onO_k h fun x hg h => and_k h fun ok h => dec_k ok fun g g4 => RAt R (get_k asLam_ok hg) fun o m1 o1 _ => ?_
  obtain ⟨-, -, ⟨cn, sc₀, ae, ccd, cl, A₀, base, outer, hk, B, hfr, hEq⟩, hh, hd, hu, X, -, mean, mg, mb, T⟩ := fx
  obtain ⟨name, clos, pm, ctv, c', rfl, hcl, oc, vs, t, c1, c2, c3⟩ := ORel.lam' o1
  refine nO ?_
  refine codeX_lam (binds := []) B R.fr X R.nw T hfr rfl hk m1 ⟨c', oc, vs, t, rfl, (R.nw _ (List.mem_append_right _ c1)).1, c2, c3⟩ (Nat.lt_of_le_of_lt (Nat.le_trans (Nat.le_add_right _ _) hd) (by decide)) rfl (fun _ h => nomatch h) (fun g' L' h₁ FG F' N' B' X' T' => ?_) g.1 g.2.1 g.2.2 (fun x hx => of_decide_eq_true (List.all_eq_true.mp g4 x hx))
  exact hs _ _ _ _ _ h V _ _ g' L' _ (fx_in hfr hEq hh hd hu hV FG B' X' T' hcl g.2.2) (PassesOwn.leaving (Q₁ := fun e s'' => R' (.error e) s'')) V { s with heap := h₁, toks := _ } _ news (Vl.le_refl V) ⟨R.1, F', N', fun _ _ e => no_o e, R.2.2.2.2⟩ _ (ends_v fun V' v x σ' s' news' l' hk' hv' R2 => ⟨L', _, _, R2.fr, R2.nw, fun F3 N3 => hQ V' _ _ _ s' news' l' hk' (.mk hv') ⟨R2.1, F3, N3, R.lc.up l', R2.2.2.2.2⟩⟩)
end

section
variable {G : Gv} {self : Ev} {sc : Sc} {d : Nat} {σ : St} {k : Kt}
noncomputable def fnCell (c : Cfg) (a : Nat) : Bool := onO (iget a c.fo) fun b => b
noncomputable def notLit (xs : List SV) : Bool := on2 xs fun _ w => onInt w fun n => noneO (siN n) true
noncomputable def callS (c : Cfg) (self : Ev) (sc : Sc) (d : Nat) (f : SV) (xs : List SV) (σ : St) (k : Kt) : Bool := orObj f (fun a => orB (Nat.beq a 59) (excS d xs σ k) (orB (Nat.beq a 1308) (drawS c d xs σ k) (orB (c.fl && Nat.beq a 1329) (foulS c d xs σ k) (orB (c.fl && (Nat.beq a 1315 && notLit xs)) (octS c d xs σ k) (orO (iget a c.cs) (fun _ => clsS c self sc d a xs σ k) (orB (fnCell c a) (fnCS c self sc d a xs σ k) (fnS c self sc d a xs σ k))))))) (orRef f (fun i => xs.isEmpty && lamCS self sc d i σ k) (orTy f (fun t => orB (decide (t = "bytearray")) (sc.cl && baS c xs σ k) (ty2S c t xs σ k)) (onBi f fun f => orB (decide (f = "isinstance")) (isinS c xs σ k) (biT c f xs σ k))))
theorem callS_sound (hs : Snd G self) {f : SV} {xs : List SV} (h : callS G.cf self sc d f xs σ k = true) : Hold G sc d (.call f xs) σ k := by
  intro V₀ A env h₀ L E fx po V s m news hV R fv vs Q hf hv hQ
  apply orObj_k h hf
  · intro a h
    refine orB_k h (fun q h => ?_) fun _ h => orB_k h (fun q h => ?_) fun _ h => orB_k h (fun q h => and_k q fun _ q => ?_) fun _ h => orB_k h (fun q h => and_k q fun _ q => and_k q fun q _ => ?_) fun _ h => orO_k h (fun _ _ h => cls_sound hs h fx hV R hv hQ) fun h => orB_k h (fun _ h => wpX_any <| wpAny_call (fnC_code hs h fx hV R hv hQ)) fun _ h => fn_sound hs h fx hV R hv hQ
    · rw [Nat.eq_of_beq_eq_true q]; exact wpX_any <| exc_sound h fx R hv hQ
    · rw [Nat.eq_of_beq_eq_true q]; exact wpX_any <| draw_sound h fx R hv hQ
    · rw [Nat.eq_of_beq_eq_true q]; exact wpX_any <| foul_sound h fx R hv hQ
    · rw [Nat.eq_of_beq_eq_true q]; exact wpX_any <| oct_sound h fx R hv hQ
  intro h
  apply orRef_k h hf
  · intro i hi h
    refine and_k h fun q h => ?_
    rw [List.length_eq_zero_iff.mp (hv.len.trans (List.length_eq_zero_iff.mpr (List.isEmpty_iff.mp q)))]
    exact wpX_call (lam_code hs h fx hV R hQ)
  intro h
  apply orTy_k h hf
  · intro t h
    refine orB_k h (fun q h => and_k h fun h1 h => ?_) fun _ h => wpX_any <| ty2_ok xs σ k h V A E h₀ L s m news fx.hh R vs Q hv hQ
    rw [of_decide_eq_true q]; exact ba_sound h h1 R hv hQ
  intro h
  apply onBi_k h hf; intro f h
  refine orB_k h (fun q h => ?_) fun _ h => wpX_any <| bi_ok f xs σ k h V A E h₀ L s m news fx.hh R vs Q hv hQ
  rw [of_decide_eq_true q]; exact wpX_any <| isin_sound h fx.X R hv hQ
noncomputable def oneC (ops : List CmpOp) (rs : List PySem.Expr) (f : CmpOp → PySem.Expr → Bool) : Bool := onO (oneL ops) fun op => onO (oneL rs) fun r => f op r
theorem oneC_k {ops : List CmpOp} {rs : List PySem.Expr} {f : CmpOp → PySem.Expr → Bool} (h : oneC ops rs f = true) {P : List CmpOp → List PySem.Expr → Prop} (K : ∀ op r, f op r = true → P [op] [r]) : P ops rs := onO_k h fun x hx h => onO_k h fun y hy h => by rw [oneL_ok hx, oneL_ok hy]; exact K x y h
noncomputable def subX (c : Cfg) (self : Ev) (sc : Sc) (d : Nat) (v sl : PySem.Expr) (σ : St) (k : Kt) : Bool := orO (exSlice sl) (fun x => sliceS c self sc d v x.1 x.2.1 x.2.2.1 σ k) (sliceLess sl && self sc.any d (.ex v) σ (kv fun a σ₁ => self sc.any d (.ex sl) σ₁ (kv fun b σ₂ => onO (sub2 c a b σ₂) fun x => k (.v x) σ₂)))
noncomputable def boolX (self : Ev) (sc : Sc) (d : Nat) (op : BoolOp) (pos : Pos) (xs : List PySem.Expr) (σ : St) (k : Kt) : Bool := List.rec false (fun x r _ => List.rec (self sc d (.ex x) σ k) (fun y rest _ => decide (op = .And) && self sc d (.ex x) σ (kbool fun c σ₁ => orB c (self sc d (.ex (.BoolOp .And (y :: rest) pos)) σ₁ k) (k (.v (.bool false)) σ₁))) r) xs
theorem boolX_sound (hs : Snd G self) {op : BoolOp} {pos : Pos} {xs : List PySem.Expr} (h : boolX self sc d op pos xs σ k = true) : Hold G sc d (.ex (.BoolOp op xs pos)) σ k := by
  cases xs with
  | nil => exact no_k h
  | cons x r => cases r with
    | nil => exact vone_sound hs h
    | cons y r => exact dec_k h fun e h => by rw [e]; exact vand_sound hs h
noncomputable def exS (c : Cfg) (self : Ev) (sc : Sc) (d : Nat) (e : PySem.Expr) (σ : St) (k : Kt) : Bool := match e with
  | .Name x _ => nameS c sc x σ k
  | .Constant q _ _ => constS q σ k
  | .Attribute v a _ => attrS c self sc d v a σ k
  | .Call f args kws pos => kws.isEmpty && evCall c self sc d f args pos σ k
  | .BinOp l op r _ => self sc.any d (.ex l) σ (kv fun a σ₁ => self sc.any d (.ex r) σ₁ (kv fun b σ₂ => bin2S c op a b σ₂ k))
  | .UnaryOp op x _ => decide (op = .USub) && self sc.any d (.ex x) σ (kv fun a σ₁ => negS a σ₁ k)
  | .Compare l ops rs _ => oneC ops rs fun op r => compS1 c self sc d l r op σ (fun t σ => k (.v (.bool t)) σ)
  | .IfExp t b o _ => self sc.any d (.tst t) σ (kb fun c σ₁ => orB c (self sc.any d (.ex b) σ₁ k) (self sc.any d (.ex o) σ₁ k))
  | .BoolOp op xs pos => boolX self sc d op pos xs σ k
  | .Tuple es _ _ => self sc d (.ars es) σ (kvs fun xs σ₁ => decide (xs.length ≤ 1000) && newO σ₁ (.tup xs) k)
  | .List es _ => self sc.any d (.ars es) σ (kvs fun xs σ₁ => decide (xs.length ≤ 1000) && newO σ₁ (.list xs) k)
  | .Dict ks vs _ => ks.isEmpty && (vs.isEmpty && newO σ (.idict []) k)
  | .ListComp elt gs scope _ => compS self sc d elt gs scope σ k
  | .Lambda params body scope _ => lamS sc params body scope σ k
  | .Subscript v sl _ => subX c self sc d v sl σ k
  | _ => false
theorem exS_sound (hs : Snd G self) {e : PySem.Expr} (h : exS G.cf self sc d e σ k = true) : Hold G sc d (.ex e) σ k := by
  cases e
  case Name => exact name_sound h
  case Constant => exact const_sound h
  case Attribute => exact attr_sound hs h
  case Call => exact and_k h fun e h => by rw [List.isEmpty_iff.mp e]; exact call_sound hs h
  case BinOp => exact binop2_sound hs h
  case UnaryOp => exact dec_k h fun e h => by rw [e]; exact neg_sound hs h
  case Compare l _ _ pos => exact oneC_k h (P := fun ops rs => Hold G sc d (.ex (.Compare l ops rs pos)) σ k) fun op r h => compare_sound hs h
  case IfExp => exact ifexp_sound hs h
  case BoolOp => exact boolX_sound hs h
  case Tuple => exact tuple_sound hs h
  case List => exact list_sound hs h
  case Dict => exact and_k h fun e h => and_k h fun e' h => by rw [List.isEmpty_iff.mp e, List.isEmpty_iff.mp e']; exact dict_sound h
  case Subscript => exact orO_k h (fun x hx h => by rw [exSlice_ok hx]; exact slice_sound hs h) fun h => sub2e_sound hs h
  case ListComp => exact comp_sound hs h
  case Lambda => exact lam_sound h
  all_goals exact no_k h
noncomputable def boolT (self : Ev) (sc : Sc) (d : Nat) (op : BoolOp) (pos : Pos) (xs : List PySem.Expr) (σ : St) (k : Kt) : Bool := List.rec (k (.b (BoolOp.rec true false op)) σ) (fun x rest _ => BoolOp.rec (self sc d (.tst x) σ (kb fun b σ₁ => orB b (self sc d (.tst (.BoolOp .And rest pos)) σ₁ k) (k (.b false) σ₁))) (self sc d (.tst x) σ (kb fun b σ₁ => orB b (k (.b true) σ₁) (self sc d (.tst (.BoolOp .Or rest pos)) σ₁ k))) op) xs
theorem boolT_sound (hs : Snd G self) {op : BoolOp} {pos : Pos} {xs : List PySem.Expr} (h : boolT self sc d op pos xs σ k = true) : Hold G sc d (.tst (.BoolOp op xs pos)) σ k := by
  cases xs with
  | nil => exact tnil_sound h
  | cons => cases op with
    | And => exact tand_sound hs h
    | Or => exact tor_sound hs h
noncomputable def twoC (ops : List CmpOp) (rs : List PySem.Expr) (f : CmpOp → CmpOp → PySem.Expr → PySem.Expr → Bool) : Bool := onCons ops fun a l => onO (oneL l) fun b => onCons rs fun x l' => onO (oneL l') fun y => f a b x y
theorem twoC_k {ops : List CmpOp} {rs : List PySem.Expr} {f : CmpOp → CmpOp → PySem.Expr → PySem.Expr → Bool} (h : twoC ops rs f = true) {P : List CmpOp → List PySem.Expr → Prop} (K : ∀ a b x y, f a b x y = true → P [a, b] [x, y]) : P ops rs := onCons_k h fun a l e h => onO_k h fun b hb h => onCons_k h fun x l' e' h => onO_k h fun y hy h => by rw [e, e', oneL_ok hb, oneL_ok hy]; exact K a b x y h
noncomputable def tstS (c : Cfg) (self : Ev) (sc : Sc) (d : Nat) (e : PySem.Expr) (σ : St) (k : Kt) : Bool := match e with
  | .UnaryOp op x _ => decide (op = .Not) && self sc d (.tst x) σ (kb fun b σ₁ => k (.b (!b)) σ₁)
  | .BoolOp op xs pos => boolT self sc d op pos xs σ k
  | .Compare l ops rs _ => orB (Nat.beq ops.length 1) (oneC ops rs fun op r => compS1 c self sc d l r op σ (fun t σ => k (.b t) σ)) (twoC ops rs fun op op' r r' => chS c self sc d l r r' op op' σ k)
  | e => plainE e && self sc d (.ex e) σ (kbool fun b σ₁ => k (.b b) σ₁)
theorem tstS_sound (hs : Snd G self) {e : PySem.Expr} (h : tstS G.cf self sc d e σ k = true) : Hold G sc d (.tst e) σ k := by
  cases e
  case UnaryOp => exact dec_k h fun e h => by rw [e]; exact tnot_sound hs h
  case BoolOp => exact boolT_sound hs h
  case Compare l ops rs pos => exact orB_k h (fun _ h => oneC_k h (P := fun ops rs => Hold G sc d (.tst (.Compare l ops rs pos)) σ k) fun op r h => tcompare_sound hs h) fun _ h => twoC_k h (P := fun ops rs => Hold G sc d (.tst (.Compare l ops rs pos)) σ k) fun a b x y h => tchain_sound hs h
  all_goals exact tplain_sound hs h
noncomputable def asgTS (c : Cfg) (self : Ev) (sc : Sc) (d : Nat) (ts : List PySem.Expr) (e : PySem.Expr) (σ : St) (k : Kt) : Bool := orB (ts.any (noName sc)) (compLess e && self sc.any d (.ex e) σ (kv fun x σ₁ => tupT c self sc d ts x σ₁ fun σ₂ => k .nx σ₂)) (orO (exTuple e) (fun x => onO (swOk sc ts x.1) fun ns => ns.all (fun n => locB sc.sc n) && self sc d (.ex (.Tuple x.1 x.2.1 x.2.2)) σ (swK ns k)) (compLess e && (dispLess e && self sc.any d (.ex e) σ (kv fun x σ₁ => tupT c self sc d ts x σ₁ fun σ₂ => k .nx σ₂))))
theorem asgT_sound (hs : Snd G self) {ts : List PySem.Expr} {kk : Nat} {p : Pos} {e : PySem.Expr} {pos : Pos} (h : asgTS G.cf self sc d ts e σ k = true) : Hold G sc d (.st (.Assign [.Tuple ts kk p] e pos)) σ k :=
  orB_k h (fun q h => and_k h fun h1 h2 => stup_sound hs h1 (fun env he => swapless2 he q) h2) fun _ h => orO_k h (fun x hx h => onO_k h fun ns ho h => and_k h fun h1 h2 => by rw [exTuple_ok hx]; exact sswap_sound hs ho h1 h2) fun h => and_k h fun h1 h => and_k h fun h3 h2 => stup_sound hs h1 (fun env _ => swapless h3) h2
noncomputable def asgS (c : Cfg) (self : Ev) (sc : Sc) (d : Nat) (t e : PySem.Expr) (σ : St) (k : Kt) : Bool := orO (exName t) (fun x => compLess e && self sc d (.ex e) σ (kv fun v σ₁ => nameT sc x.1 v σ₁ fun σ₂ => k .nx σ₂)) (orO (exAttribute t) (fun x => self sc d (.ex e) σ (kv fun v σ₁ => self sc.any d (.ex x.1) σ₁ (kv fun ov σ₂ => setA c ov x.2.1 v σ₂ k))) (orO (exTuple t) (fun x => asgTS c self sc d x.1 e σ k) (onO (exSubscript t) fun x => orO (exSlice x.2.1) (fun y => y.1.isNone && (y.2.1.isNone && (y.2.2.1.isNone && (sc.cl && (compLess e && self sc d (.ex e) σ (kv fun v σ₁ => self sc.any d (.ex x.1) σ₁ (kv fun ov σ₂ => setAllS c ov v σ₂ fun σ₃ => k .nx σ₃))))))) (compLess e && self sc d (.ex e) σ (kv fun v σ₁ => self sc.any d (.ex x.1) σ₁ (kv fun ov σ₂ => self sc.any d (.ex x.2.1) σ₂ (kv fun iv σ₃ => setI2 c ov iv v σ₃ fun σ₄ => k .nx σ₄)))))))
theorem asgS_sound (hs : Snd G self) {t e : PySem.Expr} {pos : Pos} (h : asgS G.cf self sc d t e σ k = true) : Hold G sc d (.st (.Assign [t] e pos)) σ k := by
  refine orO_k h (fun x hx h => ?_) fun h => orO_k h (fun x hx h => ?_) fun h => orO_k h (fun x hx h => ?_) fun h => onO_k h fun x hx h => ?_
  · rw [exName_ok hx]; exact sname2_sound hs h
  · rw [exAttribute_ok hx]; exact sattr_sound hs h
  · rw [exTuple_ok hx]; exact asgT_sound hs h
  · rw [exSubscript_ok hx]
    refine orO_k h (fun y hy h => and_k h fun a1 h => and_k h fun a2 h => and_k h fun a3 h => and_k h fun h1 h => ?_) fun h => ssub2_sound hs h
    rw [exSlice_ok hy, Option.isNone_iff_eq_none.mp a1, Option.isNone_iff_eq_none.mp a2, Option.isNone_iff_eq_none.mp a3]
    exact sall_sound hs h1 h
noncomputable def stS (c : Cfg) (self : Ev) (sc : Sc) (d : Nat) (st : Stmt) (σ : St) (k : Kt) : Bool := match st with
  | .Assign ts e _ => onO (oneL ts) fun t => asgS c self sc d t e σ k
  | .Expr e _ => compLess e && self sc d (.ex e) σ (kv fun _ σ₁ => k .nx σ₁)
  | .Return e _ => orO e (fun e => self sc d (.ex e) σ (kv fun v σ₁ => k (.rt v) σ₁)) (e.isNone && k (.rt .none) σ)
  | .If t b o _ => self sc d (.tst t) σ (kb fun c σ₁ => orB c (self sc d (.sts b) σ₁ k) (self sc d (.sts o) σ₁ k))
  | .Pass _ => k .nx σ
  | .Break _ => k .bk σ
  | .Raise e c' _ => noneO c' (onO e fun e => raiseS c self sc d e σ)
  | .For t iter body orelse _ => orelse.isEmpty && forS self sc d t iter body σ k
  | .While t body orelse _ => orelse.isEmpty && self sc.any d (.whl t body) σ k
  | _ => false
theorem stS_sound (hs : Snd G self) {st : Stmt} (h : stS G.cf self sc d st σ k = true) : Hold G sc d (.st st) σ k := by
  cases st
  case Assign => exact onO_k h fun t ht h => by rw [oneL_ok ht]; exact asgS_sound hs h
  case Expr => exact sexpr_sound hs h
  case Return => exact orO_k h (fun e he h => by rw [he]; exact sret_sound hs h) fun h => and_k h fun e h => by rw [Option.isNone_iff_eq_none.mp e]; exact sretn_sound h
  case If => exact sif_sound hs h
  case Pass => exact spass_sound h
  case Break => exact sbrk_sound h
  case Raise => exact noneO_k h fun e h => onO_k h fun x hx h => by rw [e, hx]; exact raise_sound hs h
  case For => exact and_k h fun e h => by rw [List.isEmpty_iff.mp e]; exact for_sound hs h
  case While => exact and_k h fun e h => by rw [List.isEmpty_iff.mp e]; exact while_sound hs h
  all_goals exact no_k h
noncomputable def step1 (c : Cfg) (self : Ev) : Ev := fun sc d t σ k => match t with
  | .ex e => exS c self sc d e σ k
  | .ars es => arsS self sc d es σ k
  | .st st => stS c self sc d st σ k
  | .sts ss => stsS self sc d ss σ k
  | .tst e => tstS c self sc d e σ k
  | .call f xs => callS c self sc d f xs σ k
  | .loop it t body => loopS c self sc d it t body σ k
  | .whl t body => whlS self sc d t body σ k
theorem step1_sound (hs : Snd G self) : Snd G (step1 G.cf self) := fun sc d t σ k h => by
  cases t with
  | ex e => exact exS_sound hs h
  | ars es => exact ars_sound hs h
  | st st => exact stS_sound hs h
  | sts ss => exact sts_sound hs h
  | tst e => exact tstS_sound hs h
  | call f xs => exact callS_sound hs h
  | loop it t body => exact loop_sound hs h
  | whl t body => exact whl_sound hs h
noncomputable def runR (c : Cfg) (n : Nat) : Ev := Nat.rec (fun _ _ _ _ _ => false) (fun _ self => step1 c self) n
theorem run_sound (n : Nat) : Snd G (runR G.cf n) := by
  induction n with
  | zero => intro sc d t σ k h; cases h
  | succ n ih => exact step1_sound ih
end

theorem turn_back {A₀ : Around} {base h₀ g g' h : Heap} {outer : List Env} {L L' : Addr} {m m' : PySem.Str → Option Value} {env : Env} (hf : env.frame = some L)
    (K : Below A₀ base outer h₀) (FG : Fr h₀ L g m) (T : KtsTurn ((env :: outer).filterMap (·.frame)) g g') (F : Fr g' L' h m') :
    ∃ h₁, KtsTurn (outer.filterMap (·.frame)) h₀ h₁ ∧ Fr h₁ L h m ∧ Below A₀ base outer h₁ := by
  have e : (env :: outer).filterMap (·.frame) = (envOf default default L 0 .none :: outer).filterMap (·.frame) := by
    rw [List.filterMap_cons, List.filterMap_cons, hf]
    rfl
  rw [e] at T
  refine kts_ground (B := hideAll g' ((envOf default default L 0 .none :: outer).filterMap (·.frame))) K FG (fun b o e nm => hideAll_get _ (T.other b o e nm) nm) (fun b o e => F.keep b o (of_hideAll _ e)) (fun b o e _ => ?_)
  obtain ⟨sl, hs⟩ := T.up e
  exact ⟨sl, F.keep _ _ hs⟩
section
variable {prog : Program} {w : PySem.World} {A₀ : Around} {E : Value → Shared → Prop} {s' : Shared} {base g G : Heap} {outer : List Env} {L a e : Addr} {m : PySem.Str → Option Value} {name what : PySem.Str} {scope : Scope} {cd : Value}
  {n : PySem.Str} {b₀ : Stmt} {suite : List Stmt} {pos np : Pos} {rest : List ExceptHandler} {Q : Flow → Shared → Prop} {news : List (Addr × Obj)} {KF : Frag}
  {p : Program} {loose : List PySem.Str} {mean : ExcName → Option Value} {mg mb : PySem.Str → Option Value} {x : PySem.Str}
  {nm q : PySem.Str} {N' : Addr} {bs bm : List Value} {hdct : Bool} {sn : List PySem.Str} {sub : List Value} {ab : Bool} {col : Option Bool} {dd : Option Addr} {k0 k1 k2 k3 k5 : Option Value} {newId : String}
theorem note_mild {M : Model} {A : Around} {env : Env} {Q : Unit → Shared → Prop} {P : Heap → Prop} {s : Shared} (h : ∀ Q : Unit → Shared → Prop, (∀ h', P h' → Q () { s with heap := h' }) → wpAny M A (noteFrame (.ref e) env) Q E s)
    (k : ∀ h', P h' → DictsKept s.heap h' → Q () { s with heap := h' }) : wpAny M A (noteFrame (.ref e) env) Q E s :=
  wpAny_mono (mild_any (mild_note _ _) (h (fun _ s2 => ∃ h', s2 = { s with heap := h' } ∧ P h') fun h' z => ⟨h', rfl, z⟩)) (fun _ _ ⟨⟨h', e, z⟩, dk⟩ => by subst e; exact k h' z dk) fun _ _ z => z
theorem flight_mild {M : Model} {A : Around} {f : Option Addr} {Q : Unit → Shared → Prop} {P : Heap → Prop} {s : Shared} (h : ∀ Q : Unit → Shared → Prop, (∀ h', P h' → Q () { s with heap := h' }) → wpAny M A (setFlight (.ref e) f) Q E s)
    (k : ∀ h', P h' → DictsKept s.heap h' → Q () { s with heap := h' }) : wpAny M A (setFlight (.ref e) f) Q E s :=
  wpAny_mono (mild_any (mild_flight _ _) (h (fun _ s2 => ∃ h', s2 = { s with heap := h' } ∧ P h') fun h' z => ⟨h', rfl, z⟩)) (fun _ _ ⟨⟨h', e, z⟩, dk⟩ => by subst e; exact k h' z dk) fun _ _ z => z
theorem caught_X (R : RaisedX w base G (envOf name scope L a cd :: outer) e what news s'.heap) (F : Fr g L G m) (K : Below A₀ base outer g) (hsm : G.UpToSlots s'.heap) (XB : KF.In base) (TB : Top p loose mean mg mb base)
    (ex : nsIn KF mainGlobals x = some (some (.ref 59))) (hC : KF.lookup 59 = some (excClassObj nm q 59 N' bs bm hdct sn sub ab col dd k0 k1 k2 k3 k5 newId)) (hbase : bm.contains (.type "BaseException") = true)
    (k : ∀ h' g' tk oe dx tk' ta tb vs, KtsTurn (outer.filterMap (·.frame)) g g' → Fr g' L h' (fun y => if y = n then some (.ref e) else m y) → News g' L h' ((e, oe) :: (dx, excDict w what tk' ta tb) :: news) → oe.cls = .ref 59 → oe.dict = some dx → oe.data = .fields vs →
      Below A₀ base outer g' → KF.In g' → Top p loose mean mg mb g' →
      wpAny (model prog w) ((A₀.deeper (envOf name scope L a cd)).mark (some (.ref e))) (execs (b₀ :: suite) (envOf name scope L a cd))
        (fun f s₄ => wpAny (model prog w) (A₀.deeper (envOf name scope L a cd)) (do bindName (envOf name scope L a cd) n .none; unbindBehindTheSuite (envOf name scope L a cd) n pos) (fun _ s₅ => Q f s₅) E s₄)
        (AsSuiteRaised (model prog w) ((A₀.deeper (envOf name scope L a cd)).mark (some (.ref e))) (envOf name scope L a cd) n pos (notedBy (model prog w) ((A₀.deeper (envOf name scope L a cd)).mark (some (.ref e))) (envOf name scope L a cd) (cameBackBy (model prog w) (A₀.deeper (envOf name scope L a cd)) (envOf name scope L a cd) E)))
        { s' with heap := h', toks := tk })
    (hk : scope.kind = .function) (hlo : (envOf name scope L a cd).kindOf n = some .local) (hx : (envOf name scope L a cd).kindOf x = some .globalImplicit) (hd : (x == ("__debug__" : PySem.Str)) = false) :
    wpAny (model prog w) (A₀.deeper (envOf name scope L a cd)) (noteFrame (.ref e) (envOf name scope L a cd))
      (fun _ s₂ => wpAny (model prog w) (A₀.deeper (envOf name scope L a cd)) (setFlight (.ref e) none) (fun _ s₃ =>
        wpAny (model prog w) (A₀.deeper (envOf name scope L a cd)) (handleBy (.ref e) (envOf name scope L a cd) (.ExceptHandler (some (.Name x np)) (some n) (b₀ :: suite) pos :: rest)) Q E s₃) E s₂) E s' := by
  refine Classical.byContradiction fun nO => ?_
  obtain ⟨B, a0, dx, tk', ta, tb, hB, hBG, hl, hfl, oe0, hoe0, hod0⟩ := R
  refine nO ?_
  have hL : B.get? L = none := by
    refine Classical.byContradiction fun nO => ?_
    obtain ⟨_, ⟨L', _, hf, hn', _⟩, _⟩ := hfl.2.2.1
    obtain rfl : L = L' := Option.some.inj hf
    refine nO ?_
    exact hn'
  refine note_mild (P := fun h' => Heap.HeldW B (envOf name scope L a cd :: outer) e (.ref 59) a0 L h' ∧ s'.heap.UpToSlots h') (fun Q z => wpAny_looks_onW (Around.frames_deeper K.stack) rfl hfl fun h₄ u v => z h₄ ⟨u, v⟩) fun h₄ ⟨hheld₄, hsm₄⟩ d₄ => ?_
  refine flight_mild (s := { s' with heap := h₄ }) (P := fun h' => Heap.FlyingW B (envOf name scope L a cd :: outer) e (.ref 59) a0 h' ∧ h₄.UpToSlots h') (fun Q z => wpAny_landsW (s := { s' with heap := h₄ }) hheld₄ fun h₅ u v => z h₅ ⟨u, v⟩) fun h₅ ⟨hheld, hsm₅'⟩ d₅ => ?_
  have hsm₅ := hsm₄.trans hsm₅'
  refine Classical.byContradiction fun nO => ?_
  obtain ⟨g₅, T₅, F₅, K₅⟩ := kts_ground K F hBG hheld.1 (hsm.trans hsm₅)
  have X₅ : KF.In g₅ := XB.keeps K₅.stays
  have P₅ : TopRead p loose mg mb g₅ := topRead_of (TB.keeps K₅.stays)
  obtain ⟨ob, hob, hobc⟩ := hheld.there
  refine nO ?_
  refine wpAny_handleBy_cons (codeAny_handlers_test (name_K F₅ X₅ P₅ ex ?_ hk hx hd)) (by intro q; cases q)
  have hC' : h₅.get? 59 = some _ := (X₅.keeps F₅.keep) _ _ hC
  refine wpAny_excMatches_sub_self hC' hob hobc hbase (codeAny_handlers_suite_as ?_)
  refine flight_mild (P := fun h' => Heap.FlyingW B (envOf name scope L a cd :: outer) e (.ref 59) a0 h' ∧ h₅.UpToSlots h') (fun Q z => lands_againW hheld fun h₆ u v => z h₆ ⟨u, v⟩) fun h₆ ⟨hfl₆, hsm₆⟩ d₆ => ?_
  refine Classical.byContradiction fun nO => ?_
  obtain ⟨g₆, T₆, F₆, K₆⟩ := kts_ground K F hBG hfl₆.1 ((hsm.trans hsm₅).trans hsm₆)
  obtain ⟨oe, ws, hoe, hoec, hoed, _⟩ := hfl₆.first
  obtain ⟨o6, ho6, hod6⟩ := (d₄.trans (d₅.trans d₆)) _ _ hoe0
  refine nO ?_
  have hdx : oe.dict = some dx := by
    have : o6 = oe := Option.some.inj (ho6.symm.trans hoe)
    rw [← this, hod6, hod0]
  have ne₆ : g₆.get? e = none := T₆.none_ _ (kts_fresh F hBG hfl₆.2.1 fun o ho m => by
    refine Classical.byContradiction fun nO => ?_
    obtain ⟨_, o', ho', hd⟩ := K.frames.mem m
    refine nO ?_
    rw [ho] at ho'
    cases ho'
    obtain ⟨sl, hs⟩ := ((hsm.trans hsm₅).trans hsm₆) _ _ (F.keep _ _ ho) hd
    rw [hoe] at hs
    cases hs
    exact hd _ hoed)
  have Nl : News g₆ L h₆ ((dx, excDict w what tk' ta tb) :: news) := fun q hq => ⟨hfl₆.1 _ _ (hl q hq).1, (fun z => by have := (hl q hq).1; rw [z, hL] at this; cases this), T₆.none_ _ (none_below F.keep (hl q hq).2.1)⟩
  have N₆ : News g₆ L h₆ ((e, oe) :: (dx, excDict w what tk' ta tb) :: news) := News.more F₆ Nl hoe (fun es n q => by rw [hoed] at q; cases q) ne₆
  refine stN F₆ N₆ (fun h₇ F₇ N₇ => ?_) hk hlo
  exact k h₇ g₆ _ oe dx tk' ta tb ws T₆ F₇ N₇ hoec hdx hoed K₆ (XB.keeps K₆.stays) (TB.keeps K₆.stays)
end
theorem exg_kind : builtinKind "BaseException.__getattribute__" = some .slot := by decide +kernel
theorem exg_split : splitId "BaseException.__getattribute__" = some ("BaseException", "__getattribute__") := by decide +kernel
theorem exg_args (a b : Value) : argsOk "BaseException.__getattribute__" ⟨[a, b], []⟩ := by unfold argsOk; kernel_rfl
theorem exg_plain : plainId "BaseException.__getattribute__" = true := by decide +kernel
theorem exg_entry : entryFor table "BaseException.__getattribute__" = some Builtin.«object.__getattribute__» :=
  entryFor_alias (id' := "object.__getattribute__") (by kernel_rfl) (by first | rfl | decide +kernel) (by decide +kernel) (by kernel_rfl)
theorem exg_bind (self : Value) : bindSpecial (.builtin "BaseException.__getattribute__") self = pure (.builtin "BaseException.__getattribute__", [self]) :=
  (Slot.of (T := "BaseException") (name := "__getattribute__") (owner := "BaseException") (n := "__getattribute__") (by rw [typeLookup_type, builtinLookup_eq_fast]; kernel_rfl) (by decide +kernel) (by decide +kernel) (by decide +kernel)
    (.inl (by decide +kernel)) (by rw [isSubtype_type]; kernel_rfl)).bind self
section
open Builtin Builtin.ObjectAttr
variable {prog : Program} {w : PySem.World} {A : Around} {K : Frag} {E : Value → Shared → Prop} {s : Shared} {C x : Addr} {ox : Obj} {od : Option Obj} {name : PySem.Str} {v : Value} {expr : Bool}
theorem exg {Q : Value → Shared → Prop} (X : K.In s.heap) (I : InstAt s.heap x ox C od) (hga : findIn K (.ref C) "__getattribute__" = some (some (.builtin "BaseException.__getattribute__"))) (hgt : findIn K (.ref C) "__getattr__" = some none)
    (hb : mroIn K C (.type "BaseException") = some true) (hf : findObj K C od name = some (.value v)) (hh : handedIn v = true) (h : Q v { s with toks := s.toks + 1 }) : wpAny (model prog w) A (getAttr (.ref x) name expr) Q E s := by
  refine Classical.byContradiction fun nO => ?_
  obtain ⟨hp, g, d, t, os⟩ := s
  refine nO ?_
  dsimp only at X I
  have L0 := I.type (M := model prog w)
  have L1 := looks_find (M := model prog w) X I hf
  have L2 := looks_findIn (M := model prog w) X hga
  have L3 := looks_findIn (M := model prog w) X hgt
  have L4 : Looks (model prog w) hp (isInstance (.ref x) (.type "BaseException")) true := L0.andThen (looks_mroIn X hb)
  unfold getAttr
  refine wpAny_bind (wpAny_mkText ?_)
  unfold getAttrBy
  refine wpAny_holding (wpAny_bind (L0.at (wpAny_bind (L2.at ?_))))
  refine bm_if_false (by rfl) ?_
  unfold getAttrByItsOwn hookBefore
  refine wpAny_bind (bm_if_true rfl (L3.at ?_))
  refine wpAny_bind (wpAny_attempt (wpAny_holding ?_))
  unfold callGetattribute
  refine bm_if_false (by cases expr <;> rfl) ?_
  unfold boundAndCalled
  rw [exg_bind]
  refine wpAny_bind (wpAny_pure ?_)
  show wpAny _ _ (call (.builtin "BaseException.__getattribute__") [.ref x, .str name t] []) _ _ _
  refine wpAny_call (codeAny_call_builtin exg_plain exg_entry ?_)
  refine @check_slot (model prog w) _ _ ⟨hp, g, d, t + 1, os⟩ "BaseException.__getattribute__" "BaseException" "__getattribute__" (.ref x) [.str name t] [] _ exg_kind exg_split L4 (exg_args (.ref x) (.str name t)) ?_
  unfold Builtin.«object.__getattribute__»
  refine wpAny_bind (wpAny_of_eq (a := (Value.ref x, [Value.str name t])) rfl ?_)
  refine wpAny_bind (wpAny_of_eq (a := name) rfl ?_)
  refine wpAny_bind (L0.at ?_)
  refine wpAny_bind (L1.at ?_)
  refine wpAny_pure ?_
  show wpAny _ _ (handedOut v) _ _ _
  rw [handedOut_of hh]
  exact wpAny_pure h
end
noncomputable def LeaveT (A₀ : Around) (base h₀ : Heap) (L : Addr) (m : PySem.Str → Option Value) (env : Env) (outer : List Env) (g : Heap) (R : Result → Shared → Prop) (v : Value) (s' : Shared) : Prop :=
  ∃ g' L' m' news', KtsTurn ((env :: outer).filterMap (·.frame)) g g' ∧ Fr g' L' s'.heap m' ∧ News g' L' s'.heap news' ∧
    (∀ h₁, KtsTurn (outer.filterMap (·.frame)) h₀ h₁ → Fr h₁ L s'.heap m → News h₁ L s'.heap news' → Below A₀ base outer h₁ → R (.ok (.ret v)) s')
section
variable {prog : Program} {w : PySem.World} {A A₀ : Around} {s : Shared} {K : Frag} {L : Addr} {h₀ base : Heap} {m mg mb : PySem.Str → Option Value} {news : List (Addr × Obj)} {p : Program} {loose : List PySem.Str} {mean : ExcName → Option Value} {R : Result → Shared → Prop}
theorem leaveT_done {env : Env} {outer : List Env} {g : Heap} {v : Value} {s' : Shared} (hf : env.frame = some L) (B : Below A₀ base outer h₀) (FG : Fr h₀ L g m) (z : LeaveT A₀ base h₀ L m env outer g R v s') : R (.ok (.ret v)) s' := by
  refine Classical.byContradiction fun nO => ?_
  obtain ⟨g', L', m', news', T, F', N', k⟩ := z
  obtain ⟨h₁, T1, F1, B1⟩ := turn_back hf B FG T F'
  refine nO ?_
  have hLg : ∃ o, g.get? L = some o := by obtain ⟨o, _, _, ho, _⟩ := FG.ns; exact ⟨o, ho⟩
  refine k h₁ T1 F1 (fun q hq => ⟨(N' q hq).1, fun z => ?_, T1.none_ _ ?_⟩) B1
  · obtain ⟨o, ho⟩ := hLg
    obtain ⟨sl, hs⟩ := T.up ho
    have := (N' q hq).2.2
    rw [z, hs] at this
    cases this
  · refine none_below FG.keep ?_
    cases e : g.get? q.1 with
    | none => rfl
    | some o =>
      obtain ⟨sl, hs⟩ := T.up e
      rw [(N' q hq).2.2] at hs
      cases hs
end
section
variable {α : Type} {b : Bool} {M : Model} {A : Around} {E : Value → Shared → Prop} {s : Shared} {env : Env}
theorem wpX_attempt {m : Sem α} {Q : Except Value α → Shared → Prop} (h : wpX b M A m (fun a => Q (.ok a)) (fun e => Q (.error e)) s) : wpX b M A m.attempt Q E s := fun Γ p hΓ c => by rw [Sem.wp_attempt]; exact h Γ p hΓ c
theorem x_try {body orelse : List Stmt} {h₀ : ExceptHandler} {hs : List ExceptHandler} {pos : Pos} {Q : Flow → Shared → Prop}
    (h : wpX b M A (execs body env) (fun _ _ => False) (fun e s₁ => wpAny M A (noteFrame e env) (fun _ s₂ => wpAny M A (setFlight e none) (fun _ s₃ => wpAny M A (handleBy e env (h₀ :: hs)) Q E s₃) E s₂) E s₁) s) :
    wpX b M A (exec (.Try body (h₀ :: hs) orelse [] pos) env) Q E s := by
  rw [arm_exec_Try]
  refine wpX_bindA (wpAny_standAt ?_)
  delta tryStmt
  dsimp only
  rw [if_pos (show ([] : List Stmt).isEmpty = true from rfl)]
  refine wpX_bind (wpX_attempt (wpX_mono h (fun _ _ z => z.elim) fun e s₁ h₁ => wpX_any ?_))
  dsimp only
  rw [if_neg (show ¬(h₀ :: hs).isEmpty = true from fun x => nomatch x), Bool.false_and, if_neg Bool.false_ne_true]
  exact wpAny_bind (wpAny_mono h₁ (fun _ _ h₂ => wpAny_bind h₂) fun _ _ x => x)
end
section
variable {b : Bool} {prog : Program} {w : PySem.World} {A A₀ : Around} {s : Shared} {K : Frag} {L : Addr} {h₀ base : Heap} {m mg mb : PySem.Str → Option Value} {news : List (Addr × Obj)} {p : Program} {loose : List PySem.Str} {mean : ExcName → Option Value} {R : Result → Shared → Prop}
theorem codeX_defT {env : Env} {outer : List Env} {name qual : PySem.Str} {params : Arguments} {body : List Stmt} {scope : Scope} {dV kV doc pm cdv ct oc : Value} {an od : Option Addr} {osl : Array (Option Value)} {f : Addr} {args : Args} {binds : List (PySem.Str × Value)}
    (B : Below A₀ base outer h₀) (F : Fr h₀ L s.heap m) (X₀ : K.In h₀) (N : News h₀ L s.heap news) (T : Top p loose mean mg mb h₀) (hA : A.frames = some (env :: outer)) (hf : env.frame = some L) (hke : env.scope.kind = .function)
    (ho : K.lookup f = some ⟨oc, od, .func (fnOf name qual params body scope dV kV doc pm an cdv ct), osl⟩) (hcd : codeIn K cdv qual = true) (hroom : A.depth < recursionLimit)
    (hbind : BindsTo s (fnOf name qual params body scope dV kV doc pm an cdv ct) args binds) (hloc : ∀ y ∈ binds, scope.names.lookup y.1 = some .local)
    (h : ∀ g L' h₁, Fr h₀ L g m → Fr g L' h₁ (fun y => binds.reverse.lookup y) → News g L' h₁ news → Below A base (env :: outer) g → K.In g → Top p loose mean mg mb g →
      wpX b (model prog w) (A.deeper (envOf qual scope L' f cdv)) (execs body (envOf qual scope L' f cdv))
        (fun fl s' => LeaveT A₀ base h₀ L m env outer g R (match fl with | .ret v => v | _ => .none) s')
        (fun e s' => wpAny (model prog w) (A.deeper (envOf qual scope L' f cdv)) (leaving (envOf qual scope L' f cdv) e) (fun _ s'' => R (.error e) s'') (fun e' s'' => R (.error e') s'') s')
        { s with heap := h₁, toks := s.toks + binds.length })
    (hco : scope.isCoroutine = false) (hgen : scope.isGenerator = false) (hk : scope.kind = .function)
    (hcell : ∀ x ∈ scope.names, x.2 ≠ .cell) : codeX b (model prog w) A (.call (.ref f) args) R s := by
  refine Classical.byContradiction fun nO => ?_
  obtain ⟨FG, BG, st, _⟩ := groundX (R := R) B F N hA hf hke
  refine nO ?_
  refine codeX_def0 (fd := fnX name qual params body scope [] dV kV doc pm an cdv ct) (body := body) (binds := binds) hroom ((X₀.keeps F.keep) _ _ ho) rfl (T.nolimit.keeps F.keep) (codeRec_of (X₀.keeps F.keep) hcd) rfl hbind hcell hloc (fun h₁ hns hk₁ => ?_) hco hgen hk
  exact wpX_mono (h _ s.heap.objs.size h₁ FG ⟨hns, fun b o e => hk₁ b o (of_hideAll _ e), Nat.le_of_eq (hideAll_size _ _)⟩
    (fun p hp => ⟨hk₁ _ _ (N p hp).1, Nat.ne_of_lt (Heap.lt_size (N p hp).1), hideAll_none _ (List.mem_map_of_mem hp)⟩) BG (X₀.keeps st) (T.keeps st)) (fun fl s' z => leaveT_done hf B FG z) fun _ _ y => y
theorem codeX_defTC {env : Env} {outer : List Env} {name qual : PySem.Str} {params : Arguments} {body : List Stmt} {scope : Scope} {dV kV doc pm cdv ct oc : Value} {an od : Option Addr} {osl : Array (Option Value)} {f : Addr} {args : Args} {binds : List (PySem.Str × Value)}
    (B : Below A₀ base outer h₀) (F : Fr h₀ L s.heap m) (X₀ : K.In h₀) (N : News h₀ L s.heap news) (T : Top p loose mean mg mb h₀) (hA : A.frames = some (env :: outer)) (hf : env.frame = some L) (hke : env.scope.kind = .function)
    (ho : K.lookup f = some ⟨oc, od, .func (fnOf name qual params body scope dV kV doc pm an cdv ct), osl⟩) (hcd : codeIn K cdv qual = true) (hroom : A.depth < recursionLimit)
    (hbind : BindsTo s (fnOf name qual params body scope dV kV doc pm an cdv ct) args binds) (hkind : (binds.all fun y => scope.names.lookup y.1 == some .local || scope.names.lookup y.1 == some .cell) = true)
    (hnd : ((cellsFrom 0 scope.names []).map (·.1)).Nodup)
    (h : ∀ g L' h₁ tk cells, Fr h₀ L g m → Fr g L' h₁ (bindL (envOfC qual scope L' f cdv).kindOf binds fun _ => none) → News g L' h₁ (cells ++ news) →
      CellsAre (bindC (envOfC qual scope L' f cdv).kindOf binds fun _ => none) (cellsFrom (L' + 1) scope.names []) cells → Below A base (env :: outer) g → K.In g → Top p loose mean mg mb g → (∀ p ∈ news, p.1 < L') →
      wpX b (model prog w) (A.deeper (envOfC qual scope L' f cdv)) (execs body (envOfC qual scope L' f cdv))
        (fun fl s' => LeaveT A₀ base h₀ L m env outer g R (match fl with | .ret v => v | _ => .none) s')
        (fun e s' => wpAny (model prog w) (A.deeper (envOfC qual scope L' f cdv)) (leaving (envOfC qual scope L' f cdv) e) (fun _ s'' => R (.error e) s'') (fun e' s'' => R (.error e') s'') s')
        { s with heap := h₁, toks := tk })
    (hco : scope.isCoroutine = false) (hgen : scope.isGenerator = false) (hk : scope.kind = .function) : codeX b (model prog w) A (.call (.ref f) args) R s := by
  refine Classical.byContradiction fun nO => ?_
  obtain ⟨FG, BG, st, _⟩ := groundX (R := R) B F N hA hf hke
  refine nO ?_
  refine codeX_of_tree rfl (wpX_any ?_)
  show wpAny _ A.in1 (callAny (.ref f) args) _ _ s
  refine wpAny_bind (m := load f) (wpAny_load ((X₀.keeps F.keep) _ _ ho) ?_)
  refine Classical.byContradiction fun nO => ?_
  obtain ⟨c, oc', vs, tq, hc, hoc, hdc, hq⟩ := codeRec_of (X₀.keeps F.keep) hcd
  refine nO ?_
  show wpAny _ _ (callFunction f (fnOf name qual params body scope dV kV doc pm an cdv ct) args) _ _ _
  delta callFunction
  dsimp only
  rw [hc, hco, hgen]
  refine wpAny_bind (m := field (.ref c) 1) (wpAny_field hoc hdc hq (wpAny_bind (wpAny_pure ?_)))
  refine wpAny_bind (hbind _ _ _ _ ?_)
  rw [← hc]
  refine wpAny_bind (wpAny_newFunctionEnv_cells hk (kindsX hkind _) fun env' he s' x => ?_)
  subst he
  refine wpAny_bind (wpAny_enterFrame ((T.nolimit.keeps F.keep).keeps x.toInCall.keep) hroom (wpAny_pure (And.intro rfl (codeX_func ?_))))
  refine Classical.byContradiction fun nO => ?_
  obtain ⟨h₁, tk, rfl, _⟩ := x.done
  have hk₁ := x.toInCall.keep
  obtain ⟨cells, NC, Y⟩ := Cl.news (h₀ := s.heap) (Nat.le_refl _) fun n c hm => ⟨x.cell n c (lookup_of_mem_nodup (cellsFrom_names scope.names 0 (s.heap.objs.size + 1) [] [] rfl ▸ hnd) hm), x.above n c hm⟩
  refine nO ?_
  refine wpX_mono (h _ s.heap.objs.size h₁ tk cells FG ⟨x.toInCall.ns, fun b o e => hk₁ b o (of_hideAll _ e), Nat.le_of_eq (hideAll_size _ _)⟩ (fun p hp => ?_) Y BG (X₀.keeps st) (T.keeps st) (fun p hp => Heap.lt_size (N p hp).1)) (fun fl s' z => leaveT_done hf B FG z) fun _ _ y => y
  rcases List.mem_append.mp hp with hp | hp
  · refine ⟨(NC p hp).1, (NC p hp).2.1, ?_⟩
    cases q : (hideAll s.heap (news.map (·.1))).get? p.1 with
    | none => rfl
    | some o => have := of_hideAll _ q; rw [(NC p hp).2.2] at this; cases this
  · exact ⟨hk₁ _ _ (N p hp).1, Nat.ne_of_lt (Heap.lt_size (N p hp).1), hideAll_none _ (List.mem_map_of_mem hp)⟩
end


noncomputable abbrev NoE : Value → Shared → Prop := fun _ _ => False
noncomputable def Gnd (A : Around) (env : Env) (h₀ h₁ : Heap) : Prop := ∀ outer, A.frames = some (env :: outer) → KtsTurn (outer.filterMap (·.frame)) h₀ h₁
theorem Gnd.refl {A : Around} {env : Env} {h₀ : Heap} : Gnd A env h₀ h₀ := fun _ _ => KtsTurn.refl
theorem Gnd.trans {A : Around} {env : Env} {h₀ h₁ h₂ : Heap} (a : Gnd A env h₀ h₁) (b : Gnd A env h₁ h₂) : Gnd A env h₀ h₂ := fun o e => (a o e).trans (b o e)
noncomputable abbrev TT := List (Nat × Nat × PySem.Str)
noncomputable def TabFor (G : Gv) (V : Vl) (base : Heap) (x : Nat × Nat × PySem.Str) : Prop := x.2.1 < V.n ∧ ∀ r, fnR G.K x.1 = some r → (∃ c, r.1.code = .ref c ∧ PySem.W.CodeHd base c (V.ρ x.2.1)) ∧ (r.1.qualname ++ ".<locals>.") ++ Str.ofString "<lambda>" = x.2.2
structure FxT (G : Gv) (tt : TT) (V : Vl) (A : Around) (env : Env) (h₀ : Heap) (L : Addr) (sc : Sc) (d : Nat) : Prop where
  c : CellsIn V env.cells sc.cells
  k : sc.sc.kind = .function
  cp : sc.comp = none
  q : sc.q = true
  o : ∃ cn a ccd cl A₀ base outer, env = envX cn sc.sc L a ccd cl ∧ Below A₀ base outer h₀ ∧ A.frames = some (env :: outer) ∧ G.K.In base ∧ (∃ mean mg mb, Top G.p G.loose mean mg mb base) ∧ (∀ t q, sc.tb = some (t, q) → t < V.n ∧ (∃ c, env.code = .ref c ∧ PySem.W.CodeHd base c (V.ρ t)) ∧ env.qual ++ Str.ofString "<lambda>" = q) ∧ ∀ x ∈ tt, TabFor G V base x
  hh : A.handled = none
  hd : A.depth + d ≤ 900
  hu : A.units + 20 * d ≤ 9000
section
variable {G : Gv} {tt : TT} {V V' : Vl} {A : Around} {env : Env} {h₀ h₁ : Heap} {L : Addr} {sc : Sc} {d : Nat}
theorem codeHd_keeps {h h' : Heap} {c P : Addr} (H : PySem.W.CodeHd h c P) (k : h.StaysIn h') : PySem.W.CodeHd h' c P := by
  refine Classical.byContradiction fun nO => ?_
  obtain ⟨o, vs, f1, f2, f3, f4, f5, f6, f7, e, r⟩ := H
  refine nO ?_
  exact ⟨o, vs, f1, f2, f3, f4, f5, f6, f7, k _ _ e, r⟩
theorem TabFor.up (l : V.le V') {base : Heap} {x : Nat × Nat × PySem.Str} (h : TabFor G V base x) : TabFor G V' base x := ⟨Nat.lt_of_lt_of_le h.1 l.1, by rw [l.2 _ h.1]; exact h.2⟩
theorem FxT.fx (f : FxT G tt V A env h₀ L sc d) {E : Value → Shared → Prop} : Fx G V A env h₀ L sc d E := by
  refine Classical.byContradiction fun nO => ?_
  obtain ⟨cn, a, ccd, cl, A₀, base, outer, e, B, hA, XB, ⟨mean, mg, mb, TB⟩, tb, -⟩ := f.o
  refine nO ?_
  refine ⟨?_, f.k, ⟨cn, sc.sc, a, ccd, cl, A₀, base, outer, f.k, B, e ▸ hA, fun z => ?_⟩, f.hh, f.hd, f.hu, XB.keeps B.stays, fun t q z => ?_, mean, mg, mb, TB.keeps B.stays⟩
  · obtain ⟨s1, s2, s3, s4, s5, s6⟩ := sc
    rw [show s3 = none from f.cp]
    have := f.c
    rw [e] at this ⊢
    exact .fn this
  · rw [f.q] at z; cases z
  · obtain ⟨t1, ⟨c, c1, c2⟩, t3⟩ := tb t q z
    exact ⟨t1, ⟨c, c1, codeHd_keeps c2 B.stays⟩, t3⟩
theorem FxT.up (f : FxT G tt V A env h₀ L sc d) (l : V.le V') : FxT G tt V' A env h₀ L sc d := by
  refine Classical.byContradiction fun nO => ?_
  obtain ⟨cn, a, ccd, cl, A₀, base, outer, e, B, hA, XB, TB, tb, tf⟩ := f.o
  refine nO ?_
  refine ⟨CellsIn.up l f.c, f.k, f.cp, f.q, ⟨cn, a, ccd, cl, A₀, base, outer, e, B, hA, XB, TB, fun t q z => ?_, fun x hx => (tf x hx).up l⟩, f.hh, f.hd, f.hu⟩
  obtain ⟨t1, t2, t3⟩ := tb t q z
  exact ⟨Nat.lt_of_lt_of_le t1 l.1, by rw [l.2 _ t1]; exact t2, t3⟩
theorem FxT.at (f : FxT G tt V A env h₀ L sc d) : ∃ cn a ccd cl A₀ base outer, env = envX cn sc.sc L a ccd cl ∧ Below A₀ base outer h₀ ∧ A.frames = some (env :: outer) ∧ G.K.In base ∧ (∃ mean mg mb, Top G.p G.loose mean mg mb base) ∧ (∀ x ∈ tt, TabFor G V base x) ∧ ∀ V' h₁, V.le V' → KtsTurn (outer.filterMap (·.frame)) h₀ h₁ → Below A₀ base outer h₁ → FxT G tt V' A env h₁ L sc d ∧ Gnd A env h₀ h₁ := by
  refine Classical.byContradiction fun nO => ?_
  obtain ⟨cn, a, ccd, cl, A₀, base, outer, e, B, hA, XB, TB, tb, tf⟩ := f.o
  refine nO ?_
  refine ⟨cn, a, ccd, cl, A₀, base, outer, e, B, hA, XB, TB, tf, fun V' h₁ l T1 B1 => ⟨FxT.up ⟨f.c, f.k, f.cp, f.q, ⟨cn, a, ccd, cl, A₀, base, outer, e, B1, hA, XB, TB, tb, tf⟩, f.hh, f.hd, f.hu⟩ l, fun o e' => ?_⟩⟩
  rw [hA] at e'
  rw [← (List.cons.inj (Option.some.inj e')).2]
  exact T1
end
noncomputable def EndsT {α : Type} (G : Gv) (tt : TT) (V : Vl) (A : Around) (env : Env) (h₀ : Heap) (L : Addr) (sc : Sc) (d : Nat) (M : (PySem.Str → Option Value) → Prop) (R : Vl → α → Rs → Prop) (k : Kt) (Q : α → Shared → Prop) : Prop :=
  ∀ (V' : Vl) (r : Rs) (a : α) (σ' : St) (s' : Shared) (m' : PySem.Str → Option Value) (news' : List (Addr × Obj)) (h₁ : Heap), V.le V' → FxT G tt V' A env h₁ L sc d → Gnd A env h₀ h₁ → M m' → k r σ' = true → R V' a r → RepG G V' σ' h₁ L s' m' news' → Q a s'
noncomputable def HoldT (G : Gv) (tt : TT) (sc : Sc) (d : Nat) (t : Tk) (σ : St) (k : Kt) : Prop :=
  ∀ (V : Vl) (A : Around) (env : Env) (h₀ : Heap) (L : Addr), FxT G tt V A env h₀ L sc d → ∀ (s : Shared) (m : PySem.Str → Option Value) (news : List (Addr × Obj)), RepG G V σ h₀ L s m news →
  match t with
  | .ex e => ∀ Q, EndsT G tt V A env h₀ L sc d (· = m) (RV G.C) k Q → WPX G sc A (eval e env) Q NoE s
  | .tst e => ∀ Q, EndsT G tt V A env h₀ L sc d (· = m) RB k Q → WPX G sc A (isTrue e env (eval e env)) Q NoE s
  | .st st => ∀ Q, EndsT G tt V A env h₀ L sc d (fun _ => True) (FRel G.C) k Q → WPX G sc A (exec st env) Q NoE s
  | .sts ss => ∀ Q, EndsT G tt V A env h₀ L sc d (fun _ => True) (FRel G.C) k Q → WPX G sc A (execs ss env) Q NoE s
  | .call f xs => ∀ fv vs Q, VRel G.C V fv f → All2 (VRel G.C V) vs xs → EndsT G tt V A env h₀ L sc d (· = m) (RV G.C) k Q → WPX G sc A (call fv vs) Q NoE s
  | _ => True
noncomputable def SndT (G : Gv) (tt : TT) (self : Ev) : Prop := ∀ sc d t σ k, self sc d t σ k = true → HoldT G tt sc d t σ k
section
variable {G : Gv} {tt : TT} {V V' : Vl} {A : Around} {env : Env} {h₀ h₁ : Heap} {L : Addr} {sc : Sc} {d : Nat} {k : Kt} {self T : Ev} {σ : St}
theorem EndsT.up {α : Type} {M : (PySem.Str → Option Value) → Prop} {R : Vl → α → Rs → Prop} {Q : α → Shared → Prop} (h : EndsT G tt V A env h₀ L sc d M R k Q) (l : V.le V') (g : Gnd A env h₀ h₁) : EndsT G tt V' A env h₁ L sc d M R k Q := fun V'' r a σ' s' m' news' h₂ l' f g' => h V'' r a σ' s' m' news' h₂ (Vl.le_trans l l') f (g.trans g')
theorem EndsT.lift {α : Type} {m : PySem.Str → Option Value} {R : Vl → α → Rs → Prop} {Q : α → Shared → Prop} (f : FxT G tt V A env h₀ L sc d) (h : EndsT G tt V A env h₀ L sc d (· = m) R k Q) : Ends G V h₀ L m R k Q := fun V' r a σ' s' news' l hk hr R' => h V' r a σ' s' m news' h₀ l (f.up l) Gnd.refl rfl hk hr R'
theorem EndsT.liftF {α : Type} {R : Vl → α → Rs → Prop} {Q : α → Shared → Prop} (f : FxT G tt V A env h₀ L sc d) (h : EndsT G tt V A env h₀ L sc d (fun _ => True) R k Q) : EndsF G V h₀ L R k Q := fun V' r a σ' s' m' news' l hk hr R' => h V' r a σ' s' m' news' h₀ l (f.up l) Gnd.refl trivial hk hr R'
theorem lift (hs : Snd G self) {t : Tk} (h : self sc d t σ k = true) : HoldT G tt sc d t σ k := by
  intro V A env h₀ L f s m news R
  have H := hs sc d t σ k h V A env h₀ L NoE f.fx PassesOwn.never V s m news V.le_refl R
  cases t
  case ex => exact fun Q hQ => H Q (hQ.lift f)
  case tst => exact fun Q hQ => H Q (hQ.lift f)
  case st => exact fun Q hQ => H f.cp Q (hQ.liftF f)
  case sts => exact fun Q hQ => H f.cp Q (hQ.liftF f)
  case call => exact fun fv vs Q hf hv hQ => H fv vs Q hf hv (hQ.lift f)
  all_goals trivial
theorem endsT_v {m : PySem.Str → Option Value} {f : SV → St → Bool} {Q : Value → Shared → Prop} (h : ∀ V' v x σ' s' news' h₁, V.le V' → FxT G tt V' A env h₁ L sc d → Gnd A env h₀ h₁ → f x σ' = true → VRel G.C V' v x → RepG G V' σ' h₁ L s' m news' → Q v s') : EndsT G tt V A env h₀ L sc d (· = m) (RV G.C) (kv f) Q := by
  intro V' r a σ' s' m' news' h₁ l fx g e hk hr R
  subst e
  cases hr with
  | mk hv => exact h V' a _ σ' s' news' h₁ l fx g hk hv R
theorem endsT_b {m : PySem.Str → Option Value} {f : Bool → St → Bool} {Q : Bool → Shared → Prop} (h : ∀ V' b σ' s' news' h₁, V.le V' → FxT G tt V' A env h₁ L sc d → Gnd A env h₀ h₁ → f b σ' = true → RepG G V' σ' h₁ L s' m news' → Q b s') : EndsT G tt V A env h₀ L sc d (· = m) RB (kb f) Q := by
  intro V' r a σ' s' m' news' h₁ l fx g e hk hr R
  subst e
  cases hr
  exact h V' _ σ' s' news' h₁ l fx g hk R
theorem T_sts (ht : SndT G tt T) {ss : List Stmt} (h : stsS T sc d ss σ k = true) : HoldT G tt sc d (.sts ss) σ k := by
  intro V A env h₀ L f s m news R Q hQ
  cases ss with
  | nil => exact wpX_any <| wpAny_execs_nil (hQ V _ _ σ s m news h₀ V.le_refl f Gnd.refl trivial h .nx R)
  | cons st r =>
    refine x_cons (ht sc d _ σ _ h V A env h₀ L f s m news R _ fun V' rr fl σ' s' m' news' h₁ l f' g _ hk hR R' => ?_)
    cases hR with
    | nx => exact ht sc d _ σ' _ hk V' A env h₁ L f' s' m' news' R' _ (hQ.up l g)
    | rt hv => exact hQ V' _ _ σ' s' m' news' h₁ l f' g trivial hk (.rt hv) R'
    | bk => exact hQ V' _ _ σ' s' m' news' h₁ l f' g trivial hk .bk R'
theorem T_ret (ht : SndT G tt T) {e : PySem.Expr} {pos : Pos} (h : T sc d (.ex e) σ (kv fun v σ₁ => k (.rt v) σ₁) = true) : HoldT G tt sc d (.st (.Return (some e) pos)) σ k := by
  intro V A env h₀ L f s m news R Q hQ
  exact x_ret (ht sc d _ σ _ h V A env h₀ L f s m news R _ (endsT_v fun V' v x σ' s' news' h₁ l f' g hk hv R' => hQ V' _ _ σ' s' m news' h₁ l f' g trivial hk (.rt hv) R'))
theorem T_if (ht : SndT G tt T) {t : PySem.Expr} {b o : List Stmt} {pos : Pos} (h : T sc d (.tst t) σ (kb fun c σ₁ => orB c (T sc d (.sts b) σ₁ k) (T sc d (.sts o) σ₁ k)) = true) : HoldT G tt sc d (.st (.If t b o pos)) σ k := by
  intro V A env h₀ L f s m news R Q hQ
  refine x_if (ht sc d _ σ _ h V A env h₀ L f s m news R _ (endsT_b fun V' c σ' s' news' h₁ l f' g hk R' => ?_))
  cases c with
  | true => exact ht sc d _ σ' _ hk V' A env h₁ L f' s' m news' R' _ (hQ.up l g)
  | false => exact ht sc d _ σ' _ hk V' A env h₁ L f' s' m news' R' _ (hQ.up l g)
theorem T_not (ht : SndT G tt T) {x : PySem.Expr} {pos : Pos} (h : T sc d (.tst x) σ (kb fun b σ₁ => k (.b (!b)) σ₁) = true) : HoldT G tt sc d (.tst (.UnaryOp .Not x pos)) σ k := by
  intro V A env h₀ L f s m news R Q hQ
  exact x_not (ht sc d _ σ _ h V A env h₀ L f s m news R _ (endsT_b fun V' c σ' s' news' h₁ l f' g hk R' => hQ V' _ _ σ' s' m news' h₁ l f' g rfl hk (.mk _) R'))
theorem T_bool (ht : SndT G tt T) {op : BoolOp} {pos : Pos} {xs : List PySem.Expr} (h : boolT T sc d op pos xs σ k = true) : HoldT G tt sc d (.tst (.BoolOp op xs pos)) σ k := by
  intro V A env h₀ L f s m news R Q hQ
  cases xs with
  | nil =>
    refine wpX_any ?_
    cases op with
    | And => exact isTrue_and_nil (hQ V _ _ σ _ m news h₀ V.le_refl f Gnd.refl rfl h (.mk _) R)
    | Or => exact isTrue_or_nil (hQ V _ _ σ _ m news h₀ V.le_refl f Gnd.refl rfl h (.mk _) R)
  | cons x r =>
    cases op with
    | And =>
      refine x_and (ht sc d _ σ _ h V A env h₀ L f s m news R _ (endsT_b fun V' b σ' s' news' h₁ l f' g hk R' => ?_))
      cases b with
      | true => rw [if_pos rfl]; exact ht sc d _ σ' _ hk V' A env h₁ L f' s' m news' R' _ (hQ.up l g)
      | false => rw [if_neg Bool.false_ne_true]; exact hQ V' _ _ σ' s' m news' h₁ l f' g rfl hk (.mk _) R'
    | Or =>
      refine x_or (ht sc d _ σ _ h V A env h₀ L f s m news R _ (endsT_b fun V' b σ' s' news' h₁ l f' g hk R' => ?_))
      cases b with
      | true => rw [if_pos rfl]; exact hQ V' _ _ σ' s' m news' h₁ l f' g rfl hk (.mk _) R'
      | false => rw [if_neg Bool.false_ne_true]; exact ht sc d _ σ' _ hk V' A env h₁ L f' s' m news' R' _ (hQ.up l g)
theorem T_plain (ht : SndT G tt T) {e : PySem.Expr} (h : (plainE e && T sc d (.ex e) σ (kbool fun b σ₁ => k (.b b) σ₁)) = true) : HoldT G tt sc d (.tst e) σ k := by
  intro V A env h₀ L f s m news R Q hQ
  refine and_k h fun h0 h => x_plain (ht sc d _ σ _ h V A env h₀ L f s m news R _ (endsT_v fun V' v x σ' s' news' h₁ l f' g hk hv R' => ?_)) (plain_eq h0)
  apply onBo_k hk hv; intro b hk
  exact wpAny_truthy_bool (hQ V' _ _ σ' _ m news' h₁ l f' g rfl hk (.mk _) R')
noncomputable def cmpT (c : Cfg) (T self : Ev) (sc : Sc) (d : Nat) (l r : PySem.Expr) (op : CmpOp) (σ : St) (k : Bool → St → Bool) : Bool := setLess r && T sc d (.ex l) σ (kv fun a σ₁ => self sc.any d (.ex r) σ₁ (cmpK c op a k))
theorem T_cmp (hs : Snd G self) (ht : SndT G tt T) {l r : PySem.Expr} {op : CmpOp} {pos : Pos} (h : cmpT G.cf T self sc d l r op σ (fun t σ => k (.v (.bool t)) σ) = true) : HoldT G tt sc d (.ex (.Compare l [op] [r] pos)) σ k := by
  intro V A env h₀ L f s m news R Q hQ
  refine and_k h fun h0 h => x_compare (ht sc d _ σ _ h V A env h₀ L f s m news R _ (endsT_v fun V' v x σ' s' news' h₁ l f' g hk hv R' => ?_)) (marks_eq h0)
  exact Sc.of <| hs sc.any d _ σ' _ hk V' A env h₁ L NoE f'.fx.any PassesOwn.never V' s' m news' V'.le_refl R' _ (cmpK_ok (Fx.un (E := NoE) f.fx) hv fun V'' σ'' s'' news'' t l' hk R'' => hQ V'' _ _ σ'' s'' m news'' h₁ (Vl.le_trans l l') (f'.up l') g rfl hk (.mk (.bool t)) R'')
theorem T_tcmp (hs : Snd G self) (ht : SndT G tt T) {l r : PySem.Expr} {op : CmpOp} {pos : Pos} (h : cmpT G.cf T self sc d l r op σ (fun t σ => k (.b t) σ) = true) : HoldT G tt sc d (.tst (.Compare l [op] [r] pos)) σ k := by
  intro V A env h₀ L f s m news R Q hQ
  refine and_k h fun h0 h => x_tcompare (ht sc d _ σ _ h V A env h₀ L f s m news R _ (endsT_v fun V' v x σ' s' news' h₁ l f' g hk hv R' => ?_)) (marks_eq h0)
  exact Sc.of <| hs sc.any d _ σ' _ hk V' A env h₁ L NoE f'.fx.any PassesOwn.never V' s' m news' V'.le_refl R' _ (cmpK_ok (Fx.un (E := NoE) f.fx) hv fun V'' σ'' s'' news'' t l' hk R'' => wpAny_truthy_bool (hQ V'' _ _ σ'' _ m news'' h₁ (Vl.le_trans l l') (f'.up l') g rfl hk (.mk t) R''))
theorem T_boolX (ht : SndT G tt T) {op : BoolOp} {pos : Pos} {xs : List PySem.Expr} (h : boolX T sc d op pos xs σ k = true) : HoldT G tt sc d (.ex (.BoolOp op xs pos)) σ k := by
  intro V A env h₀ L f s m news R Q hQ
  cases xs with
  | nil => exact no_k h
  | cons x r => cases r with
    | nil => exact (ht sc d _ σ _ h V A env h₀ L f s m news R _ hQ : WPX G sc A (eval x env) Q NoE s)
    | cons y r =>
      refine dec_k h fun e h => ?_
      rw [e]
      refine x_vand (ht sc d _ σ _ h V A env h₀ L f s m news R _ (endsT_v fun V' v x σ' s' news' h₁ l f' g hk hv R' => ?_))
      apply onBo_k hk hv; intro b hk
      refine wpAny_truthy_bool ?_
      cases b with
      | true => rw [if_pos rfl]; exact ht sc d _ σ' _ hk V' A env h₁ L f' _ m news' R' _ (hQ.up l g)
      | false => rw [if_neg Bool.false_ne_true]; exact hQ V' _ _ σ' _ m news' h₁ l f' g rfl hk (.mk (.bool _)) R'
noncomputable def callT (c : Cfg) (T self : Ev) (sc : Sc) (d : Nat) (x : PySem.Str) (p : Pos) (args : List PySem.Expr) (σ : St) (k : Kt) : Bool := args.all starLess && self sc.any d (.ex (.Name x p)) σ (kv fun f σ₁ => onO (svObj f) fun a => keepT c a && onCons args fun e r => self sc.any d (.ars (e :: r)) σ₁ (kvs fun xs σ₂ => T sc d (.call f xs) σ₂ k))
theorem T_call (hs : Snd G self) (ht : SndT G tt T) {x : PySem.Str} {p pos : Pos} {args : List PySem.Expr} (h : callT G.cf T self sc d x p args σ k = true) : HoldT G tt sc d (.ex (.Call (.Name x p) args [] pos)) σ k := by
  intro V A env h₀ L f s m news R Q hQ
  refine and_k h fun hst h => x_callName (Sc.of <| hs sc.any d _ σ _ h V A env h₀ L NoE f.fx.any PassesOwn.never V s m news V.le_refl R _ (ends_v fun V' v y σ' s' news' l hk hv R' => ?_))
  refine Classical.byContradiction fun nO => onO_k hk fun a ha hk => and_k hk fun hkp hk => onCons_k hk fun e r he hk => nO ?_
  have hv' := hv
  rw [svObj_ok ha] at hv'
  have hv' : v = .ref a := VRel.obj' hv'
  rw [he] at hst
  rw [he, hv']
  rw [hv'] at hv
  refine and_k (show (starLess e && r.all starLess) = true from hst) fun g1 g2 => x_callK (keepT_ok hkp) (wpX_any ?_) (star_eq g1) (star_any g2)
  exact Sc.of <| hs sc.any d _ σ' _ hk V A env h₀ L NoE f.fx.any PassesOwn.never V' s' m news' l R' pos _ (ends_vs fun V'' vs xs σ'' s'' news'' l' hk'' hvs R'' => ⟨f.fx (E := NoE) |>.X.keeps R''.fr.keep, ht sc d _ σ'' _ hk'' V'' A env h₀ L (f.up (Vl.le_trans l l')) s'' m news'' R'' _ vs Q (hv.up l') hvs (hQ.up (Vl.le_trans l l') Gnd.refl)⟩)
end

section
variable {G : Gv} {tt : TT} {V V' : Vl} {A : Around} {env : Env} {h₀ h₁ : Heap} {L : Addr} {sc : Sc} {d : Nat} {k : Kt} {self T : Ev} {σ : St}
noncomputable def fnTS (c : Cfg) (tt : TT) (T : Ev) (sc : Sc) (d : Nat) (a : Nat) (xs : List SV) (σ : St) (k : Kt) : Bool := Nat.rec false (fun d _ => onO (fnT c a true) fun r => onO (locsIn c.K r.1 r.2.1 xs) fun l => r.2.1.all (fun y => (sget y l).isSome) && onO (iget a tt) fun tb => T ⟨r.1.scope, (cellsE l σ.nx σ.heap (cellNs r.1)).1, none, true, sc.cl, some tb⟩ d (.sts r.2.2) ⟨(cellsE l σ.nx σ.heap (cellNs r.1)).2.1, (cellsE l σ.nx σ.heap (cellNs r.1)).2.2, l.filter fun q => r.1.scope.names.lookup q.1 == some .local⟩ (kret σ.loc k)) d
theorem frames_in {e₀ env : Env} {outer : List Env} (h : A.frames = some (e₀ :: outer)) : (A.deeper env).frames = some (env :: e₀ :: outer) := by
  show A.frames.map _ = _
  rw [h]; rfl
theorem T_fn (ht : SndT G tt T) {a : Nat} {xs : List SV} (h : fnTS G.cf tt T sc d a xs σ k = true) : HoldT G tt sc d (.call (.obj a) xs) σ k := by
  intro V A env h₀ L f s m news R fv vs Q hf hv hQ
  cases d with
  | zero => exact no_k h
  | succ d' =>
  refine Classical.byContradiction fun nO => ?_
  refine onO_k h fun r hf' h => onO_k h fun l hl h => and_k h fun hns h => onO_k h fun tb htb h => ?_
  refine nO ?_
  rw [show fv = .ref a from VRel.obj' hf]
  refine wpX_call ?_
  refine Classical.byContradiction fun nO => ?_
  obtain ⟨hf', k4⟩ := fnT_ok hf'
  obtain ⟨oc, od, osl, k1, k2, k3⟩ := fnR_ok hf'
  refine and_k k4 fun f0 k4 => and_k k4 fun g9 k4 => and_k k4 fun g8 k4 => and_k k4 fun g11 g10 => ?_
  have f0 := fnOk0_ok f0
  obtain ⟨cn, ae, ccd, cl, A₀, base, outer, e, B, hA, XB, ⟨mean, mg, mb, TB⟩, tf, turn⟩ := f.at
  obtain ⟨us, hb, hlen, hlr'⟩ := locsIn_ok R.fr (XB.keeps B.stays) hl k2 (nodupB_ok g9) hv
  refine nO ?_
  have hfd := fnOf_eq k3 f0.g f0.b f0.cl
  refine codeX_defTC (name := r.1.name) (qual := r.1.qualname) (params := r.1.params) (body := r.2.2) (scope := r.1.scope) (dV := r.1.defaults) (kV := r.1.kwdefaults) (doc := r.1.doc) (pm := r.1.pyModule) (an := r.1.annotations) (cdv := r.1.code) (ct := r.1.closureTuple) (oc := oc) (od := od) (osl := osl) (binds := r.2.1.zip us)
    B R.fr (XB.keeps B.stays) R.nw (TB.keeps B.stays) hA (by rw [e]) (by rw [e]; exact f.k) (by rw [k1]; exact congrArg (fun z => some (⟨oc, od, .func z, osl⟩ : Obj)) hfd) f0.cd (Nat.lt_of_le_of_lt (Nat.le_trans (Nat.le_add_right _ _) f.hd) (by decide)) (hfd ▸ hb) (List.all_eq_true.mpr fun y hy => List.all_eq_true.mp g10 y.1 (by rw [← zip_keys hlen]; exact List.mem_map_of_mem hy)) (nodupB_ok g8) (fun g L' h₁ tk cells FG F' N' Y B' X' T' hlt => ?_) f0.co f0.gn f0.k
  refine Classical.byContradiction fun nO => ?_
  obtain ⟨V', l1, lr, l2, l3, l4, l5, l6⟩ := cells_in hlen hns g11 hlr' Y R.hp R.nd hlt
  rw [R.nx] at l2 l3 l5
  obtain ⟨t1, t2⟩ := tf (a, tb) (iget_mem htb)
  obtain ⟨t2, t3⟩ := t2 r hf'
  refine nO ?_
  have f' : FxT G tt V' (A.deeper (envOfC r.1.qualname r.1.scope L' a r.1.code)) (envOfC r.1.qualname r.1.scope L' a r.1.code) g L' ⟨r.1.scope, (cellsE l σ.nx σ.heap (cellNs r.1)).1, none, true, sc.cl, some tb⟩ d' := by
    refine ⟨l5, f0.k, rfl, rfl, ⟨r.1.qualname, a, r.1.code, cellsFrom (L' + 1) r.1.scope.names [], A, base, env :: outer, rfl, B', frames_in hA, XB, ⟨mean, mg, mb, TB⟩, fun t q z => ?_, fun x hx => (tf x hx).up l1⟩, f.hh, ?_, ?_⟩
    · rw [show tb = (t, q) from Option.some.inj z] at t1 t2 t3
      exact ⟨Nat.lt_of_lt_of_le t1 l1.1, by rw [l1.2 _ t1]; exact t2, t3⟩
    · have := f.hd; show A.depth + 1 + d' ≤ 900; (first | lia | omega)
    · have := f.hu; show A.units + 3 + 20 * d' ≤ 9000; (first | lia | omega)
  refine wpX_mono (ht _ _ _ _ _ h V' _ _ g L' f' { s with heap := h₁, toks := tk } _ (cells ++ news) ⟨⟨l2, by rw [l1.4]; exact R.sm⟩, F', by rw [List.append_assoc, lr]; exact N', l6, l3, by rw [lr]; exact l4⟩ _ fun V2 rr fl σ' s' m' news' g' l f2 gn _ hk hR R2 => ?_) (fun _ _ z => z) fun _ _ z => z.elim
  have go : ∀ {x : SV} {v : Value}, k (.v x) { σ' with loc := σ.loc } = true → VRel G.C V2 v x → LeaveT A₀ base h₀ L m env outer g (fun r s' => match r with | .ok (.ret v) => Q v s' | .ok _ => False | .error e => NoE e s') v s' := fun hk hv =>
    ⟨g', L', m', news' ++ V2.r, gn _ (frames_in hA), R2.fr, R2.nw, fun h₁ T1 F1 N1 B1 => hQ V2 _ _ _ s' m news' h₁ (Vl.le_trans l1 l) (turn V2 h₁ (Vl.le_trans l1 l) T1 B1).1 (turn V2 h₁ (Vl.le_trans l1 l) T1 B1).2 rfl hk (.mk hv) ⟨R2.1, F1, N1, R.lc.up (Vl.le_trans l1 l), R2.2.2.2.2⟩⟩
  cases hR with
  | nx => exact go hk .none
  | rt hv' => exact go hk hv'
  | bk => exact no_k hk
noncomputable def HeardOk (prog : Program) (w : PySem.World) (K : Frag) (p : Program) (loose : List PySem.Str) : Prop := ∀ {b : Bool} {A : Around} {cn : PySem.Str} {cs : Scope} {a : Addr} {ccd : Value} {cl : List (PySem.Str × Addr)} {outer : List Env} {A₀ : Around} {base h₀ : Heap} {L : Addr} {m : PySem.Str → Option Value} {news : List (Addr × Obj)} {s : Shared} {Q : Value → Shared → Prop} {q : Addr} {r : FuncData × List PySem.Str × List Stmt} {mean : ExcName → Option Value} {mg mb : PySem.Str → Option Value} {P : PySem.Str → List (Addr × Obj) → Shared → Prop},
  fnR K 1336 = some r → r.1.scope.kind = .function → Below A₀ base outer h₀ → Fr h₀ L s.heap m → News h₀ L s.heap news → A.frames = some (envX cn cs L a ccd cl :: outer) → cs.kind = .function → A.handled = none → A.depth ≤ 899 → A.units ≤ 8980 → K.In base → Top p loose mean mg mb base → (∃ nm qq body scope clos pm c' ctv, (q, PySem.W.kla_obj nm qq noArgs body scope clos pm c' ctv) ∈ news) →
  (∀ g L' h₁ m' tk, Fr h₀ L g m → Fr g L' h₁ m' → News g L' h₁ news → Below A base (envX cn cs L a ccd cl :: outer) g → K.In g → Top p loose mean mg mb g →
    wpX b (model prog w) (A.deeper (envX r.1.qualname r.1.scope L' 1336 r.1.code [])) (call (.ref q) []) (fun _ _ => False) (fun v s' => ∃ e g2 m2 what news', v = .ref e ∧ Fr g L' g2 m2 ∧ g2.UpToSlots s'.heap ∧ RaisedX w base g2 (envX r.1.qualname r.1.scope L' 1336 r.1.code [] :: envX cn cs L a ccd cl :: outer) e what news' s'.heap ∧ P what news' s') { s with heap := h₁, toks := tk }) →
  (∀ what t s' news' h₁ h' tk, P what news' s' → KtsTurn (outer.filterMap (·.frame)) h₀ h₁ → Fr h₁ L h' m → News h₁ L h' news' → Below A₀ base outer h₁ → Q (.str what t) { s' with heap := h', toks := tk }) →
  wpX b (model prog w) A (call (.ref 1336) [.ref q]) Q NoE s
noncomputable def Cfg.at (c : Cfg) (top : Nat) (kx : PySem.Str → St → Bool) : Cfg := { c with top := top, kx := kx }
noncomputable def Gv.at (G : Gv) (top : Nat) (kx : PySem.Str → St → Bool) : Gv := { G with cf := G.cf.at top kx }
noncomputable def Heard (G : Gv) (V : Vl) (σ : St) (k : Kt) (what : PySem.Str) (nw : List (Addr × Obj)) (s' : Shared) : Prop := ∃ (V' : Vl) (σ' : St) (news' : List (Addr × Obj)), V.le V' ∧ nw = news' ++ V'.r ∧ k (.v (.str what)) { σ' with loc := σ.loc } = true ∧ All2 (PRel G.prog G.w G.C V') news' σ'.heap ∧ (V'.n = σ'.nx ∧ Same V'.z s') ∧ ((news' ++ V'.r).map (·.1)).Nodup
noncomputable def heardS (run : Cfg → Ev) (c : Cfg) (sc : Sc) (d : Nat) (xs : List SV) (σ : St) (k : Kt) : Bool := Nat.rec false (fun d _ => onO (fnR c.K 1336) fun r => decide (r.1.scope.kind = .function) && on1 xs fun x => onRef x fun i => onO (obind (iget i σ.heap) asLam) fun _ => lamCS (run (c.at d fun w σ' => k (.v (.str w)) { σ' with loc := σ.loc })) ⟨r.1.scope, [], none, false, sc.cl, none⟩ d i { σ with loc := [] } (fun _ _ => false)) d
theorem T_heard (H : HeardOk G.prog G.w G.K G.p G.loose) {run : Cfg → Ev} (hrun : ∀ G' : Gv, Snd G' (run G'.cf)) {xs : List SV} (h : heardS run G.cf sc d xs σ k = true) : HoldT G tt sc d (.call (.obj 1336) xs) σ k := by
  intro V A env h₀ L f s m news R fv vs Q hf hv hQ
  cases d with
  | zero => exact no_k h
  | succ d' =>
  rw [show fv = .ref 1336 from VRel.obj' hf]
  refine onO_k h fun r hr h => dec_k h fun hk h => ?_
  apply on1_k h hv; intro x v h hv
  apply onRef_k h hv; intro i hi h
  refine Classical.byContradiction fun nO => ?_
  refine onO_k h fun lo hlo h => RAt R (get_k asLam_ok hlo) fun o m1 o1 _ => ?_
  obtain ⟨nm, clos, pm, ctv, c', rfl, -⟩ := ORel.lam' o1
  obtain ⟨cn, ae, ccd, cl, A₀, base, outer, e, B, hA, XB, ⟨mean, mg, mb, TB⟩, tf, turn⟩ := f.at
  refine nO ?_
  have hd := f.hd
  have hu := f.hu
  rw [e] at hA
  refine H (P := Heard G V σ k) hr hk B R.fr R.nw hA f.k f.hh (by (first | lia | omega)) (by (first | lia | omega)) XB TB ⟨nm, _, _, _, clos, pm, c', ctv, m1⟩ (fun g L' h₁ m' tk FG F' N' B' X' T' => ?_) fun what t s' nw h₁ h' tk hP T1 F1 N1 B1 => ?_
  · refine wpX_call (lam_code (G := G.at d' fun w σ' => k (.v (.str w)) { σ' with loc := σ.loc }) (env := envX r.1.qualname r.1.scope L' 1336 r.1.code []) (hrun _) h ⟨.fn fun _ _ e => no_o e, hk, ⟨r.1.qualname, r.1.scope, 1336, r.1.code, [], A, base, _, hk, B', frames_in hA, fun _ => ⟨fun lt => absurd lt (Nat.lt_irrefl _), fun V' σ' what e g' h' m2 news' s' l hx Fg hsm hR hr' hn nd => ⟨e, g', m2, what, news' ++ V'.r, rfl, Fg, hsm, hR, V', σ', news', l, rfl, hx, hr', hn, nd⟩⟩⟩, f.hh, ?_, ?_, X', (fun _ _ q => nomatch q), mean, mg, mb, T'⟩ V.le_refl (s := { s with heap := h₁, toks := tk }) (m := m') (news := news) ⟨R.1, F', N', fun _ _ e => no_o e, R.2.2.2.2⟩ fun _ _ _ _ _ _ _ hk => no_k hk)
    · show A.depth + 1 + d' ≤ 900; (first | lia | omega)
    · show A.units + 3 + 20 * d' ≤ 9000; (first | lia | omega)
  · obtain ⟨V', σ', news', l, rfl, hx, hr', hn, nd⟩ := hP
    exact hQ V' _ _ { σ' with loc := σ.loc } { s' with heap := h', toks := tk } m news' h₁ l (turn V' h₁ l T1 B1).1 (turn V' h₁ l T1 B1).2 rfl hx (.mk (.str _ _)) ⟨hn, F1, N1, R.lc.up l, hr', nd⟩
end

section
theorem All2.refl {α : Type} (l : List α) : All2 (fun a b => a = b) l l := by
  induction l with
  | nil => exact .nil
  | cons a l ih => exact .cons rfl ih
theorem all2O_eq {α : Type} {f : α → α → Option Unit} (hf : ∀ a b r, f a b = some r → a = b) {l l' : List α} {r : Unit} (h : all2O f l l' = some r) : l = l' :=
  (all2O_ok (R := fun a b => a = b) (S := fun a b => a = b) (P := fun a b => a = b) (fun v u a b r e1 e2 q => by rw [e1, e2]; exact hf a b r q) (All2.refl l) (All2.refl l') h).eq
noncomputable def siEq (a b : SI) : Option Unit := orP (sameO a b) (orP (opO (siRng a) fun p => opO (siRng b) fun q => opB (decide (p = q)) (some ())) (orP (opO (siHx a) fun p => opO (siHx b) fun q => opB (decide (p = q)) (some ())) (opB (Nat.beq a.ctorIdx 6 && Nat.beq b.ctorIdx 6) (some ()))))
theorem any_eq {a : SI} (h : Nat.beq a.ctorIdx 6 = true) : a = .any := by
  cases a
  case any => rfl
  all_goals exact no_k h
theorem siEq_eq {a b : SI} {r : Unit} (h : siEq a b = some r) : a = b :=
  orP_k h sameO_eq fun h => orP_k h (fun h => opO_k h fun p hp h => opO_k h fun q hq h => dco_k h fun e _ => by rw [siRng_ok hp, siRng_ok hq, e]) fun h => orP_k h (fun h => opO_k h fun p hp h => opO_k h fun q hq h => dco_k h fun e _ => by rw [siHx_ok hp, siHx_ok hq, e]) fun h => opB_k h fun q _ => and_k q fun q q' => by rw [any_eq q, any_eq q']
noncomputable def sbLn (b : SB) : Option SI := SB.rec (motive := fun _ => Option SI) (fun _ => none) (fun _ => none) none some b
theorem sbLn_ok {b : SB} {x : SI} (h : sbLn b = some x) : b = .ln x := by
  cases b with
  | ln => exact Option.some.inj h ▸ rfl
  | _ => exact no_o h
noncomputable def sbEq (a b : SB) : Option Unit := orP (opO (sbV a) fun i => opO (sbV b) fun j => opB (Nat.beq i j) (some ())) (orP (opO (sbL a) fun l => opO (sbL b) fun l' => all2O siEq l l') (orP (opO (sbLn a) fun x => opO (sbLn b) fun y => siEq x y) (opB (Nat.beq a.ctorIdx 2 && Nat.beq b.ctorIdx 2) (some ()))))
theorem sbAny_eq {a : SB} (h : Nat.beq a.ctorIdx 2 = true) : a = .any := by
  cases a
  case any => rfl
  all_goals exact no_k h
theorem sbEq_eq {a b : SB} {r : Unit} (h : sbEq a b = some r) : a = b :=
  orP_k h (fun h => opO_k h fun i hi h => opO_k h fun j hj h => opB_k h fun q _ => by rw [sbV_ok hi, sbV_ok hj, Nat.eq_of_beq_eq_true q]) fun h => orP_k h (fun h => opO_k h fun l hl h => opO_k h fun l' hl' h => by rw [sbL_ok hl, sbL_ok hl', all2O_eq (fun _ _ _ => siEq_eq) h]) fun h => orP_k h (fun h => opO_k h fun x hx h => opO_k h fun y hy h => by rw [sbLn_ok hx, sbLn_ok hy, siEq_eq h]) fun h => opB_k h fun q _ => and_k q fun q q' => by rw [sbAny_eq q, sbAny_eq q']
noncomputable def svEq (a b : SV) : Option Unit := orP (opO (svRef a) fun i => opO (svRef b) fun j => opB (Nat.beq i j) (some ())) (orP (opO (svInt a) fun i => opO (svInt b) fun j => siEq i j) (orP (opO (svStr a) fun i => opO (svStr b) fun j => opB (seq i j) (some ())) (orP (opO (svBy a) fun i => opO (svBy b) fun j => sbEq i j) (orP (opO (svObj a) fun i => opO (svObj b) fun j => opB (Nat.beq i j) (some ())) (orP (opO (svBo a) fun x => opO (svBo b) fun y => opB (x == y) (some ())) (orP (opO (svTy a) fun x => opO (svTy b) fun y => opB (decide (x = y)) (some ())) (opB (Nat.beq a.ctorIdx 0 && Nat.beq b.ctorIdx 0) (some ()))))))))
theorem non_eq {a : SV} (h : Nat.beq a.ctorIdx 0 = true) : a = .none := by
  cases a
  case none => rfl
  all_goals exact no_k h
theorem svEq_eq {a b : SV} {r : Unit} (h : svEq a b = some r) : a = b := by
  refine Classical.byContradiction fun nO => orP_k h (fun h => opO_k h fun i hi h => opO_k h fun j hj h => opB_k h fun q _ => nO ?_) fun h => orP_k h (fun h => opO_k h fun i hi h => opO_k h fun j hj h => nO ?_) fun h => orP_k h (fun h => opO_k h fun i hi h => opO_k h fun j hj h => opB_k h fun q _ => nO ?_) fun h => orP_k h (fun h => opO_k h fun i hi h => opO_k h fun j hj h => nO ?_) fun h => orP_k h (fun h => opO_k h fun i hi h => opO_k h fun j hj h => opB_k h fun q _ => nO ?_) fun h => orP_k h (fun h => opO_k h fun i hi h => opO_k h fun j hj h => opB_k h fun q _ => nO ?_) fun h => orP_k h (fun h => opO_k h fun i hi h => opO_k h fun j hj h => dco_k h fun q _ => nO ?_) fun h => opB_k h fun q _ => and_k q fun q q' => nO ?_
  · rw [svRef_ok hi, svRef_ok hj, Nat.eq_of_beq_eq_true q]
  · rw [svInt_ok hi, svInt_ok hj, siEq_eq h]
  · rw [svStr_ok hi, svStr_ok hj, seq_iff.mp q]
  · rw [svBy_ok hi, svBy_ok hj, sbEq_eq h]
  · rw [svObj_ok hi, svObj_ok hj, Nat.eq_of_beq_eq_true q]
  · rw [svBo_ok hi, svBo_ok hj, beq_iff_eq.mp q]
  · rw [svTy_ok hi, svTy_ok hj, q]
  · rw [non_eq q, non_eq q']
noncomputable def both {α : Type} (as : SO → Option α) (a b : SO) (f : α → α → Option Unit) : Option Unit := opO (as a) fun x => opO (as b) fun y => f x y
theorem both_k {α : Type} {as : SO → Option α} {C : α → SO} (ok : ∀ o x, as o = some x → o = C x) {a b : SO} {f : α → α → Option Unit} (hf : ∀ x y r, f x y = some r → x = y) {r : Unit} (h : both as a b f = some r) : a = b :=
  opO_k h fun x hx h => opO_k h fun y hy h => by rw [ok a x hx, ok b y hy, hf x y r h]
noncomputable def keyEq (p q : Int × SV) : Option Unit := opB (decide (p.1 = q.1)) (svEq p.2 q.2)
noncomputable def nmEq (p q : PySem.Str × SV) : Option Unit := opB (seq p.1 q.1) (svEq p.2 q.2)
theorem keyEq_eq (p q : Int × SV) (r : Unit) (h : keyEq p q = some r) : p = q := dco_k h fun e h => Prod.ext e (svEq_eq h)
theorem nmEq_eq (p q : PySem.Str × SV) (r : Unit) (h : nmEq p q = some r) : p = q := opB_k h fun e h => Prod.ext (seq_iff.mp e) (svEq_eq h)
noncomputable def soEq (a b : SO) : Option Unit := orP (both asInst a b fun x y => opB (decide (x = y)) (some ())) (orP (both asSd a b (all2O nmEq)) (orP (both asId a b (all2O keyEq)) (orP (both asList a b (all2O svEq)) (orP (both asTup a b (all2O svEq)) (orP (both asBa a b sbEq) (orP (both asSeqA a b fun x y => opB (decide (x = y)) (some ())) (orP (both asRgo a b fun x y => opB (decide (x = y)) (some ())) (orP (both asCell a b svEq) (orP (both asRit a b fun x y => opB (decide (x = y)) (some ())) (orP (both asLit a b fun x y => opB (decide (x = y)) (some ())) (orP (both asBit a b fun x y => opB (Nat.beq x.2 y.2) (sbEq x.1 y.1)) (orP (both asTab a b fun x y => opB (seq x y) (some ())) (both asOpq a b fun x y => opB (Nat.beq x y) (some ()))))))))))))))
theorem soEq_eq {a b : SO} {r : Unit} (h : soEq a b = some r) : a = b :=
  orP_k h (both_k asInst_ok fun x y r h => dco_k h fun e _ => e) fun h => orP_k h (both_k asSd_ok fun x y r h => all2O_eq nmEq_eq h) fun h => orP_k h (both_k asId_ok fun x y r h => all2O_eq keyEq_eq h) fun h => orP_k h (both_k asList_ok fun x y r h => all2O_eq (fun _ _ _ => svEq_eq) h) fun h => orP_k h (both_k asTup_ok fun x y r h => all2O_eq (fun _ _ _ => svEq_eq) h) fun h => orP_k h (both_k asBa_ok fun x y r h => sbEq_eq h) fun h => orP_k h (both_k asSeqA_ok fun x y r h => dco_k h fun e _ => e) fun h => orP_k h (both_k asRgo_ok fun x y r h => dco_k h fun e _ => e) fun h => orP_k h (both_k asCell_ok fun x y r h => svEq_eq h) fun h => orP_k h (both_k asRit_ok fun x y r h => dco_k h fun e _ => e) fun h => orP_k h (both_k asLit_ok fun x y r h => dco_k h fun e _ => e) fun h => orP_k h (both_k asBit_ok fun x y r h => opB_k h fun e h => Prod.ext (sbEq_eq h) (Nat.eq_of_beq_eq_true e)) fun h => orP_k h (both_k asTab_ok fun x y r h => opB_k h fun e _ => seq_iff.mp e) (both_k asOpq_ok fun x y r h => opB_k h fun e _ => Nat.eq_of_beq_eq_true e)
end
noncomputable def Vl.cut (V : Vl) (n : Nat) : Vl := { V with n := n }
noncomputable def svLt (n : Nat) (x : SV) : Bool := orO (svRef x) (fun i => decide (i < n)) true
section
variable {prog : Program} {w : PySem.World} {C : Cs} {V : Vl} {n : Nat}
theorem VRel.cut {v : Value} {x : SV} (h : VRel C V v x) (e : svLt n x = true) : VRel C (V.cut n) v x := by
  cases x
  case ref => exact ⟨h.1, of_decide_eq_true e⟩
  all_goals exact h
theorem all_cut {α β : Type} {R S : α → β → Prop} {p : β → Bool} (hf : ∀ a b, R a b → p b = true → S a b) {as : List α} {bs : List β} (h : All2 R as bs) (e : bs.all p = true) : All2 S as bs := by
  induction h with
  | nil => exact .nil
  | @cons a b as bs h r ih => exact and_k (show (p b && bs.all p) = true from e) fun e1 e2 => .cons (hf a b h e1) (ih e2)
theorem ERel.cut {es : List DictEntry} {xs : List (PySem.Str × SV)} (h : ERel w C V es xs) (e : (xs.all fun q => svLt n q.2) = true) : ERel w C (V.cut n) es xs := by
  induction h with
  | nil => exact .nil
  | @cons s t v x es xs h r ih => exact and_k (show (svLt n x && xs.all fun q => svLt n q.2) = true from e) fun e1 e2 => .cons (h.cut e1) (ih e2)
noncomputable def soLt (n : Nat) (so : SO) : Bool := orO (asInst so) (fun x => decide (x.2 < n)) (orO (asSd so) (fun xs => xs.all fun q => svLt n q.2) (orO (asId so) (fun xs => xs.all fun q => svLt n q.2) (orO (asList so) (fun xs => xs.all (svLt n)) (orO (asTup so) (fun xs => xs.all (svLt n)) (orO (asBa so) (fun _ => true) (orO (asSeqA so) (fun _ => true) (orO (asTab so) (fun _ => true) (orO (asRgo so) (fun _ => true) (orO (asCell so) (svLt n) (orO (asRit so) (fun _ => true) (orO (asLit so) (fun x => decide (x.1 < n)) (orO (asBit so) (fun _ => true) (orO (asOpq so) (fun i => decide (i < n)) (onO (asPenA so) fun _ => true))))))))))))))
theorem ORel.cut {o : Obj} {so : SO} (h : ORel prog w C V o so) (e : soLt n so = true) : ORel prog w C (V.cut n) o so := by
  refine Classical.byContradiction fun nO => orO_k e (fun x hx e => nO ?_) fun e => orO_k e (fun x hx e => nO ?_) fun e => orO_k e (fun x hx e => nO ?_) fun e => orO_k e (fun x hx e => nO ?_) fun e => orO_k e (fun x hx e => nO ?_) fun e => orO_k e (fun x hx _ => nO ?_) fun e => orO_k e (fun x hx _ => nO ?_) fun e => orO_k e (fun x hx _ => nO ?_) fun e => orO_k e (fun x hx _ => nO ?_) fun e => orO_k e (fun x hx e => nO ?_) fun e => orO_k e (fun x hx _ => nO ?_) fun e => orO_k e (fun x hx e => nO ?_) fun e => orO_k e (fun x hx _ => nO ?_) fun e => orO_k e (fun x hx e => nO ?_) fun e => onO_k e fun x hx _ => nO ?_
  · rw [asInst_ok _ _ hx] at h ⊢; exact ⟨h.1, of_decide_eq_true e⟩
  · rw [asSd_ok _ _ hx] at h ⊢; exact h.elim fun es h => h.elim fun m h => ⟨es, m, h.1, h.2.cut e⟩
  · rw [asId_ok _ _ hx] at h ⊢; exact h.elim fun es h => ⟨es, h.1, all_cut (fun a b z e => ⟨z.1, z.2.cut e⟩) h.2 e⟩
  · rw [asList_ok _ _ hx] at h ⊢; exact h.elim fun es h => h.elim fun m h => ⟨es, m, h.1, all_cut (fun a b (z : VRel C V a b) e => VRel.cut z e) h.2 e⟩
  · rw [asTup_ok _ _ hx] at h ⊢; exact h.elim fun es h => ⟨es, h.1, all_cut (fun a b (z : VRel C V a b) e => VRel.cut z e) h.2 e⟩
  · rw [asBa_ok _ _ hx] at h ⊢; exact h
  · rw [asSeqA_ok _ _ hx] at h ⊢; exact h
  · rw [asTab_ok _ _ hx] at h ⊢; exact h
  · rw [asRgo_ok _ _ hx] at h ⊢; exact h
  · rw [asCell_ok _ _ hx] at h ⊢; exact h.elim fun v h => ⟨v, h.1, h.2.cut e⟩
  · rw [asRit_ok _ _ hx] at h ⊢; exact h
  · rw [asLit_ok _ _ hx] at h ⊢; exact ⟨of_decide_eq_true e, h.2⟩
  · rw [asBit_ok _ _ hx] at h ⊢; exact h
  · rw [asOpq_ok _ _ hx] at h ⊢; exact ⟨h.1, of_decide_eq_true e⟩
  · rw [asPenA_ok _ _ hx] at h ⊢; exact h
theorem hfilter {p : Nat → Bool} {news : List (Addr × Obj)} {hp : List (Nat × SO)} (h : All2 (PRel prog w C V) news hp) (nd : (news.map (·.1)).Nodup) : ∃ news', All2 (PRel prog w C V) news' (hp.filter fun q => p q.1) ∧ List.Sublist news' news ∧ ∀ i so, p i = false → iget i hp = some so → ∀ a ∈ news', a.1 ≠ V.ρ i := by
  induction h with
  | nil => exact ⟨[], .nil, .slnil, fun _ _ _ _ _ h => nomatch h⟩
  | @cons a b as bs h1 r ih =>
    refine Classical.byContradiction fun nO => ?_
    obtain ⟨d1, d2⟩ := List.nodup_cons.mp (show (a.1 :: as.map (·.1)).Nodup from nd)
    obtain ⟨as', u1, u2, u3⟩ := ih d2
    refine nO ?_
    rw [List.filter_cons]
    cases q : p b.1 with
    | true =>
      refine ⟨a :: as', .cons h1 u1, u2.cons₂ _, fun i so hi e z hz => ?_⟩
      refine iget_cons e (fun e1 _ _ => by rw [e1, q] at hi; cases hi) fun _ e => (List.mem_cons.mp hz).elim (fun z' e' => ?_) (u3 i so hi e z)
      obtain ⟨o, m1, -⟩ := hget r e
      rw [z'] at e'
      exact d1 (by rw [e']; exact List.mem_map_of_mem (f := (·.1)) m1)
    | false =>
      refine ⟨as', u1, .cons _ u2, fun i so hi e z hz => ?_⟩
      refine iget_cons e (fun e1 _ _ e' => d1 ?_) fun _ e => u3 i so hi e z hz
      rw [h1.2.1, ← e1, ← e']
      exact List.mem_map_of_mem (f := (·.1)) (u2.mem hz)
end
noncomputable def Gv.up (G : Gv) (n : Nat) (h : G.C.nb + n ≤ 1000) : Gv := { G with C := { G.C with nb := G.C.nb + n }, hnb := Nat.le_trans h (by decide), hfl := fun q => ⟨h, (G.hfl q).2⟩ }
noncomputable def entS (n : Nat) (q q' : Nat × SO) : Option Unit := opB (Nat.beq q.1 q'.1) (opB (Nat.blt q.1 n && soLt n q.2) (orP (both asPenA q.2 q'.2 fun a b => opB (Nat.ble b (a + 20)) (some ())) (soEq q.2 q'.2)))
noncomputable def backS (σI σ : St) : Bool := decide (σI.nx ≤ σ.nx) && (onO (all2O (entS σI.nx) σI.heap (σ.heap.filter fun q => Nat.blt q.1 σI.nx)) fun _ => σI.loc.all fun q => svLt σI.nx q.2 && onO (sget q.1 σ.loc) fun v => onO (svEq q.2 v) fun _ => true)
theorem All2.flip {α β : Type} {R : α → β → Prop} {as : List α} {bs : List β} (h : All2 (fun b a => R a b) bs as) : All2 R as bs := by
  induction h with
  | nil => exact .nil
  | cons h _ ih => exact .cons h ih
section
variable {G : Gv} {V : Vl} {h₀ : Heap} {L : Addr} {s : Shared} {m : PySem.Str → Option Value} {news : List (Addr × Obj)}
theorem ERel.more {n : Nat} {hn : G.C.nb + n ≤ 1000} {es : List DictEntry} {xs : List (PySem.Str × SV)} (h : ERel G.w G.C V es xs) : ERel G.w (G.up n hn).C V es xs := by
  induction h with
  | nil => exact .nil
  | cons h _ ih => exact .cons h ih
theorem ORel.more {n : Nat} {hn : G.C.nb + n ≤ 1000} {o : Obj} {so : SO} (h : ORel G.prog G.w G.C V o so) : ORel G.prog G.w (G.up n hn).C V o so := by
  cases so
  case penA => exact h.elim fun x h => h.elim fun y h => h.elim fun tx h => h.elim fun ty h => h.elim fun c h => ⟨x, y, tx, ty, c, h.1, h.2.1, h.2.2.1, h.2.2.2.1, by have := h.2.2.2.2; show y ≤ ((G.C.nb + n : Nat) : Int) + _; omega⟩
  case pen => exact h.elim fun tx h => h.elim fun ty h => h.elim fun c h => ⟨tx, ty, c, h.1, h.2.1, h.2.2.1, h.2.2.2.1, by have := h.2.2.2.2; show (G.C.π _).2 ≤ ((G.C.nb + n : Nat) : Int) + _; omega⟩
  case sd => exact h.elim fun es h => h.elim fun n h => ⟨es, n, h.1, ERel.more h.2⟩
  all_goals exact h
theorem ent_ok {n : Nat} {hn : G.C.nb + 20 ≤ 1000} {u : Addr × Obj} {q q' : Nat × SO} {r : Unit} (h : PRel G.prog G.w G.C V u q') (e : entS n q q' = some r) : PRel G.prog G.w (G.up 20 hn).C (V.cut n) u q := by
  refine Classical.byContradiction fun nO => opB_k e fun e1 e => opB_k e fun e2 e => and_k e2 fun lt e2 => nO ?_
  have e1 := Nat.eq_of_beq_eq_true e1
  refine ⟨Nat.ble_eq.mp lt, by rw [e1]; exact h.2.1, ?_⟩
  refine Classical.byContradiction fun nO => orP_k e (fun e => opO_k e fun a ha e => opO_k e fun b hb e => opB_k e fun le _ => nO ?_) fun e => nO ?_
  · have o1 := h.2.2.1
    have ha := asPenA_ok _ _ ha
    have le := Nat.ble_eq.mp le
    rw [asPenA_ok _ _ hb] at o1
    refine Classical.byContradiction fun nO => ?_
    obtain ⟨x, y, tx, ty, c, z, a1, a2, a3, a4⟩ := ORel.penA' o1
    refine nO ?_
    rw [ha]
    exact ⟨⟨x, y, tx, ty, c, z, a1, a2, a3, by show y ≤ ((G.C.nb + 20 : Nat) : Int) + _; omega⟩, fun z => nomatch z⟩
  · have e := soEq_eq e
    rw [e] at e2 ⊢
    exact ⟨ORel.more (hn := hn) (h.2.2.1.cut e2), h.2.2.2⟩
theorem back_ok {σI σ : St} (R : RepG G V σ h₀ L s m news) (hn : G.C.nb + 20 ≤ 1000) (h : backS σI σ = true) : ∃ news', RepG (G.up 20 hn) (V.cut σI.nx) σI h₀ L s m news' ∧ σI.nx ≤ V.n ∧ ∀ i so, σI.nx ≤ i → iget i σ.heap = some so → ∀ p ∈ news' ++ V.r, p.1 ≠ V.ρ i := by
  refine Classical.byContradiction fun nO => ?_
  refine dec_k h fun le h => onO_k h fun _ hh hl => ?_
  have nd := R.nd
  rw [List.map_append, List.nodup_append] at nd
  obtain ⟨news', h1, h2, h3⟩ := hfilter (p := fun i => Nat.blt i σI.nx) R.hp nd.1
  refine nO ?_
  refine ⟨news', ⟨⟨rfl, R.sm⟩, R.fr, fun p hp => R.nw p ((List.mem_append.mp hp).elim (fun hp => List.mem_append_left _ (h2.mem hp)) fun hp => List.mem_append_right _ hp), fun x sv e => ?_, ?_, ((h2.append_right V.r).map (·.1)).nodup R.nd⟩, by rw [R.nx]; exact le, fun i so hi e p hp => ?_⟩
  · refine and_k (List.all_eq_true.mp hl (x, sv) (sget_mem e)) fun lt z => onO_k z fun v hv z => onO_k z fun _ hq _ => ?_
    obtain ⟨u, u1, u2⟩ := R.lc x v hv
    rw [← svEq_eq hq] at u2
    exact ⟨u, u1, VRel.cut (C := G.C) u2 lt⟩
  · exact All2.flip (all2O_ok (R := fun a b => a = b) (S := PRel G.prog G.w G.C V) (P := fun v u => PRel G.prog G.w (G.up 20 hn).C (V.cut σI.nx) u v) (fun v u a b r e1 e2 q => e1 ▸ ent_ok e2 q) (All2.refl _) h1 hh)
  · refine (List.mem_append.mp hp).elim (fun hp => h3 i so (Bool.eq_false_iff.mpr fun q => Nat.lt_irrefl _ (Nat.lt_of_lt_of_le (Nat.ble_eq.mp q) hi)) e p hp) fun hp e' => ?_
    obtain ⟨o, m1, -⟩ := hget R.hp e
    exact nd.2.2 _ (List.mem_map_of_mem (f := (·.1)) m1) _ (List.mem_map_of_mem (f := (·.1)) hp) e'.symm
end

theorem all2_map {α β γ : Type} {R : α → β → Prop} {S : α → γ → Prop} {f : β → γ} (hf : ∀ a b, R a b → S a (f b)) {as : List α} {bs : List β} (h : All2 R as bs) : All2 S as (bs.map f) := by
  induction h with
  | nil => exact .nil
  | cons h _ ih => exact .cons (hf _ _ h) ih
noncomputable def isO {α : Type} (o : Option α) : Bool := orO o (fun _ => true) false
theorem isO_k {α : Type} {o : Option α} (h : isO o = true) {P : Prop} (K : ∀ x, o = some x → P) : P := orO_k h (fun x e _ => K x e) no_k
section
variable {G : Gv} {V V' : Vl} {h₀ h₁ : Heap} {L : Addr} {s s' : Shared} {m : PySem.Str → Option Value} {news news' : List (Addr × Obj)} {σ σ' : St} {tt : TT} {sc : Sc} {d : Nat} {k : Kt}
noncomputable def bumpO (so : SO) : SO := Option.rec so (fun a => .penA (a + 20)) (asPenA so)
noncomputable def bumpS (σ : St) : St := { σ with heap := σ.heap.map fun q => (q.1, bumpO q.2) }
noncomputable def normB (σ σ' : St) : Bool := decide (σ.nx ≤ σ'.nx) && isO (all2O (entS σ.nx) σ.heap (σ'.heap.filter fun q => Nat.blt q.1 σ.nx))
noncomputable def normK (σ : St) (k : Kt) : Kt := kv fun x σ' => orB (onBo x (fun b => b) && normB σ σ') (k (.v (.bool true)) (bumpS σ)) (k (.v x) σ')
theorem pen_more {prog : Program} {w : PySem.World} {C : Cs} {V : Vl} {o : Obj} {a b : Nat} (h : ORel prog w C V o (.penA a)) (l : a ≤ b) : ORel prog w C V o (.penA b) := by
  refine Classical.byContradiction fun nO => ?_
  obtain ⟨x, y, tx, ty, c, z, a1, a2, a3, a4⟩ := ORel.penA' h
  refine nO ?_
  exact ⟨x, y, tx, ty, c, z, a1, a2, a3, by (first | lia | omega)⟩
theorem bump_rel {prog : Program} {w : PySem.World} {C : Cs} {V : Vl} {o : Obj} {so : SO} (h : ORel prog w C V o so) : ORel prog w C V o (bumpO so) := by
  unfold bumpO
  cases q : asPenA so with
  | none => exact h
  | some j => rw [asPenA_ok _ _ q] at h; exact pen_more h (Nat.le_add_right _ _)
theorem bump_I (so : SO) : isI (bumpO so) = isI so := by
  unfold bumpO
  cases q : asPenA so with
  | none => rfl
  | some j => rw [asPenA_ok _ _ q]; rfl
theorem ent_norm {n : Nat} {u : Addr × Obj} {q q' : Nat × SO} {r : Unit} (h : PRel G.prog G.w G.C V u q') (e : entS n q q' = some r) : PRel G.prog G.w G.C (V.cut n) u (q.1, bumpO q.2) := by
  refine Classical.byContradiction fun nO => opB_k e fun e1 e => opB_k e fun e2 e => and_k e2 fun lt e2 => nO ?_
  have e1 := Nat.eq_of_beq_eq_true e1
  refine Classical.byContradiction fun nO => orP_k e (fun e => opO_k e fun a ha e => opO_k e fun b hb e => opB_k e fun le _ => nO ?_) fun e => nO ?_
  · have o1 := h.2.2.1
    have ha := asPenA_ok _ _ ha
    rw [asPenA_ok _ _ hb] at o1
    refine ⟨Nat.ble_eq.mp lt, by rw [e1]; exact h.2.1, ?_, fun z => ?_⟩
    · show ORel _ _ _ _ _ (bumpO q.2)
      rw [ha]
      exact pen_more (show ORel G.prog G.w G.C (V.cut n) u.2 (.penA b) from o1) (Nat.ble_eq.mp le)
    · rw [show isI (q.1, bumpO q.2).2 = isI q.2 from bump_I _, ha] at z; cases z
  · have e := soEq_eq e
    have o1 := h.2.2.1
    have o2 := h.2.2.2
    rw [← e] at o1 o2
    exact ⟨Nat.ble_eq.mp lt, by rw [e1]; exact h.2.1, bump_rel (o1.cut e2), fun z => o2 ((bump_I _).symm.trans z)⟩
theorem norm_ok (R : RepG G V σ h₀ L s m news) (R' : RepG G V' σ' h₁ L s' m news') (l : V.le V') (h : normB σ σ' = true) : ∃ news2, RepG G (V'.cut σ.nx) (bumpS σ) h₁ L s' m news2 ∧ V.le (V'.cut σ.nx) := by
  refine Classical.byContradiction fun nO => ?_
  refine dec_k h fun le h => isO_k h fun _ hh => ?_
  have nd := R'.nd
  rw [List.map_append, List.nodup_append] at nd
  obtain ⟨news2, h1, h2, -⟩ := hfilter (p := fun i => Nat.blt i σ.nx) R'.hp nd.1
  refine nO ?_
  have l2 : V.le (V'.cut σ.nx) := ⟨Nat.le_of_eq R.nx, l.2, l.3, l.4, l.5⟩
  refine ⟨news2, ⟨⟨rfl, R'.sm⟩, R'.fr, fun p hp => R'.nw p ((List.mem_append.mp hp).elim (fun hp => List.mem_append_left _ (h2.mem hp)) fun hp => List.mem_append_right _ hp), R.lc.up l2, ?_, ((h2.append_right V'.r).map (·.1)).nodup R'.nd⟩, l2⟩
  have z := All2.flip (all2O_ok (R := fun a b => a = b) (S := PRel G.prog G.w G.C V') (P := fun v u => PRel G.prog G.w G.C (V'.cut σ.nx) u (v.1, bumpO v.2)) (fun v u a b r e1 e2 q => e1 ▸ ent_norm e2 q) (All2.refl _) h1 hh)
  exact all2_map (S := PRel G.prog G.w G.C (V'.cut σ.nx)) (f := fun q : Nat × SO => (q.1, bumpO q.2)) (fun _ _ h => h) z
theorem FxT.back {A : Around} {env : Env} (f : FxT G tt V A env h₀ L sc d) (f' : FxT G tt V' A env h₁ L sc d) {n : Nat} (l : V.le (V'.cut n)) (hn : V.n = n) : FxT G tt (V'.cut n) A env h₁ L sc d := by
  refine Classical.byContradiction fun nO => ?_
  obtain ⟨cn, ae, ccd, cl, A₀, base, outer, e, B, hA, XB, TB, tb, tf⟩ := f'.o
  obtain ⟨_, _, _, _, _, _, _, _, _, _, _, _, tb0, tf0⟩ := f.o
  refine nO ?_
  exact ⟨CellsIn.up l f.c, f.k, f.cp, f.q, ⟨cn, ae, ccd, cl, A₀, base, outer, e, B, hA, XB, TB, fun t q z => ⟨hn ▸ (tb0 t q z).1, (tb t q z).2⟩, fun x hx => ⟨hn ▸ (tf0 x hx).1, (tf x hx).2⟩⟩, f.hh, f.hd, f.hu⟩
theorem T_norm {f : SV} {xs : List SV} (h : HoldT G tt sc d (.call f xs) σ (normK σ k)) : HoldT G tt sc d (.call f xs) σ k := by
  intro V A env h₀ L fx s m news R fv vs Q hf hv hQ
  refine h V A env h₀ L fx s m news R fv vs Q hf hv (endsT_v fun V' v x σ' s' news' h₁ l f' g hk hx R' => ?_)
  refine orB_k hk (fun q hk => and_k q fun q1 q2 => ?_) fun _ hk => hQ V' _ _ σ' s' m news' h₁ l f' g rfl hk (.mk hx) R'
  apply onBo_k (P := fun v => Q v s') q1 hx
  intro b hb
  rw [hb]
  obtain ⟨news2, R2, l2⟩ := norm_ok R R' l q2
  exact hQ (V'.cut σ.nx) _ _ (bumpS σ) s' m news2 h₁ l2 (fx.back f' l2 R.nx) g rfl hk (.mk (.bool true)) R2
end

section
variable {G : Gv} {tt : TT} {sc : Sc} {d : Nat} {k : Kt} {self T : Ev} {σ : St}
noncomputable def tnm (tn : List PySem.Str) (f : PySem.Expr) : Bool := onO (exName f) fun x => tn.any (seq x.1)
section
variable (tn : List PySem.Str) (c : Cfg) (tt : TT) (run : Cfg → Ev) (self T : Ev) (sc : Sc) (d : Nat)
noncomputable def exT (e : PySem.Expr) (σ : St) (k : Kt) : Bool := match e with
  | .Call f args kws pos => orB (tnm tn f) (kws.isEmpty && onO (exName f) fun x => callT c T self sc d x.1 x.2 args σ k) (self sc d (.ex (.Call f args kws pos)) σ k)
  | .Compare l ops rs pos => orB (Nat.beq ops.length 1) (oneC ops rs fun op r => cmpT c T self sc d l r op σ (fun t σ => k (.v (.bool t)) σ)) (self sc d (.ex (.Compare l ops rs pos)) σ k)
  | .BoolOp op xs pos => boolX T sc d op pos xs σ k
  | e => self sc d (.ex e) σ k
noncomputable def tstT (e : PySem.Expr) (σ : St) (k : Kt) : Bool := match e with
  | .UnaryOp op x _ => decide (op = .Not) && T sc d (.tst x) σ (kb fun b σ₁ => k (.b (!b)) σ₁)
  | .BoolOp op xs pos => boolT T sc d op pos xs σ k
  | .Compare l ops rs pos => orB (Nat.beq ops.length 1) (oneC ops rs fun op r => cmpT c T self sc d l r op σ (fun t σ => k (.b t) σ)) (self sc d (.tst (.Compare l ops rs pos)) σ k)
  | .Call f args kws pos => T sc d (.ex (.Call f args kws pos)) σ (kbool fun b σ₁ => k (.b b) σ₁)
  | e => self sc d (.tst e) σ k
noncomputable def stT (st : Stmt) (σ : St) (k : Kt) : Bool := match st with
  | .Return e pos => orO e (fun e => T sc d (.ex e) σ (kv fun v σ₁ => k (.rt v) σ₁)) (self sc d (.st (.Return e pos)) σ k)
  | .If t b o _ => T sc d (.tst t) σ (kb fun c σ₁ => orB c (T sc d (.sts b) σ₁ k) (T sc d (.sts o) σ₁ k))
  | st => self sc d (.st st) σ k
noncomputable def callTS (f : SV) (xs : List SV) (σ : St) (k : Kt) : Bool := onO (svObj f) fun a => orB (Nat.beq a 1336) (heardS run c sc d xs σ k) (fnTS c tt T sc d a xs σ (normK σ k))
noncomputable def stepT (t : Tk) (σ : St) (k : Kt) : Bool := match t with
  | .ex e => exT tn c self T sc d e σ k
  | .tst e => tstT c self T sc d e σ k
  | .st st => stT self T sc d st σ k
  | .sts ss => stsS T sc d ss σ k
  | .call f xs => callTS c tt run T sc d f xs σ k
  | _ => false
end
variable {tn : List PySem.Str} {run : Cfg → Ev}
theorem exT_sound (hs : Snd G self) (ht : SndT G tt T) {e : PySem.Expr} (h : exT tn G.cf self T sc d e σ k = true) : HoldT G tt sc d (.ex e) σ k := by
  cases e
  case Call => exact orB_k h (fun _ h => and_k h fun e h => onO_k h fun x hx h => by rw [List.isEmpty_iff.mp e, exName_ok hx]; exact T_call hs ht h) fun _ h => lift hs h
  case Compare l ops rs pos => exact orB_k h (fun _ h => oneC_k h (P := fun ops rs => HoldT G tt sc d (.ex (.Compare l ops rs pos)) σ k) fun op r h => T_cmp hs ht h) fun _ h => lift hs h
  case BoolOp => exact T_boolX ht h
  all_goals exact lift hs h
theorem tstT_sound (hs : Snd G self) (ht : SndT G tt T) {e : PySem.Expr} (h : tstT G.cf self T sc d e σ k = true) : HoldT G tt sc d (.tst e) σ k := by
  cases e
  case UnaryOp => exact dec_k h fun e h => by rw [e]; exact T_not ht h
  case BoolOp => exact T_bool ht h
  case Compare l ops rs pos => exact orB_k h (fun _ h => oneC_k h (P := fun ops rs => HoldT G tt sc d (.tst (.Compare l ops rs pos)) σ k) fun op r h => T_tcmp hs ht h) fun _ h => lift hs h
  case Call => exact T_plain ht (Bool.and_eq_true_iff.mpr ⟨rfl, h⟩)
  all_goals exact lift hs h
theorem stepT_sound (H : HeardOk G.prog G.w G.K G.p G.loose) (hrun : ∀ G' : Gv, Snd G' (run G'.cf)) (hs : Snd G self) (ht : SndT G tt T) : SndT G tt (stepT tn G.cf tt run self T) := fun sc d t σ k h => by
  cases t
  case ex => exact exT_sound hs ht h
  case tst => exact tstT_sound hs ht h
  case st st =>
    cases st
    case Return => exact orO_k h (fun e he h => by rw [he]; exact T_ret ht h) fun h => lift hs h
    case If => exact T_if ht h
    all_goals exact lift hs h
  case sts => exact T_sts ht h
  case call =>
    refine onO_k h fun a ha h => ?_
    rw [svObj_ok ha]
    refine orB_k h (fun q h => ?_) fun _ h => T_norm (T_fn ht h)
    rw [Nat.eq_of_beq_eq_true q]
    exact T_heard H hrun h
  all_goals exact fun _ _ _ _ _ _ _ _ _ _ => trivial
noncomputable def runT (tn : List PySem.Str) (tt : TT) (c : Cfg) (N n : Nat) : Ev := Nat.rec (fun _ _ _ _ _ => false) (fun _ T => stepT tn c tt (fun c => runR c N) (runR c N) T) n
theorem runT_sound (H : HeardOk G.prog G.w G.K G.p G.loose) (N n : Nat) : SndT G tt (runT tn tt G.cf N n) := by
  induction n with
  | zero => intro sc d t σ k h; exact no_k h
  | succ n ih => exact stepT_sound H (fun G' => run_sound N) (run_sound N) ih
end

section
variable {tt : TT} {T : Ev} {sc : Sc} {d : Nat}
noncomputable def loopB (tt : TT) (T : Ev) (sc : Sc) (d : Nat) (t : PySem.Str) (body : List Stmt) (σI : St) : Bool := sc.cells.isEmpty && (noneO sc.tb true && (tt.all (fun x => decide (x.2.1 < σI.nx)) && (locB sc.sc t && T sc d (.sts body) { nx := σI.nx + 2, heap := (σI.nx, .opq (σI.nx + 1)) :: σI.heap, loc := (t, .int .any) :: σI.loc } (fun f σ' => aftK f (opqIs σI.nx (σI.nx + 1) σ'.heap && backS σI σ') (fun _ => false) false))))
noncomputable def itS (σI : St) (x l : Int) : St := { nx := σI.nx + 1, heap := (σI.nx, .rit x l) :: σI.heap, loc := σI.loc }
theorem iset_head {α : Type} {i : Nat} {u v : α} {r : List (Nat × α)} : iset i v ((i, u) :: r) = (i, v) :: r := iset_at (Nat.beq_refl i)
theorem iget_head {α : Type} {i : Nat} {u : α} {r : List (Nat × α)} : iget i ((i, u) :: r) = some u := by
  show (if Nat.beq i i then some u else iget i r) = some u
  rw [Nat.beq_refl]; rfl
theorem idel_head {α : Type} {i : Nat} {u : α} {r : List (Nat × α)} : idel i ((i, u) :: r) = r := by
  show orB (Nat.beq i i) r _ = r
  rw [Nat.beq_refl]; rfl
theorem FxT.cut {G : Gv} {V : Vl} {A : Around} {env : Env} {h₀ : Heap} {L a : Addr} (f : FxT G tt V A env h₀ L sc d) {n : Nat} (hc : sc.cells = []) (htb : sc.tb = none) (htt : ∀ x ∈ tt, x.2.1 < n) {hn : G.C.nb + 20 ≤ 1000} : FxT (G.up 20 hn) tt ((V.cut n).ext a) A env h₀ L sc d := by
  refine Classical.byContradiction fun nO => ?_
  obtain ⟨cn, ae, ccd, cl, A₀, base, outer, e, B, hA, XB, TB, tb, tf⟩ := f.o
  refine nO ?_
  refine ⟨by rw [hc]; exact fun _ _ e => no_o e, f.k, f.cp, f.q, ⟨cn, ae, ccd, cl, A₀, base, outer, e, B, hA, XB, TB, fun t q z => (by rw [htb] at z; cases z), fun x hx => ⟨Nat.lt_succ_of_lt (htt x hx), ?_⟩⟩, f.hh, f.hd, f.hu⟩
  have : ((V.cut n).ext a).ρ x.2.1 = V.ρ x.2.1 := if_neg (Nat.ne_of_lt (htt x hx))
  rw [this]
  exact (tf x hx).2
noncomputable def AtT (A : Around) (env : Env) (z₀ : Shared) (hI : Heap) (V : Vl) (h : Heap) : Prop := V.z = z₀ ∧ Gnd A env hI h
theorem AtT.go {A : Around} {env : Env} {z₀ : Shared} {hI h h' : Heap} {V V' : Vl} (a : AtT A env z₀ hI V h) (l : V.le V') (g : Gnd A env h h') : AtT A env z₀ hI V' h' := ⟨l.4.trans a.1, a.2.trans g⟩
theorem T_loop {OK : Gv → Prop} (hup : ∀ G hn, OK G → OK (G.up 20 hn)) (ht : ∀ G, OK G → SndT G tt T) {t : PySem.Str} {pp : Pos} {body : List Stmt} {σI : St} (hb : loopB tt T sc d t body σI = true) {A : Around} {env : Env} {L : Addr} {z₀ : Shared} {hI : Heap} {Q : Flow → Shared → Prop} (left : Nat) : ∀ (G : Gv) (_ : OK G) (_ : G.C.nb + 20 * left ≤ 1000) (V : Vl) (h₀ : Heap) (s : Shared) (m : PySem.Str → Option Value) (news : List (Addr × Obj)) (x : Int) (_ : FxT G tt V A env h₀ L sc d) (_ : AtT A env z₀ hI V h₀) (_ : RepG G V (itS σI x left) h₀ L s m news)
    (_ : ∀ G', OK G' → ∀ V' s' m' news' h₁, FxT G' tt V' A env h₁ L sc d → AtT A env z₀ hI V' h₁ → RepG G' V' { σI with nx := σI.nx + 1 } h₁ L s' m' news' → Q .next s'), codeX sc.cl (model G.prog G.w) A (.forLoop (.Name t pp) (.ref (V.ρ σI.nx)) body [] env) (fun r s' => match r with | .ok f => Q f s' | .error e => cameBackBy (model G.prog G.w) A env NoE e s') s := by
  refine and_k hb fun b1 hb => and_k hb fun b2 hb => and_k hb fun b3 hb => and_k hb fun b4 hb => ?_
  have hden : ∀ (G : Gv) (a : Addr), (model G.prog G.w).den (.forLoop (.Name t pp) (.ref a) body [] env) = (forTurn (.Name t pp) (.ref a) body [] env).onRaise (fun x => do noteFrame x env; theTreesLotGoes x) := fun _ _ => rfl
  induction left with
  | zero =>
    intro G ok hn V h₀ s m news x f aT R hend
    have hg : iget σI.nx (itS σI x (0 : Nat)).heap = some (.rit x (0 : Nat)) := iget_head
    refine RAt R hg fun o m1 o1 _ => ?_
    obtain rfl := ORel.rit' o1
    refine for_end (wpAny_pyNext_range_end f.hh (R.nw _ m1).1 (Int.le_refl _) fun h' he => ⟨rfl, ?_⟩) (hden G _) fun s₁ q => codeAny_block (wpAny_execs_nil q)
    obtain ⟨news', R'⟩ := rep_drop R hg he
    rw [show idel σI.nx (itS σI x (0 : Nat)).heap = σI.heap from idel_head] at R'
    exact hend G ok V _ m news' h₀ f aT R'
  | succ left ih =>
    intro G ok hn V h₀ s m news x f aT R hend
    have hg : iget σI.nx (itS σI x (left + 1 : Nat)).heap = some (.rit x (left + 1 : Nat)) := iget_head
    refine RAt R hg fun o m1 o1 _ => ?_
    obtain rfl := ORel.rit' o1
    refine for_item (v := .int x s.toks) (wpAny_pyNext_range_item (R.nw _ m1).1 (by omega) fun h' h1 h2 => ⟨rfl, fun Q E q => owned_ok h1 (.inr (.inl rfl)) q, ?_⟩) (hden G _)
    refine Classical.byContradiction fun nO => ?_
    obtain ⟨news1, R1⟩ := rep_same (so := .rit x (left + 1 : Nat)) (so' := .rit (x + 1) left) R rfl hg h2 h1 (by rw [show ((left + 1 : Nat) : Int) - 1 = left by omega]; exact .rit)
    rw [show iset σI.nx (.rit (x + 1) left) (itS σI x (left + 1 : Nat)).heap = (σI.nx, .rit (x + 1) left) :: σI.heap from iset_head] at R1
    have R1 : RepG G V (itS σI (x + 1) left) h₀ L { s with heap := h' } m news1 := R1
    obtain ⟨Vc, lv, hrr, hm, ho, -, hB, hK⟩ := frz_ok R1 (i := σI.nx) (so := .rit (x + 1) left) (so' := .opq (σI.nx + 1)) iget_head rfl fun V' o _ lt e => e ▸ .opq lt
    obtain ⟨-, hBn, hBl, hBr, hBd⟩ := hB
    rw [show (frzd (itS σI (x + 1) left) σI.nx (.opq (σI.nx + 1))).heap = (σI.nx, .opq (σI.nx + 1)) :: σI.heap from iset_head] at hBr
    obtain ⟨cn, ae, ccd, cl, A₀, base, outer, e, -⟩ := f.at
    refine nO ?_
    refine assign_Name ?_
    rw [show storeName env t (.int x s.toks) = storeName (envX cn sc.sc L ae ccd cl) t (.int x s.toks) from by rw [e]]
    have hloc := locB_ok b4
    refine storeX_L (news := news1 ++ Vc.r) R1.fr (by rw [hrr]; exact R1.nw) (fun h2' F' N' => ?_) f.k hloc
    have R2 : RepG G Vc { nx := σI.nx + 2, heap := (σI.nx, .opq (σI.nx + 1)) :: σI.heap, loc := (t, .int .any) :: σI.loc } h₀ L { s with heap := h2', toks := s.toks + 1 + 1 } _ news1 := ⟨⟨hBn, by rw [lv.4]; exact R1.sm⟩, F', N', hBl.store (.int (i := .any) s.toks trivial), hBr, hBd⟩
    refine wpX_mono (ht G ok sc d _ _ _ hb Vc A env h₀ L (f.up lv) { s with heap := h2', toks := s.toks + 1 + 1 } _ news1 R2 _ fun V' rr fl σ' s' m2 news' h₁ l f' g _ hk hR R' => ?_) (fun _ _ z => z) fun _ _ z => False.elim z
    cases hR with
    | rt => exact no_k hk
    | bk => exact no_k hk
    | nx =>
      refine and_k hk fun hop hback => onO_k hop fun j hj hop => ?_
      have hj := get_k asOpq_ok hj
      have nb : G.C.nb + 20 ≤ 1000 := by omega
      refine Classical.byContradiction fun nO => ?_
      obtain ⟨news3, R3, le, hne⟩ := back_ok R' nb hback
      have mem := (hK V' σ'.heap news' l ⟨_, hj, rfl, fun o q => (ORel.opq' q).1.trans (congrArg V'.ω (Nat.eq_of_beq_eq_true hop).symm)⟩ R'.hp).1
      have hi : σI.nx < V.n := by rw [R.nx]; exact Nat.lt_succ_self _
      have hρ : V'.ρ σI.nx = V.ρ σI.nx := (l.2 _ (Nat.lt_of_lt_of_le hi lv.1)).trans (lv.2 _ hi)
      obtain ⟨R4, -⟩ := rep_newN (so := .rit (x + 1) left) (tk := s'.toks) (a := V.ρ σI.nx) (o := Vc.ω (σI.nx + 1)) R3 R'.fr (fun q hq => (List.mem_cons.mp hq).elim (fun z => by rw [z]; exact R'.nw _ (List.mem_append_left _ mem)) fun hq => R3.nw q hq) (fun p hp => by rw [← hρ]; exact hne _ _ (Nat.le_refl _) hj p hp) (fun q => nomatch q) ho
      refine nO ?_
      have htt : ∀ x ∈ tt, x.2.1 < σI.nx := fun x hx => of_decide_eq_true (List.all_eq_true.mp b3 x hx)
      have f4 := f'.cut (a := V.ρ σI.nx) (n := σI.nx) (List.isEmpty_iff.mp b1) (noneO_k b2 fun e _ => e) htt (hn := nb)
      have := ih (G.up 20 nb) (hup G nb ok) (by show G.C.nb + 20 + 20 * left ≤ 1000; omega) _ h₁ s' m2 _ (x + 1) f4 ⟨((aT.go lv Gnd.refl).go l g).1, ((aT.go lv Gnd.refl).go l g).2⟩ R4 hend
      rw [show ((V'.cut σI.nx).ext (V.ρ σI.nx)).ρ σI.nx = V.ρ σI.nx from Vl.ext_at (V'.cut σI.nx) _] at this
      exact this
end

section
variable {tt : TT} {T self : Ev} {sc : Sc} {d : Nat}
noncomputable def penO (so : SO) : SO := Option.rec so (fun j => .penA j) (asPen so)
noncomputable def penAll (σ : St) : St := { σ with heap := σ.heap.map fun q => (q.1, penO q.2) }
theorem penO_rel {prog : Program} {w : PySem.World} {C : Cs} {V : Vl} {o : Obj} {so : SO} (h : ORel prog w C V o so) : ORel prog w C V o (penO so) := by
  unfold penO
  cases q : asPen so with
  | none => exact h
  | some j =>
    rw [asPen_ok _ _ q] at h
    refine Classical.byContradiction fun nO => ?_
    obtain ⟨tx, ty, c, rfl, a, b, c', e⟩ := ORel.pen' h
    refine nO ?_
    exact .penA a b c' (by omega)
theorem penO_I (so : SO) : isI (penO so) = isI so := by
  unfold penO
  cases q : asPen so with
  | none => rfl
  | some j => rw [asPen_ok _ _ q]; rfl
theorem penAll_rel {G : Gv} {V : Vl} {σ : St} {h₀ : Heap} {L : Addr} {s : Shared} {m : PySem.Str → Option Value} {news : List (Addr × Obj)} (R : RepG G V σ h₀ L s m news) : RepG G V (penAll σ) h₀ L s m news :=
  ⟨R.1, R.fr, R.nw, R.lc, all2_map (fun _ _ h => ⟨h.1, h.2.1, penO_rel h.2.2.1, fun e => h.2.2.2 (penO_I _ ▸ e)⟩) R.hp, R.nd⟩
noncomputable def tabsIn (tt : TT) (σ : St) : Bool := tt.all fun x => isO (obind (iget x.2.1 σ.heap) asTab)
noncomputable def kTrue (tt : TT) : Kt := fun r σ => tabsIn tt σ && Rs.rec (motive := fun _ => Bool) (fun _ => false) (fun _ => false) false (fun x => onBo x fun b => b) false (fun _ => false) r
noncomputable def tailB (tt : TT) (T self : Ev) (sc : Sc) (d : Nat) (t : PySem.Str) (iter : PySem.Expr) (body : List Stmt) (ret : Stmt) (σ : St) : Bool := setLess iter && (self sc.any d (.ex iter) σ (kv fun x σ₂ => onRef x fun i => hpRgo σ₂ i (fun n => decide (0 ≤ n ∧ n ≤ 6) && backS σ σ₂) false) && (loopB tt T sc d t body σ && T sc d (.st ret) { σ with nx := σ.nx + 1 } (kTrue tt)))
theorem T_tail {OK : Gv → Prop} (hup : ∀ G hn, OK G → OK (G.up 20 hn)) (ht : ∀ G, OK G → SndT G tt T) (hs : ∀ G, OK G → Snd G self) (hp : ∀ G G', OK G → OK G' → G'.prog = G.prog ∧ G'.w = G.w) {t : PySem.Str} {pp p1 : Pos} {iter : PySem.Expr} {body : List Stmt} {ret : Stmt} {σ : St} (h : tailB tt T self sc d t iter body ret σ = true) {G : Gv} (ok : OK G) (hn : G.C.nb ≤ 800) {V : Vl} {A : Around} {env : Env} {h₀ : Heap} {L : Addr} {s : Shared} {m : PySem.Str → Option Value} {news : List (Addr × Obj)} (f : FxT G tt V A env h₀ L sc d) (R : RepG G V σ h₀ L s m news) {z₀ : Shared} {hI : Heap} {Q : Flow → Shared → Prop} (aT : AtT A env z₀ hI V h₀) (hQ : ∀ G' V' σ' h₁ s' m' news', OK G' → FxT G' tt V' A env h₁ L sc d → AtT A env z₀ hI V' h₁ → tabsIn tt σ' = true → RepG G' V' σ' h₁ L s' m' news' → Q (.ret (.bool true)) s') : WPX G sc A (execs [.For (.Name t pp) iter body [] p1, ret] env) Q NoE s := by
  refine Classical.byContradiction fun nO => and_k h fun h1 h => and_k h fun h2 h => and_k h fun hb h3 => nO ?_
  refine x_cons (x_for (wpX_any <| Sc.of <| hs G ok sc.any d _ σ _ h2 V A env h₀ L NoE f.fx.any PassesOwn.never V s m news V.le_refl R _ (ends_v fun V' v x σ' s' news' l hk hv R' => ?_)) (folded_no h1))
  apply onRef_k hk hv; intro i hi hk
  refine Classical.byContradiction fun nO => hpRgo_e hk (fun n hg hk => dec_k hk fun c hback => RAt R' hg fun o m1 o1 _ => nO ?_) no_k
  refine Classical.byContradiction fun nO => ?_
  obtain ⟨t', u, v, rfl⟩ := ORel.rgo' o1
  obtain ⟨e1, e2⟩ := range_size c.1 (by omega)
  refine nO ?_
  refine wpAny_pyIter_range (R'.nw _ m1).1 e2 ?_
  rw [e1]
  have nb : G.C.nb + 20 ≤ 1000 := by omega
  refine Classical.byContradiction fun nO => ?_
  obtain ⟨news3, R3, le, -⟩ := back_ok R' nb hback
  obtain ⟨R4, -⟩ := rep_push R3 (so := .rit 0 n) (hI := rfl) (o := { cls := .type "range_iterator", dict := none, data := .fields #[rawInt 0, rawInt n, rawInt 1], slots := #[] }) (hf := rfl) (ho := .rit)
  refine and_k hb fun b1 hb' => and_k hb' fun b2 hb' => and_k hb' fun b3 _ => ?_
  refine nO ?_
  have f4 := (f.up l).cut (a := s'.heap.objs.size) (n := σ.nx) (List.isEmpty_iff.mp b1) (noneO_k b2 fun e _ => e) (fun x hx => of_decide_eq_true (List.all_eq_true.mp b3 x hx)) (hn := nb)
  have e3 : (n.toNat : Int) = n := Int.toNat_of_nonneg c.1
  have := T_loop (z₀ := z₀) (hI := hI) hup ht hb (t := t) (pp := pp) (body := body) (σI := σ) (A := A) (env := env) (L := L) (Q := fun f s' => match f with | .next => WPX G sc A (execs [ret] env) Q NoE s' | f => Q f s') n.toNat (G.up 20 nb) (hup G nb ok) (by show G.C.nb + 20 + 20 * n.toNat ≤ 1000; omega) _ h₀ { s' with heap := _ } m _ 0 f4 ⟨(aT.go l Gnd.refl).1, (aT.go l Gnd.refl).2⟩ (by rw [e3]; exact R4) fun G' ok' V2 s2 m2 news2 h₁ f2 a2 R2 => ?_
  · rw [show ((V'.cut σ.nx).ext s'.heap.objs.size).ρ σ.nx = s'.heap.objs.size from Vl.ext_at (V'.cut σ.nx) _] at this
    exact this
  · have := ht G' ok' sc d _ _ _ h3 V2 A env h₁ L f2 s2 m2 news2 R2 (fun f s' => match f with | .next => WPX G sc A (execs [] env) Q NoE s' | f => Q f s') fun V3 r fl σ3 s3 m3 news3 h3 l3 f3 g3 _ hk hR R3 => and_k hk fun hkt hk => ?_
    · have this : wpX sc.cl (model G'.prog G'.w) A (exec ret env) _ NoE s2 := this
      rw [(hp G G' ok ok').1, (hp G G' ok ok').2] at this
      exact x_cons this
    · cases hR with
      | nx => exact no_k hk
      | bk => exact no_k hk
      | @rt v x hv =>
        apply onBo_k (P := fun v => Q (.ret v) s3) hk hv
        intro b hb
        rw [hb]; exact hQ G' V3 σ3 h3 s3 m3 news3 ok' f3 (a2.go l3 g3) hkt R3
noncomputable def appS (T : Ev) (sc : Sc) (d : Nat) (xs : List Stmt) : St → (St → Bool) → Bool := List.rec (motive := fun _ => St → (St → Bool) → Bool) (fun σ k => k σ) (fun st _ ih σ k => T sc d (.st st) σ fun f σ₁ => aftK f (ih σ₁ k) (fun _ => false) false) xs
theorem T_app {G : Gv} (ht : SndT G tt T) {kk : St → Bool} {ys : List Stmt} {A : Around} {env : Env} {L : Addr} {z₀ : Shared} {hI : Heap} {Q : Flow → Shared → Prop} (hQ : ∀ V σ h₀ s m news, FxT G tt V A env h₀ L sc d → AtT A env z₀ hI V h₀ → RepG G V σ h₀ L s m news → kk σ = true → WPX G sc A (execs ys env) Q NoE s) (xs : List Stmt) : ∀ {σ : St} {V : Vl} {h₀ : Heap} {s : Shared} {m : PySem.Str → Option Value} {news : List (Addr × Obj)}, appS T sc d xs σ kk = true → FxT G tt V A env h₀ L sc d → AtT A env z₀ hI V h₀ → RepG G V σ h₀ L s m news → WPX G sc A (execs (xs ++ ys) env) Q NoE s := by
  induction xs with
  | nil => exact fun h f a R => hQ _ _ _ _ _ _ f a R h
  | cons x xs ih =>
    intro σ V h₀ s m news h f a R
    refine x_cons (ht sc d _ σ _ h V A env h₀ L f s m news R _ fun V' r fl σ' s' m' news' h₁ l f' g _ hk hR R' => ?_)
    cases hR with
    | nx => exact ih hk f' (a.go l g) R'
    | bk => exact no_k hk
    | rt => exact no_k hk
noncomputable def lawB (tt : TT) (T self : Ev) (sc : Sc) (d : Nat) (xs : List Stmt) (t : PySem.Str) (iter : PySem.Expr) (body : List Stmt) (ret : Stmt) (σ : St) : Bool := appS T sc d xs σ fun σ' => tailB tt T self sc d t iter body ret (penAll σ')
theorem T_law {OK : Gv → Prop} (hup : ∀ G hn, OK G → OK (G.up 20 hn)) (ht : ∀ G, OK G → SndT G tt T) (hs : ∀ G, OK G → Snd G self) (hp : ∀ G G', OK G → OK G' → G'.prog = G.prog ∧ G'.w = G.w) {xs : List Stmt} {t : PySem.Str} {pp p1 : Pos} {iter : PySem.Expr} {body : List Stmt} {ret : Stmt} {σ : St} (h : lawB tt T self sc d xs t iter body ret σ = true) {G : Gv} (ok : OK G) (hn : G.C.nb ≤ 800) {V : Vl} {A : Around} {env : Env} {h₀ : Heap} {L : Addr} {s : Shared} {m : PySem.Str → Option Value} {news : List (Addr × Obj)} (f : FxT G tt V A env h₀ L sc d) (R : RepG G V σ h₀ L s m news) {z₀ : Shared} {hI : Heap} {Q : Flow → Shared → Prop} (aT : AtT A env z₀ hI V h₀) (hQ : ∀ G' V' σ' h₁ s' m' news', OK G' → FxT G' tt V' A env h₁ L sc d → AtT A env z₀ hI V' h₁ → tabsIn tt σ' = true → RepG G' V' σ' h₁ L s' m' news' → Q (.ret (.bool true)) s') : WPX G sc A (execs (xs ++ [.For (.Name t pp) iter body [] p1, ret]) env) Q NoE s :=
  T_app (ht G ok) (fun V σ h₀ s m news f a R hk => T_tail hup ht hs hp hk ok hn f (penAll_rel R) a hQ) xs h f aT R
end

section
variable {b : Bool} {M : Model} {A : Around} {E : Value → Shared → Prop} {s : Shared} {env : Env}
theorem x_callF {pos : Pos} {q : Addr} {Q : Value → Shared → Prop} (X : FnAt q s.heap) (h : wpX b M A (call (.ref q) []) Q E s) : wpX b M A (callWith pos (.ref q) [] (backTo pos (starEach [] env)) []) Q E s := by
  have h : wpX b M A (evalArgs (.ref q) true (backTo pos (starEach [] env)) []) (fun a s₁ => FnAt q s₁.heap ∧ wpX b M A (call (.ref q) ([] ++ a.pos) a.kw) Q E s₁) E s := wpX_any (evalArgs_empty ⟨X, h⟩)
  unfold callWith
  refine wpX_bind (wpX_holding (wpX_mono h (fun a s₁ h₁ => wpX_bindA (wpAny_standAt ?_)) fun _ _ z => z))
  refine Classical.byContradiction fun nO => ?_
  obtain ⟨oc, od, fd, sl, e⟩ := h₁.1
  refine nO ?_
  have L : Looks M s₁.heap (keeperOf (.ref q)) Keeper.frame := (Looks.ld (part := none) e).andThen .now
  rw [show ((backTo pos (starEach [] env)).any (·.1) || ([] : List (Option PySem.Str × Sem Value)).any (·.1.isNone)) = false from rfl]
  refine wpX_bindA (L.here ?_)
  have tail : ∀ {t : Sem Value}, wpX b M A t Q E s₁ → wpX b M A (t >>= fun r => holding [r] point >>= fun _ => pure r) Q E s₁ :=
    fun ht => wpX_bind (wpX_mono ht (fun r s₂ hr => wpX_bindA (wpAny_holding (wpAny_point (wpX_pure hr)))) fun _ _ z => z)
  dsimp only
  split
  · exact tail h₁.2
  · exact tail (wpX_keep h₁.2)
end
noncomputable def heardBody (p : Nat → Pos) (rest : List ExceptHandler) : List Stmt := [.Try [.Assign [.Name (Str.ofString "heard") (p 0)] (.Call (.Name (Str.ofString "ask") (p 1)) [] [] (p 2)) (p 3)] (.ExceptHandler (some (.Name (Str.ofString "MapError") (p 4))) (some (Str.ofString "wrong")) [.Assign [.Name (Str.ofString "heard") (p 5)] (.Attribute (.Name (Str.ofString "wrong") (p 6)) (Str.ofString "what") (p 7)) (p 8)] (p 9) :: rest) [] [] (p 10), .Return (some (.Name (Str.ofString "heard") (p 11))) (p 12)]
structure HeardAt (K : Frag) (r : FuncData × List PySem.Str × List Stmt) : Prop where
  f : FnIs K r.1
  bd : ∃ p rest, r.2.2 = heardBody p rest
  bi : ∀ s q, BindsTo s r.1 ⟨[.ref q], []⟩ [(Str.ofString "ask", .ref q)]
  n1 : r.1.scope.names.lookup (Str.ofString "ask") = some .local
  n2 : r.1.scope.names.lookup (Str.ofString "heard") = some .local
  n3 : r.1.scope.names.lookup (Str.ofString "wrong") = some .local
  n4 : r.1.scope.names.lookup (Str.ofString "MapError") = some .globalImplicit
  nc : ∀ x ∈ r.1.scope.names, x.2 ≠ .cell
  ex : nsIn K mainGlobals (Str.ofString "MapError") = some (some (.ref 59))
  ga : findIn K (.ref 59) "__getattribute__" = some (some (.builtin "BaseException.__getattribute__"))
  gt : findIn K (.ref 59) "__getattr__" = some none
  mr : mroIn K 59 (.type "BaseException") = some true
  di : hasDictIn K 59 = true
  wh : findIn K (.ref 59) (Str.ofString "what") = some none
theorem nw_tail' {h₀ h : Heap} {L : Addr} {q : Addr × Obj} {l : List (Addr × Obj)} (N : News h₀ L h (q :: l)) : News h₀ L h l := fun p hp => N p (.tail _ hp)
theorem contains_ref {x : Addr} {t : String} {bm : List Value} (h : (Value.ref x :: bm).contains (.type t) = true) : bm.contains (.type t) = true := by
  rw [List.contains_cons] at h
  exact (Bool.or_eq_true_iff.mp h).elim (fun e => nomatch (beq_iff_eq.mp e)) fun e => e
theorem heard_ok {prog : Program} {w : PySem.World} {K : Frag} {p : Program} {loose : List PySem.Str} {r : FuncData × List PySem.Str × List Stmt} (hr : fnR K 1336 = some r) (H : HeardAt K r) (hC : ExcCls K) : HeardOk prog w K p loose := by
  intro b A cn cs a ccd cl outer A₀ base h₀ L m news s Q q r' mean mg mb P hr' hk' B F N hA hcs hh hd hu XB TB hq hask hQ
  refine Classical.byContradiction fun nO => ?_
  obtain rfl : r = r' := Option.some.inj (hr.symm.trans hr')
  obtain ⟨oc, od, osl, k1, k2, k3⟩ := fnR_ok hr
  obtain ⟨ps, rest, hbd⟩ := H.bd
  have f0 := H.f
  have hfd := fnOf_eq k3 f0.g f0.b f0.cl
  obtain ⟨nm, qq, N', bs, bm, hdct, sn, sub, ab, col, dd, c0, c1, c2, c3, c5, newId, w1, w2⟩ := hC
  obtain ⟨lnm, lq, lb, ls, lcl, lpm, lc, lct, hq⟩ := hq
  refine nO ?_
  refine wpX_call ?_
  refine codeX_defT (name := r.1.name) (qual := r.1.qualname) (params := r.1.params) (body := r.2.2) (scope := r.1.scope) (dV := r.1.defaults) (kV := r.1.kwdefaults) (doc := r.1.doc) (pm := r.1.pyModule) (an := r.1.annotations) (cdv := r.1.code) (ct := r.1.closureTuple) (oc := oc) (od := od) (osl := osl) (binds := [(Str.ofString "ask", .ref q)])
    B F (XB.keeps B.stays) N (TB.keeps B.stays) hA rfl hcs (by rw [k1]; exact congrArg (fun z => some (⟨oc, od, .func z, osl⟩ : Obj)) hfd) f0.cd (Nat.lt_of_le_of_lt hd (by decide)) (hfd ▸ H.bi s q) (fun y hy => by rw [List.mem_singleton.mp hy]; exact H.n1) (fun g L' h₁ FG F' N' B' X' T' => ?_) f0.co f0.gn f0.k H.nc
  rw [hbd]
  have hms : ∀ x, (fun y => ([(Str.ofString "ask", Value.ref q)] : List (PySem.Str × Value)).reverse.lookup y) x = if x = Str.ofString "ask" then some (.ref q) else none := fun x => by
    show ([(Str.ofString "ask", Value.ref q)] : List (PySem.Str × Value)).lookup x = _
    rw [List.lookup_cons]
    by_cases e : x = Str.ofString "ask"
    · rw [beq_iff_eq.mpr e, if_pos e]
    · rw [beq_eq_false_iff_ne.mpr e, if_neg e]; rfl
  have hask0 : (fun y => ([(Str.ofString "ask", Value.ref q)] : List (PySem.Str × Value)).reverse.lookup y) (Str.ofString "ask") = some (.ref q) := by rw [hms, if_pos rfl]
  refine x_cons (x_try (x_cons (x_name (x_callName (nameX_L F' hask0 (x_callF (FnAt.of N' hq) (wpX_mono (hask g L' h₁ _ _ FG F' N' B' X' T') (fun _ _ z => z.elim) fun v s' z => ?_)) f0.k H.n1 (by decide))) rfl)))
  refine Classical.byContradiction fun nO => ?_
  obtain ⟨e, g2, m2, what, news', rfl, F2, U2, R2, hP⟩ := z
  refine nO ?_
  refine caught_X (name := r.1.qualname) (scope := r.1.scope) (a := 1336) (cd := r.1.code) R2 F2 B' U2 XB TB H.ex w1 (contains_ref w2) (fun h' g' tk oe dx tk' ta tb vs T1 F3 N3 o1 o2 o3 B3 X3 T3 => ?_) f0.k H.n3 H.n4 (by decide)
  have m1 : (fun y => if y = Str.ofString "wrong" then some (Value.ref e) else m2 y) (Str.ofString "wrong") = some (.ref e) := if_pos rfl
  refine any_X (x_cons (x_name (wpX_any (Attribute_any_ (nameX_L F3 m1 (exg (od := some (excDict w what tk' ta tb)) (X3.keeps F3.keep) ⟨(N3 _ (.head _)).1, o1, by unfold notCls; rw [o3], by rw [o2]; exact (N3 _ (.tail _ (.head _))).1⟩ H.ga H.gt H.mr (findObj_own H.di H.wh rfl rfl) rfl (stN F3 N3 (fun h4 F4 N4 => wpX_any (wpAny_execs_nil (name_goes_keeps F4 N4 (fun h5 v F5 N5 => ?_) f0.k H.n3))) f0.k H.n2)) f0.k H.n3 (by decide)) rfl)) rfl))
  have m2' : (fun x => if x = Str.ofString "wrong" then v else (fun y => if y = Str.ofString "heard" then some (Value.str what tk') else (fun y => if y = Str.ofString "wrong" then some (Value.ref e) else m2 y) y) x) (Str.ofString "heard") = some (.str what tk') := by
    show (if Str.ofString "heard" = Str.ofString "wrong" then v else if Str.ofString "heard" = Str.ofString "heard" then some (Value.str what tk') else _) = _
    rw [if_neg (by decide), if_pos rfl]
  refine x_cons (x_ret (wpX_any (nameX_L F5 m2' ?_ f0.k H.n2 (by decide))))
  exact ⟨g', L', _, news', T1, F5, nw_tail' (nw_tail' N5), fun h1 z1 z2 z3 z4 => hQ what _ s' news' h1 _ _ hP z1 z2 z3 z4⟩

section
variable {prog : Program} {w : PySem.World} {C : Cs} {V : Vl}
theorem hget_ne {news : List (Addr × Obj)} {hp : List (Nat × SO)} {i j : Nat} {a b : SO} (h : All2 (PRel prog w C V) news hp) (nd : (news.map (·.1)).Nodup) (e1 : iget i hp = some a) (e2 : iget j hp = some b) (q : i ≠ j) : V.ρ i ≠ V.ρ j := by
  induction h with
  | nil => exact no_o e1
  | @cons p r ps rs h1 r ih =>
    obtain ⟨d1, d2⟩ := List.nodup_cons.mp (show (p.1 :: ps.map (·.1)).Nodup from nd)
    refine iget_cons e1 (fun z1 _ _ => ?_) fun _ e1 => ?_
    · refine iget_cons e2 (fun z2 _ _ => absurd (z1.trans z2.symm) q) fun _ e2 => ?_
      obtain ⟨o, m1, -⟩ := hget r e2
      intro e
      exact d1 (by rw [h1.2.1, ← z1, e]; exact List.mem_map_of_mem (f := (·.1)) m1)
    · refine iget_cons e2 (fun z2 _ _ => ?_) fun _ e2 => ih d2 e1 e2
      obtain ⟨o, m1, -⟩ := hget r e1
      intro e
      exact d1 (by rw [h1.2.1, ← z2, ← e]; exact List.mem_map_of_mem (f := (·.1)) m1)
end
theorem once {h₀ h : Heap} {L : Addr} {P : Addr} {news : List (Addr × Obj)} (N : News h₀ L h news) : ∃ l : List (Addr × Obj), (∀ q ∈ l, q ∈ news ∧ q.1 ≠ P) ∧ (∀ q ∈ news, q.1 ≠ P → q ∈ l) ∧ (l.map (·.1)).Nodup := by
  induction news with
  | nil => exact ⟨[], fun _ h => (nomatch h), fun _ h => (nomatch h), List.nodup_nil⟩
  | cons p r ih =>
    refine Classical.byContradiction fun nO => ?_
    obtain ⟨l, l1, l2, l3⟩ := ih fun q hq => N q (.tail _ hq)
    refine nO ?_
    by_cases e : p.1 = P ∨ p.1 ∈ l.map (·.1)
    · refine ⟨l, fun q hq => ⟨.tail _ (l1 q hq).1, (l1 q hq).2⟩, fun q hq hn => (List.mem_cons.mp hq).elim (fun z => ?_) fun hq => l2 q hq hn, l3⟩
      rw [z] at hn ⊢
      obtain ⟨q', hq', e'⟩ := List.mem_map.mp (e.resolve_left hn)
      have a := (N q' (.tail _ (l1 q' hq').1)).1
      rw [e', (N p (.head _)).1] at a
      rwa [show p = q' from Prod.ext e'.symm (Option.some.inj a)]
    · exact ⟨p :: l, fun q hq => (List.mem_cons.mp hq).elim (fun z => by rw [z]; exact ⟨.head _, fun z => e (.inl z)⟩) fun hq => ⟨.tail _ (l1 q hq).1, (l1 q hq).2⟩, fun q hq hn => (List.mem_cons.mp hq).elim (fun z => z ▸ .head _) fun hq => .tail _ (l2 q hq hn), List.nodup_cons.mpr ⟨fun z => e (.inr z), l3⟩⟩
theorem updF_in {P : Addr} {o o' : Obj} {news : List (Addr × Obj)} {g : Obj → List (Addr × Obj)} (U : UpdF P o news g) : ∀ q ∈ g o', q = (P, o') ∨ (q ∈ news ∧ q.1 ≠ P) := by
  induction U with
  | head h => exact fun q hq => (List.mem_cons.mp hq).elim .inl fun hq => .inr ⟨.tail _ hq, h q hq⟩
  | tail h _ ih => exact fun q hq => (List.mem_cons.mp hq).elim (fun z => .inr (by rw [z]; exact ⟨.head _, h⟩)) fun hq => (ih q hq).imp_right fun z => ⟨.tail _ z.1, z.2⟩
noncomputable def cfO (c : Cfg) (bd : List (Int × Int)) (bl : List SI) : Cfg := { c with bd := bd, bl := bl, hs := [], zl := none, dr := [(256, .var 0 0)], oc := [], fl := false, top := 0, kx := fun _ _ => false }
noncomputable def scq : Sc := ⟨⟨.function, [], false, false, []⟩, [], none, true, false, none⟩
noncomputable def stP (so : SO) : St := ⟨1, [(0, so)], []⟩
noncomputable def Gv.oct (G : Gv) (bd : List (Int × Int)) (bl : List SI) (x y b : Int) (β : List Int) (hbd : ∀ i p, bd[i]? = some p → p.1 ≤ (if i = 0 then dgt (x, y) 256 else b) ∧ (if i = 0 then dgt (x, y) 256 else b) ≤ p.2) (hb : bl = [] ∨ bl = [.var 1 0] ∧ (β.length : Int) = b ∧ β.length ≤ 50) (hy : y ≤ 2000) : Gv :=
  { G with
    cf := cfO G.cf bd bl
    C := ⟨fun i => if i = 0 then dgt (x, y) 256 else b, fun _ => β, fun _ => .none, fun j => if j = 0 then (x, y) else nxt (x, y) 256, y.toNat⟩
    hbd := hbd
    hbl := fun i z e => by
      rcases hb with rfl | ⟨rfl, h1, h2⟩
      · exact no_o e
      · cases i with
        | zero => obtain rfl := Option.some.inj e; exact ⟨show (β.length : Int) = (if (1 : Nat) = 0 then dgt (x, y) 256 else b) + 0 by rw [if_neg (by decide), h1, Int.add_zero], h2⟩
        | succ i => exact no_o e
    hzl := fun _ _ e => no_o e
    hdr := fun j many z e => by
      cases j with
      | zero => obtain ⟨rfl, rfl⟩ := Prod.mk.inj (Option.some.inj e); exact ⟨show dgt (if (0 : Nat) = 0 then (x, y) else nxt (x, y) 256) 256 = (if (0 : Nat) = 0 then dgt (x, y) 256 else b) + 0 by rw [if_pos rfl, if_pos rfl, Int.add_zero], rfl⟩
      | succ j => exact no_o e
    hoc := fun _ h => nomatch h
    hnb := by show y.toNat ≤ 100000; (first | lia | omega)
    hfl := fun e => nomatch e
    hhs := fun _ h => nomatch h }
end Mine
namespace Mine
section
variable {G : Gv} {A : Around} {cn : PySem.Str} {cs : Scope} {a : Addr} {ccd : Value} {cl : List (PySem.Str × Addr)} {outer : List Env} {A₀ : Around} {base h₀ : Heap} {L : Addr} {m : PySem.Str → Option Value} {news : List (Addr × Obj)} {s : Shared} {P : Addr} {x y : Int} {tx ty : Tok} {c : Nat} {g : Obj → List (Addr × Obj)}
theorem pen_run (B : Below A₀ base outer h₀) (F : Fr h₀ L s.heap m) (X : G.K.In h₀) (N : News h₀ L s.heap news) (T : ∃ mean mg mb, Top G.p G.loose mean mg mb h₀) (hk : cs.kind = .function) (hA : A.frames = some (envX cn cs L a ccd cl :: outer)) (hh : A.handled = none) (hd : A.depth + 4 ≤ 900) (hu : A.units + 80 ≤ 9000)
    (U : UpdF P (Mine.pen x y tx ty c) news g) {so : SO} (hI : isI so = false) (ho : ∀ V : Vl, V.ρ 0 = P → ORel G.prog G.w G.C V (Mine.pen x y tx ty c) so) {f : Addr} {xs : List SV} {vs : List Value} (hv : ∀ V : Vl, V.ρ 0 = P → 0 < V.n → All2 (VRel G.C V) vs xs) {n : Nat} {k : SV → St → Bool}
    (h : runR G.cf n scq 4 (.call (.obj f) xs) (stP so) (kv k) = true) {Q E : Value → Shared → Prop}
    (hQ : ∀ (V : Vl) v x' σ' h' tk' news', k x' σ' = true → VRel G.C V v x' → V.ρ 0 = P → Fr h₀ L h' m → News h₀ L h' (news' ++ V.r) → All2 (PRel G.prog G.w G.C V) news' σ'.heap → ((news' ++ V.r).map (·.1)).Nodup → (∀ q ∈ news, q.1 ≠ P → q ∈ V.r) → Q v { s with heap := h', toks := tk' }) :
    WPG G A (call (.ref f) vs) Q E s := by
  refine Classical.byContradiction fun nO => ?_
  obtain ⟨l, l1, l2, l3⟩ := once (P := P) N
  refine nO ?_
  let V : Vl := ⟨1, fun _ => P, fun _ => default, s, l⟩
  have R : RepG G V (stP so) h₀ L s m [(P, Mine.pen x y tx ty c)] := by
    refine ⟨⟨rfl, rfl⟩, F, fun q hq => ?_, fun _ _ e => no_o e, .cons ⟨Nat.zero_lt_one, rfl, ho V rfl, fun e => by rw [hI] at e; cases e⟩ .nil, List.nodup_cons.mpr ⟨fun z => ?_, l3⟩⟩
    · rcases List.mem_cons.mp hq with z | hq
      · rw [z]; exact N _ (UpdF.mem U)
      · exact N _ (l1 q hq).1
    · obtain ⟨q, hq, e⟩ := List.mem_map.mp z
      exact (l1 q hq).2 e
  have fx : Fx G V A (envX cn ⟨.function, [], false, false, []⟩ L a ccd cl) h₀ L scq 4 NoE :=
    ⟨.fn fun _ _ e => no_o e, rfl, ⟨cn, cs, a, ccd, cl, A₀, base, outer, hk, B, hA, fun e => nomatch e⟩, hh, hd, hu, X, (fun _ _ q => nomatch q), T⟩
  have run := run_sound n scq 4 (.call (.obj f) xs) (stP so) (kv k) h V A _ h₀ L NoE fx PassesOwn.never V s m _ V.le_refl R (.ref f) vs (fun v s' => Q v s') rfl (hv V rfl Nat.zero_lt_one) (ends_v fun V' v x' σ' s' news' l hk hx R' => ?_)
  · exact wpAny_mono (any_X run) (fun _ _ z => z) fun _ _ z => z.elim
  · have e : V'.ρ 0 = P := l.2 0 Nat.zero_lt_one
    have z := R'.sm
    rw [l.4] at z
    have := hQ V' v x' σ' s'.heap s'.toks news' hk hx e R'.fr R'.nw R'.hp R'.nd fun q hq hn => l.5 q (l2 q hq hn)
    rwa [show ({ s with heap := s'.heap, toks := s'.toks } : Shared) = s' from by
      have z1 := congrArg Shared.gens z
      have z2 := congrArg Shared.drawn z
      have z3 := congrArg Shared.os z
      refine Classical.byContradiction fun nO => ?_
      obtain ⟨a1, a2, a3, a4, a5⟩ := s'
      refine nO ?_
      show Shared.mk a1 s.gens s.drawn a4 s.os = _
      rw [show s.gens = a2 from z1.symm, show s.drawn = a3 from z2.symm, show s.os = a5 from z3.symm]] at this
noncomputable def octB (c : Cfg) (n : Int) : Bool := runR (cfO c [(0, 255)] []) 100 scq 4 (.call (.obj 1315) [.ref 0, .int (.lit n)]) (stP (.pen 0)) (kv fun v σ => onBy v fun b => onO (sbL b) fun l => Nat.beq l.length n.toNat && ((l.all fun x => onO (sameO x (.var 0 0)) fun _ => true) && onO (obind (iget 0 σ.heap) asPen) fun j => Nat.beq j 1))
theorem all_dig {C : Cs} {c : Int} (e : ∀ u, IRel C u (.var 0 0) → u = c) {bs : List Int} {l : List SI} (h : All2 (IRel C) bs l) (q : (l.all fun x => onO (sameO x (.var 0 0)) fun _ => true) = true) : bs = List.replicate l.length c := by
  induction h with
  | nil => rfl
  | @cons u v us vs h1 _ ih =>
    refine and_k (show (onO (sameO v (.var 0 0)) (fun _ => true) && vs.all fun x => onO (sameO x (.var 0 0)) fun _ => true) = true from q) fun e1 e2 => onO_k e1 fun _ e1 _ => ?_
    rw [sameO_eq e1] at h1
    rw [ih e2, e u h1]
    rfl
theorem dgt_range {p : Int × Int} : 0 ≤ dgt p 256 ∧ dgt p 256 ≤ 255 := by
  have := draw_mod (x := dX p) (n := 256) (by decide)
  exact ⟨this.1, by have := this.2; show (dX p).fmod 256 ≤ 255; (first | lia | omega)⟩
theorem oct_ok (h : ∀ n : Int, 1 ≤ n → n ≤ 4 → octB G.cf n = true) : OctOk G.prog G.w G.K G.p G.loose := by
  intro A cn cs a ccd cl outer A₀ base h₀ L m news s Q E P x y n tx ty tm c g B F X N T hk hA hh hd hu U hx hx2 hy hy2 hn1 hn4 hQ
  have hbd : ∀ i p, [((0 : Int), (255 : Int))][i]? = some p → p.1 ≤ (if i = 0 then dgt (x, y) 256 else 0) ∧ (if i = 0 then dgt (x, y) 256 else 0) ≤ p.2 := fun i p e => by
    cases i with
    | zero => obtain rfl := Option.some.inj e; exact dgt_range
    | succ i => exact no_o e
  refine pen_run (G := G.oct [(0, 255)] [] x y 0 [] hbd (.inl rfl) hy2) B F X N T hk hA hh hd hu U rfl (so := .pen 0) (fun V _ => .pen (C := (G.oct [(0, 255)] [] x y 0 [] hbd (.inl rfl) hy2).C) (j := 0) hx hx2 hy (by show y ≤ ((y.toNat : Nat) : Int) + ((0 : Nat) : Int); (first | lia | omega))) (vs := [.ref P, .int n tm]) (fun V e lt => .cons (show VRel _ V (.ref P) (.ref 0) from ⟨by rw [e], lt⟩) (.cons (show VRel _ V (.int n tm) (.int (.lit n)) from ⟨n, tm, rfl, rfl⟩) .nil)) (h n hn1 hn4) fun V v x' σ' h' tk' news' hk' hv hP F' N' r nd hr => ?_
  apply onBy_k hk' hv; intro b t sb hb hk'
  refine Classical.byContradiction fun nO => ?_
  refine onO_k hk' fun l hl hk' => and_k hk' fun q1 hk' => and_k hk' fun q2 hk' => onO_k hk' fun j hj q3 => ?_
  rw [sbL_ok hl] at hb
  obtain ⟨o, m1, o1, -, -⟩ := hget r (get_k asPen_ok hj)
  rw [Nat.eq_of_beq_eq_true q3] at o1
  obtain ⟨tx', ty', c', rfl, b1, b2, b3, b4⟩ := ORel.pen' o1
  refine nO ?_
  rw [hP] at m1
  refine hQ b t tx' ty' c' h' tk' ?_ b1 b2 F' fun q hq => ?_
  · rw [all_dig (C := (G.oct [(0, 255)] [] x y 0 [] hbd (.inl rfl) hy2).C) (c := dgt (x, y) 256) (fun u e => (show u = (if (0 : Nat) = 0 then dgt (x, y) 256 else 0) + 0 from e).trans (by rw [if_pos rfl, Int.add_zero])) hb q2, Nat.eq_of_beq_eq_true q1]
  · rcases updF_in U q hq with z | ⟨z1, z2⟩
    · rw [z]; exact N' _ (List.mem_append_left _ m1)
    · exact N' _ (List.mem_append_right _ (hr q z1 z2))
noncomputable def foulIs (v : SV) (σ : St) : Bool := orO (svBy v) (fun b => onO (sbLn b) fun x => orB (isO (sameO x (.var 1 1))) true (isO (sameO x (.var 1 (-1))))) (orO (svInt v) (fun _ => true) (orO (svRef v) (fun i => !Nat.beq i 0 && orO (obind (iget i σ.heap) asTup) (fun _ => true) (onO (obind (iget i σ.heap) asSeqA) fun t => decide (t = "list" ∨ t = "tuple"))) (Nat.beq v.ctorIdx 10)))
noncomputable def foulB (c : Cfg) (bd : Int × Int) : Bool := runR (cfO c [(0, 255), bd] [.var 1 0]) 100 scq 4 (.call (.obj 1329) [.ref 0, .bytes (.var 0)]) (stP (.penA 0)) (kv fun v σ => foulIs v σ && onO (obind (iget 0 σ.heap) asPenA) fun n => Nat.beq n 1)
theorem strA_eq {v : SV} (h : Nat.beq v.ctorIdx 10 = true) : v = .strA := by
  cases v
  case strA => rfl
  all_goals exact no_k h
theorem foul_run (bd : Int × Int) (h : foulB G.cf bd = true) {b : Array UInt8} (hb1 : bd.1 ≤ ((KBw.bInts b).length : Int)) (hb2 : ((KBw.bInts b).length : Int) ≤ bd.2) (hl : (KBw.bInts b).length ≤ 50)
    {Q E : Value → Shared → Prop} {tm : Tok} (B : Below A₀ base outer h₀) (F : Fr h₀ L s.heap m) (X : G.K.In h₀) (N : News h₀ L s.heap news) (T : ∃ mean mg mb, Top G.p G.loose mean mg mb h₀) (hk : cs.kind = .function) (hA : A.frames = some (envX cn cs L a ccd cl :: outer)) (hh : A.handled = none) (hd : A.depth + 4 ≤ 900) (hu : A.units + 80 ≤ 9000)
    (U : UpdF P (Mine.pen x y tx ty c) news g) (hx : 0 ≤ x) (hx2 : x < big) (hy : 0 ≤ y) (hy2 : y ≤ 2000)
    (hQ : ∀ v x' y' tx' ty' c' h' tk' extra, FoulIs b extra v → (∀ e ∈ extra, ∀ p ∈ news, p.1 ≠ e.1) → 0 ≤ x' → x' < big → 0 ≤ y' → y' ≤ y + 1 → Fr h₀ L h' m → News h₀ L h' (extra ++ g (Mine.pen x' y' tx' ty' c')) → Q v { s with heap := h', toks := tk' }) :
    WPG G A (call (.ref 1329) [.ref P, .bytes b tm]) Q E s := by
  have hbd : ∀ i p, [((0 : Int), (255 : Int)), bd][i]? = some p → p.1 ≤ (if i = 0 then dgt (x, y) 256 else ((KBw.bInts b).length : Int)) ∧ (if i = 0 then dgt (x, y) 256 else ((KBw.bInts b).length : Int)) ≤ p.2 := fun i p e => by
    cases i with
    | zero => obtain rfl := Option.some.inj e; exact dgt_range
    | succ i => cases i with
      | zero => obtain rfl := Option.some.inj e; exact ⟨hb1, hb2⟩
      | succ i => exact no_o e
  refine pen_run (G := G.oct [(0, 255), bd] [.var 1 0] x y ((KBw.bInts b).length : Int) (KBw.bInts b) hbd (.inr ⟨rfl, rfl, hl⟩) hy2) B F X N T hk hA hh hd hu U rfl (so := .penA 0) (fun V _ => .penA (C := (G.oct [(0, 255), bd] [.var 1 0] x y ((KBw.bInts b).length : Int) (KBw.bInts b) hbd (.inr ⟨rfl, rfl, hl⟩) hy2).C) (n := 0) hx hx2 hy (by show y ≤ ((y.toNat : Nat) : Int) + ((0 : Nat) : Int); (first | lia | omega))) (vs := [.ref P, .bytes b tm]) (fun V e lt => .cons (show VRel _ V (.ref P) (.ref 0) from ⟨by rw [e], lt⟩) (.cons (show VRel _ V (.bytes b tm) (.bytes (.var 0)) from ⟨b, tm, rfl, rfl⟩) .nil)) h fun V v x' σ' h' tk' news' hk' hv hP F' N' r nd hr => ?_
  refine Classical.byContradiction fun nO => ?_
  refine and_k hk' fun hf hp => onO_k hp fun j hj q3 => ?_
  obtain ⟨o, m1, o1, -, -⟩ := hget r (get_k asPenA_ok hj)
  rw [Nat.eq_of_beq_eq_true q3] at o1
  obtain ⟨x1, y1, tx', ty', c', rfl, b1, b2, b3, b4⟩ := ORel.penA' o1
  refine nO ?_
  have b4 : y1 ≤ ((y.toNat : Nat) : Int) + ((1 : Nat) : Int) := b4
  have b4 : y1 ≤ y + 1 := by (first | lia | omega)
  rw [hP] at m1
  have Ng : ∀ q ∈ g (Mine.pen x1 y1 tx' ty' c'), q ∈ news' ++ V.r := fun q hq => (updF_in U q hq).elim (fun z => by rw [z]; exact List.mem_append_left _ m1) fun z => List.mem_append_right _ (hr q z.1 z.2)
  have ln : ∀ {o : Int}, IRel (G.oct [(0, 255), bd] [.var 1 0] x y ((KBw.bInts b).length : Int) (KBw.bInts b) hbd (.inr ⟨rfl, rfl, hl⟩) hy2).C o (.var 1 1) → o = ((KBw.bInts b).length : Int) + 1 := fun h => h
  have ln' : ∀ {o : Int}, IRel (G.oct [(0, 255), bd] [.var 1 0] x y ((KBw.bInts b).length : Int) (KBw.bInts b) hbd (.inr ⟨rfl, rfl, hl⟩) hy2).C o (.var 1 (-1)) → o = ((KBw.bInts b).length : Int) + -1 := fun h => h
  have fin : ∀ v, FoulIs b [] v → Q v { s with heap := h', toks := tk' } := fun v hv => hQ v x1 y1 tx' ty' c' h' tk' [] hv (fun _ h => nomatch h) b1 b2 b3 b4 F' fun q hq => N' q (Ng q hq)
  refine Classical.byContradiction fun nO => orO_k hf (fun sb hsb hf => nO ?_) fun hf => orO_k hf (fun i hi _ => nO ?_) fun hf => orO_k hf (fun i hi hf => and_k hf fun ne hf => nO ?_) fun hf => nO ?_
  · apply svBy_k hsb hv; intro z t hz
    refine onO_k hf fun y2 hy2' hf => ?_
    rw [sbLn_ok hy2'] at hz
    have hz : IRel _ _ y2 ∧ _ := hz
    refine fin _ (.inl ⟨rfl, z, t, rfl, ?_⟩)
    refine orB_k hf (fun q _ => isO_k q fun _ e => .inl ?_) fun _ q => isO_k q fun _ e => .inr ?_
    · have := hz.1; rw [sameO_eq e] at this; have := ln this; (first | lia | omega)
    · have := hz.1; rw [sameO_eq e] at this; have := ln' this; (first | lia | omega)
  · apply svInt_k hi hv; intro z t _
    exact fin _ (.inr (.inl ⟨rfl, .inl ⟨z, t, rfl⟩⟩))
  · apply svRef_k hi hv; intro _
    have go : ∀ {so : SO}, iget i σ'.heap = some so → (∀ o : Obj, ORel (G.oct [(0, 255), bd] [.var 1 0] x y ((KBw.bInts b).length : Int) (KBw.bInts b) hbd (.inr ⟨rfl, rfl, hl⟩) hy2).prog (G.oct [(0, 255), bd] [.var 1 0] x y ((KBw.bInts b).length : Int) (KBw.bInts b) hbd (.inr ⟨rfl, rfl, hl⟩) hy2).w (G.oct [(0, 255), bd] [.var 1 0] x y ((KBw.bInts b).length : Int) (KBw.bInts b) hbd (.inr ⟨rfl, rfl, hl⟩) hy2).C V o so → o.cls = .type "list" ∨ o.cls = .type "tuple") → Q (.ref (V.ρ i)) { s with heap := h', toks := tk' } := fun hg hc => by
      refine Classical.byContradiction fun nO => ?_
      obtain ⟨o2, m2, o2', -, -⟩ := hget r hg
      refine nO ?_
      have nd' := (List.nodup_append.mp (by rw [List.map_append] at nd; exact nd)).1
      have hne := hget_ne r nd' (get_k asPenA_ok hj) hg fun e => by rw [← e] at ne; cases ne
      rw [hP] at hne
      refine hQ _ x1 y1 tx' ty' c' h' tk' [(V.ρ i, o2)] (.inr (.inr ⟨_, o2, rfl, rfl, hc _ o2'⟩)) (fun e he p hp z => ?_) b1 b2 b3 b4 F' fun q hq => N' q ((List.mem_cons.mp hq).elim (fun z => by rw [z]; exact List.mem_append_left _ m2) fun hq => Ng q hq)
      rw [List.mem_singleton.mp he] at z
      by_cases e : p.1 = P
      · exact hne (e.symm.trans z)
      · rw [List.map_append, List.nodup_append] at nd
        exact nd.2.2 _ (List.mem_map_of_mem (f := (·.1)) m2) _ (List.mem_map_of_mem (f := (·.1)) (hr p hp e)) z.symm
    refine orO_k hf (fun ts ht _ => go (get_k asTup_ok ht) fun o z => ?_) fun hf => onO_k hf fun t ht hf => go (get_k asSeqA_ok ht) fun o z => ?_
    · obtain ⟨vs, rfl, -⟩ := ORel.tup' z; exact .inr rfl
    · have z := ORel.seqA' z
      rcases of_decide_eq_true hf with e | e
      · rw [e] at z; exact .inl z
      · rw [e] at z; exact .inr z
  · rw [strA_eq hf] at hv
    obtain ⟨z, t, rfl⟩ := VRel.strA' hv
    exact fin _ (.inr (.inl ⟨rfl, .inr ⟨z, t, rfl⟩⟩))
theorem foul_ok (h1 : foulB G.cf (0, 0) = true) (h2 : foulB G.cf (1, 50) = true) : FoulOk G.prog G.w G.K G.p G.loose := by
  intro A cn cs a ccd cl outer A₀ base h₀ L m news s Q E P x y tx ty tm b c g B F X N T hk hA hh hd hu U hx hx2 hy hy2 hl hQ
  by_cases e : (KBw.bInts b).length = 0
  · exact foul_run (0, 0) h1 (by rw [e]; exact Int.le_refl _) (by rw [e]; exact Int.le_refl _) hl B F X N T hk hA hh hd hu U hx hx2 hy hy2 hQ
  · exact foul_run (1, 50) h2 (by show (1 : Int) ≤ _; (first | lia | omega)) (by show _ ≤ (50 : Int); (first | lia | omega)) hl B F X N T hk hA hh hd hu U hx hx2 hy hy2 hQ
end

section
noncomputable abbrev TB2 : List (Addr × Addr) := [(1356, 1352), (1349, 1345)]
noncomputable def PenOk (prog : Program) (w : PySem.World) (K : Frag) (p : Program) (loose : List PySem.Str) : Prop :=
  ∀ {A : Around} {cn : PySem.Str} {cs : Scope} {a : Addr} {ccd : Value} {cl : List (PySem.Str × Addr)} {outer : List Env} {A₀ : Around} {base h₀ : Heap} {L : Addr} {m : PySem.Str → Option Value} {s : Shared} {Q E : Value → Shared → Prop}, Below A₀ base outer h₀ → Fr h₀ L s.heap m → K.In h₀ → News h₀ L s.heap [(1352, tabObj #[]), (1345, tabObj #[])] → (∃ mean mg mb, Top p loose mean mg mb h₀) → cs.kind = .function →
    A.frames = some (envX cn cs L a ccd cl :: outer) → A.handled = none → A.depth ≤ 897 → A.units ≤ 8940 →
    ∀ {l : Addr} {vs : List Value} {ns : List Int}, h₀.IsList l vs.toArray → IntsAre vs ns → ns.length ≤ 63 → (∀ (P : Addr) (x : Int) (tx ty : Tok) h' tk', Fr h₀ L h' m → News h₀ L h' [(P, Mine.pen x 0 tx ty 0), (1352, tabObj #[]), (1345, tabObj #[])] → @Ne Nat 1352 P → @Ne Nat 1345 P → 0 ≤ x → x < big → Q (.ref P) { s with heap := h', toks := tk' }) →
    wpAny (model prog w) A (call (.ref 1301) [.ref l]) Q E s
structure LawAt (K : Frag) (r : FuncData × List PySem.Str × List Stmt) : Prop where
  f : FnIs K r.1
  bi : ∀ s q, BindsTo s r.1 ⟨[.ref q], []⟩ [(Str.ofString "script", .ref q)]
  n1 : r.1.scope.names.lookup (Str.ofString "script") = some .local
  n2 : r.1.scope.names.lookup (Str.ofString "pen") = some .local
  n3 : r.1.scope.names.lookup (Str.ofString "_law_pen") = some .globalImplicit
  nc : ∀ x ∈ r.1.scope.names, x.2 ≠ .cell
  ex : nsIn K mainGlobals (Str.ofString "_law_pen") = some (some (.ref 1301))
  kp : keepIn K (.ref 1301) = true
noncomputable def TabAt (K : Frag) (x : Nat × Nat × PySem.Str) (c P : Addr) : Prop := ∃ r o vs, fnR K x.1 = some r ∧ r.1.code = .ref c ∧ (r.1.qualname ++ ".<locals>.") ++ Str.ofString "<lambda>" = x.2.2 ∧ K.lookup c = some o ∧ o.data = .fields vs ∧ vs[11]? = some (.ref P)
theorem TabAt.eq {K : Frag} {x : Nat × Nat × PySem.Str} {c P : Addr} (t : TabAt K x c P) {G : Gv} (hK : G.K = K) {V : Vl} {base : Heap} (XB : K.In base) (f : TabFor G V base x) : V.ρ x.2.1 = P := by
  refine Classical.byContradiction fun nO => ?_
  obtain ⟨r, o, vs, h1, h2, h3, h4, h5, h6⟩ := t
  obtain ⟨-, hf⟩ := f
  obtain ⟨⟨c', e1, o', vs', -, -, -, -, -, -, -, g1, -, g3, g4, -⟩, -⟩ := hf r (by rw [hK]; exact h1)
  rw [h2] at e1
  obtain rfl := Value.ref.inj e1
  rw [XB _ _ h4] at g1
  obtain rfl := Option.some.inj g1
  rw [h5] at g3
  obtain rfl := Data.fields.inj g3
  refine nO ?_
  rw [h6] at g4
  exact (Value.ref.inj (Option.some.inj g4)).symm
theorem TabAt.for {K : Frag} {x : Nat × Nat × PySem.Str} {c P : Addr} (t : TabAt K x c P) {G : Gv} (hK : G.K = K) {V : Vl} {base : Heap} (lt : x.2.1 < V.n) (e : V.ρ x.2.1 = P) (h : PySem.W.CodeHd base c P) : TabFor G V base x := by
  refine Classical.byContradiction fun nO => ?_
  obtain ⟨r, o, vs, h1, h2, h3, -⟩ := t
  refine nO ?_
  refine ⟨lt, fun r' hr' => ?_⟩
  rw [hK, h1] at hr'
  obtain rfl := Option.some.inj hr'
  exact ⟨⟨c, h2, by rw [e]; exact h⟩, h3⟩
noncomputable def tt2 (a b : PySem.Str) : TT := [(1350, 0, a), (1357, 1, b)]
noncomputable def stL (a b : PySem.Str) : St := ⟨3, [(2, .pen 0), (1, .tab b), (0, .tab a)], [(Str.ofString "pen", .ref 2)]⟩
noncomputable def scL (sc : Scope) : Sc := ⟨sc, [], none, true, true, none⟩
noncomputable def LawRuns (prog : Program) (w : PySem.World) (K : Frag) (p : Program) (loose : List PySem.Str) (a b : PySem.Str) (sc : Scope) (rest : List Stmt) (x : Int) : Prop :=
  ∃ G : Gv, G.prog = prog ∧ G.w = w ∧ G.K = K ∧ G.p = p ∧ G.loose = loose ∧ G.C.π 0 = (x, 0) ∧
    ∀ {V : Vl} {A : Around} {env : Env} {h₀ : Heap} {L : Addr} {s : Shared} {m : PySem.Str → Option Value} {news : List (Addr × Obj)} {z₀ : Shared} {hI : Heap} {Q : Flow → Shared → Prop}, FxT G (tt2 a b) V A env h₀ L (scL sc) 100 → RepG G V (stL a b) h₀ L s m news → AtT A env z₀ hI V h₀ →
    (∀ G' V' σ' h₁ s' m' news', G'.K = K → FxT G' (tt2 a b) V' A env h₁ L (scL sc) 100 → AtT A env z₀ hI V' h₁ → tabsIn (tt2 a b) σ' = true → RepG G' V' σ' h₁ L s' m' news' → Q (.ret (.bool true)) s') → WPX G (scL sc) A (execs rest env) Q NoE s
noncomputable def envLaw (r : FuncData × List PySem.Str × List Stmt) (L : Addr) : Env := envX r.1.qualname r.1.scope L 1364 r.1.code []
noncomputable def VLaw (P : Addr) (s₁ : Shared) : Vl := ⟨3, fun i => if i = 0 then 1345 else if i = 1 then 1352 else P, fun _ => default, s₁, []⟩
section
variable {K : Frag} {r : FuncData × List PySem.Str × List Stmt} {s₁ : Shared} {a b : PySem.Str} {G : Gv} {P : Addr} {L : Addr}
theorem law_fx {mean : ExcName → Option Value} {mg mb : PySem.Str → Option Value} {h : Heap} (hk : r.1.scope.kind = .function) (T : Top G.p G.loose mean mg mb h) (X : K.In h) (C1 : PySem.W.CodeHd h 1356 1352) (C0 : PySem.W.CodeHd h 1349 1345) (t0 : TabAt K (1350, 0, a) 1349 1345) (t1 : TabAt K (1357, 1, b) 1356 1352) (hK : G.K = K) : FxT G (tt2 a b) (VLaw P s₁) (callerA.deeper (envLaw r L)) (envLaw r L) h L (scL r.1.scope) 100 := by
  refine ⟨fun _ _ e => no_o e, hk, rfl, rfl, ⟨_, _, _, _, _, _, _, rfl, below_caller _, rfl, hK ▸ X, ⟨mean, mg, mb, T⟩, fun _ _ e => (nomatch e), fun y hy => ?_⟩, rfl, (show (callerA.depth + 1 + 100 : Nat) ≤ 900 by decide), (show (callerA.units + 3 + 20 * 100 : Nat) ≤ 9000 by decide)⟩
  rcases List.mem_cons.mp hy with rfl | hy
  · exact t0.for hK (show 0 < 3 by decide) rfl C0
  · rw [List.mem_singleton.mp hy]
    exact t1.for hK (show 1 < 3 by decide) rfl C1
theorem law_rep {x : Int} {tx ty : Tok} {h₀ h2 : Heap} {tk : Nat} {m : PySem.Str → Option Value} (x0 : 0 ≤ x) (x1 : x < big) (hπ : G.C.π 0 = (x, 0)) (n1 : @Ne Nat 1352 P) (n2 : @Ne Nat 1345 P) (F2 : Fr h₀ L h2 (fun y => if y = Str.ofString "pen" then some (.ref P) else m y)) (N2 : News h₀ L h2 [(P, Mine.pen x 0 tx ty 0), (1352, tabObj #[]), (1345, tabObj #[])]) : RepG G (VLaw P s₁) (stL a b) h₀ L { s₁ with heap := h2, toks := tk } (fun y => if y = Str.ofString "pen" then some (.ref P) else m y) [(P, Mine.pen x 0 tx ty 0), (1352, tabObj #[]), (1345, tabObj #[])] := by
  refine ⟨⟨rfl, rfl⟩, F2, fun q hq => N2 q (by rwa [show (VLaw P s₁).r = [] from rfl, List.append_nil] at hq), LRel.store (ls := []) (fun _ _ e => no_o e) (show VRel G.C (VLaw P s₁) (.ref P) (.ref 2) from ⟨rfl, (show 2 < 3 by decide)⟩), .cons ⟨(show 2 < 3 by decide), rfl, ?_, fun e => nomatch e⟩ (.cons ⟨(show 1 < 3 by decide), rfl, .tab .nil, fun e => nomatch e⟩ (.cons ⟨(show 0 < 3 by decide), rfl, .tab .nil, fun e => nomatch e⟩ .nil)), ?_⟩
  · have z : ∀ p : Int × Int, p = (x, 0) → ∃ tx' ty' c', Mine.pen x 0 tx ty 0 = Mine.pen p.1 p.2 tx' ty' c' ∧ 0 ≤ p.1 ∧ p.1 < big ∧ 0 ≤ p.2 ∧ p.2 ≤ G.C.nb + (0 : Nat) := fun p e => by
      subst e
      exact ⟨tx, ty, 0, rfl, x0, x1, Int.le_refl _, Int.natCast_nonneg G.C.nb⟩
    exact z _ hπ
  · show [P, 1352, 1345].Nodup
    exact List.nodup_cons.mpr ⟨fun h => (List.mem_cons.mp h).elim (fun e => n1 e.symm) fun h => n2 (List.mem_singleton.mp h).symm, by decide⟩
theorem law_done {sc : Sc} {V' : Vl} {A : Around} {env : Env} {h₁ : Heap} {σ' : St} {s' : Shared} {m' : PySem.Str → Option Value} {news' : List (Addr × Obj)} (t0 : TabAt K (1350, 0, a) 1349 1345) (t1 : TabAt K (1357, 1, b) 1356 1352) (hK' : G.K = K) (f' : FxT G (tt2 a b) V' A env h₁ L sc 100) (htab : tabsIn (tt2 a b) σ' = true) (R' : RepG G V' σ' h₁ L s' m' news') : ∀ q ∈ TB2, ∃ ps, s'.heap.get? q.2 = some (tabObj ps) := fun q hq => by
  refine Classical.byContradiction fun nO => ?_
  obtain ⟨cn, ae, ccd, cl, A₀, base, outer, e, B', hA', XB, TB, tf, -⟩ := f'.at
  rw [hK'] at XB
  have got : ∀ {y : Nat × Nat × PySem.Str} {c Q : Addr}, y ∈ tt2 a b → TabAt K y c Q → ∃ ps, s'.heap.get? Q = some (tabObj ps) := fun {y c Q} hy t => by
    refine isO_k (List.all_eq_true.mp htab y hy) fun q hq => ?_
    obtain ⟨o, m1, o1, -⟩ := hget R'.hp (get_k asTab_ok hq)
    obtain ⟨ps, rfl, -⟩ := ORel.tab' o1
    rw [t.eq hK' XB (tf y hy)] at m1
    exact ⟨ps, (R'.nw _ (List.mem_append_left _ m1)).1⟩
  rcases List.mem_cons.mp hq with rfl | hq
  · exact nO (got (.tail _ (.head _)) t1)
  · rw [List.mem_singleton.mp hq] at nO
    exact nO (got (.head _) t0)
end
theorem law_start {prog : Program} {w : PySem.World} {K : Frag} {p₀ p : Program} {loose₀ loose : List PySem.Str} {r : FuncData × List PySem.Str × List Stmt} (hr : fnR K 1364 = some r) (H : LawAt K r) (hP : PenOk prog w K p loose) {s₁ : Shared} (hT : TabsAt TB2 s₁.heap) {mean : ExcName → Option Value} {mg mb : PySem.Str → Option Value} (T₀ : Top p₀ loose₀ mean mg mb s₁.heap) (X₀ : K.In s₁.heap) (T : Top p loose mean mg mb (ghostOf s₁.heap TB2)) (X : K.In (ghostOf s₁.heap TB2))
    {a b : PySem.Str} (t0 : TabAt K (1350, 0, a) 1349 1345) (t1 : TabAt K (1357, 1, b) 1356 1352) {l : Addr} {vs : List Value} {ns : List Int} (hl : s₁.heap.IsList l vs.toArray) (hi : IntsAre vs ns) (hn : ns.length ≤ 63) {p1 p2 p3 p4 p5 : Pos} {rest : List Stmt} (hb : r.2.2 = .Assign [.Name (Str.ofString "pen") p1] (.Call (.Name (Str.ofString "_law_pen") p2) [.Name (Str.ofString "script") p3] [] p4) p5 :: rest)
    {R E : Value → Shared → Prop} (hR : ∀ s', (∀ b o, (ghostOf s₁.heap TB2).get? b = some o → s'.heap.get? b = some o) → (∀ q ∈ TB2, ∃ ps, s'.heap.get? q.2 = some (tabObj ps)) → Same s₁ s' → R (.bool true) s')
    (hgo : ∀ x : Int, 0 ≤ x → x < big → LawRuns prog w K p loose a b r.1.scope rest x) : wpC (model prog w) callerA (call (.ref 1364) [.ref l]) R E s₁ := by
  refine Classical.byContradiction fun nO => ?_
  obtain ⟨oc, od, osl, k1, k2, k3⟩ := fnR_ok hr
  have f0 := H.f
  have hfd := fnOf_eq k3 f0.g f0.b f0.cl
  have henv : callEnv r.1 s₁.heap.objs.size 1364 = envLaw r s₁.heap.objs.size := by rw [hfd]; rfl
  refine nO (C_X (wpX_call ?_))
  clear nO
  refine codeX_def0 (fd := r.1) (body := r.2.2) (binds := [(Str.ofString "script", .ref l)]) (by decide) (X₀ _ _ k1) rfl T₀.nolimit (codeRec_of X₀ f0.cd) k3 (H.bi s₁ l) H.nc (fun y hy => by rw [List.mem_singleton.mp hy]; exact H.n1) (fun h₀ hns hk => ?_) f0.co f0.gn f0.k
  rw [henv, hb]
  have F₁ : Fr s₁.heap s₁.heap.objs.size h₀ _ := ⟨hns, hk, Nat.le_refl _⟩
  have F := ghost_fr hT F₁
  refine wpX_mono (Q := fun f s' => ∃ v, f = .ret v ∧ R v s') (E := NoE) ?_ (fun f s' z => by obtain ⟨v, rfl, z⟩ := z; exact z) (fun _ _ z => z.elim)
  have ms : (fun y => ([(Str.ofString "script", Value.ref l)] : List (PySem.Str × Value)).reverse.lookup y) (Str.ofString "script") = some (.ref l) := by
    show ([(Str.ofString "script", Value.ref l)] : List (PySem.Str × Value)).lookup _ = _
    rw [List.lookup_cons, beq_iff_eq.mpr rfl]
  refine x_cons (x_name (x_callName (Name_function_global (env := envLaw r s₁.heap.objs.size) f0.k (show (envLaw r s₁.heap.objs.size).kindOf (Str.ofString "_law_pen") = _ from H.n3) (loadGlobal_global (T.g.keeps F.keep) (mg_of X T.g H.ex) ?_) (by decide))) rfl)
  refine x_callK H.kp (x_spl (wpX_any (nameX_L F ms ?_ f0.k H.n1 (by decide))) rfl) rfl rfl
  refine wpX_pure ⟨X.keeps F.keep, wpX_any (hP (below_caller _) F X (ghost_news (news := []) hT F₁ fun _ h => (nomatch h)) ⟨mean, mg, mb, T⟩ f0.k rfl rfl (show (callerA.depth + 1 : Nat) ≤ 897 by decide) (show (callerA.units + 3 : Nat) ≤ 8940 by decide) (ghost_list hT hl) hi hn fun P x tx ty h' tk' F' N' n1 n2 x0 x1 => stN F' N' (fun h2 F2 N2 => ?_) f0.k H.n2)⟩
  clear hP
  refine Classical.byContradiction fun nO => ?_
  obtain ⟨G, rfl, rfl, hK, rfl, rfl, hπ, go⟩ := hgo x x0 x1
  exact nO (go (z₀ := s₁) (hI := ghostOf s₁.heap TB2) (law_fx (s₁ := s₁) f0.k T X (ghost_code hT).1 (ghost_code hT).2.1 t0 t1 hK) (law_rep (s₁ := s₁) x0 x1 hπ n1 n2 F2 N2) ⟨rfl, Gnd.refl⟩ fun G' V' σ' h₁ s' m' news' hK' f' aT htab R' => ⟨_, rfl, hR s' (fun q o e => R'.fr.keep _ _ ((aT.2 [] rfl).other q o e List.not_mem_nil)) (law_done t0 t1 hK' f' htab R') (aT.1 ▸ R'.sm)⟩)
end

section
noncomputable def forL (st : Stmt) (f : PySem.Str → PySem.Expr → List Stmt → Bool) : Bool := match st with
  | .For (.Name t _) iter body [] _ => f t iter body
  | _ => false
theorem forL_k {st : Stmt} {f : PySem.Str → PySem.Expr → List Stmt → Bool} (h : forL st f = true) {P : Prop} (K : ∀ t pp iter body p1, st = .For (.Name t pp) iter body [] p1 → f t iter body = true → P) : P := by
  cases st
  case For t iter body orelse pos =>
    cases t
    case Name t pp =>
      cases orelse with
      | nil => exact K _ _ _ _ _ rfl h
      | cons => exact no_k h
    all_goals exact no_k h
  all_goals exact no_k h
noncomputable def law1 (c : Cfg) (f : List Stmt → PySem.Str → PySem.Expr → List Stmt → Stmt → Scope → Bool) : Bool := onO (fnR c.K 1364) fun r => onCons r.2.2 fun _ rest => onCons (rest.drop 6) fun fo l => onCons l fun ret l' => l'.isEmpty && forL fo fun t iter body => f (rest.take 6) t iter body ret r.1.scope
noncomputable def lawT (tn : List PySem.Str) (a b : PySem.Str) (c : Cfg) : Bool := law1 c fun xs t iter body ret sc => lawB (tt2 a b) (runT tn (tt2 a b) c 900 80) (runR c 900) (scL sc) 100 xs t iter body ret (stL a b)
theorem runs_of {prog : Program} {w : PySem.World} {K : Frag} {p : Program} {loose : List PySem.Str} (HE : HeardOk prog w K p loose) {a b : PySem.Str} {r : FuncData × List PySem.Str × List Stmt} {st : Stmt} {rest : List Stmt} (hr : fnR K 1364 = some r) (hb : r.2.2 = st :: rest) {tn : List PySem.Str} {c : Cfg} (hc : c.K = K) (h : lawT tn a b c = true) {x : Int} (G : Gv) (e0 : G.cf = c) (e1 : G.prog = prog) (e2 : G.w = w) (e3 : G.p = p) (e4 : G.loose = loose) (hn : G.C.nb ≤ 800) (hπ : G.C.π 0 = (x, 0)) : LawRuns prog w K p loose a b r.1.scope rest x := by
  refine Classical.byContradiction fun nO => ?_
  refine onO_k h fun r' hr' h => ?_
  rw [hc, hr] at hr'
  obtain rfl := Option.some.inj hr'
  refine onCons_k h fun st' rest' hb' h => ?_
  rw [hb] at hb'
  obtain rfl := (List.cons.inj hb').2
  refine onCons_k h fun fo l hl h => onCons_k h fun ret l' hl' h => and_k h fun hn' h => forL_k h fun t pp iter body p1 hfo h => ?_
  refine nO ?_
  have e : rest = rest.take 6 ++ [.For (.Name t pp) iter body [] p1, ret] := by
    have := (List.take_append_drop 6 rest).symm
    rwa [hl, hl', List.isEmpty_iff.mp hn', hfo] at this
  rw [e]
  refine ⟨G, e1, e2, by rw [← hc, ← e0], e3, e4, hπ, fun fx R aT hQ => ?_⟩
  have ok : ∀ G' : Gv, G'.cf = c ∧ G'.prog = prog ∧ G'.w = w ∧ G'.p = p ∧ G'.loose = loose → HeardOk G'.prog G'.w G'.K G'.p G'.loose := fun G' o => by
    rw [o.2.1, o.2.2.1, o.2.2.2.1, o.2.2.2.2, show G'.K = K from by rw [← hc, ← o.1]]; exact HE
  exact T_law (OK := fun G' => G'.cf = c ∧ G'.prog = prog ∧ G'.w = w ∧ G'.p = p ∧ G'.loose = loose) (fun _ _ o => o) (fun G' o => by have := runT_sound (tt := tt2 a b) (tn := tn) (ok G' o) 900 80; rw [o.1] at this; exact this) (fun G' o => by have := run_sound (G := G') 900; rw [o.1] at this; exact this)
    (fun _ _ o o' => ⟨o'.2.1.trans o.2.1.symm, o'.2.2.1.trans o.2.2.1.symm⟩) h ⟨e0, e1, e2, e3, e4⟩ hn fx R aT fun G' V' σ' h₁ s' m' news' o f' a' t' R' => hQ G' V' σ' h₁ s' m' news' (by rw [← hc, ← o.1]) f' a' t' R'
noncomputable def pth (x : Int × Int) (ms : List Int) : Nat → Int × Int := fun j => Nat.rec x (fun j p => nxt p (ms.getD j 1)) j
noncomputable def csK (x : Int) (ms : List Int) (jk j1 j2 : Nat) : Cs := ⟨fun i => if i = 0 then dgt (pth (x, 0) ms 1) 4 + 1 else if i = 1 then dgt (pth (x, 0) ms 2) 3 + 1 else if i = 2 then dgt (pth (x, 0) ms jk) 256 else if i = 3 then dgt (pth (x, 0) ms j1) 256 else dgt (pth (x, 0) ms j2) 256,
  fun i => List.replicate (dgt (pth (x, 0) ms 1) 4 + 1).toNat (if i = 0 then dgt (pth (x, 0) ms j1) 256 else if i = 1 then 0 else dgt (pth (x, 0) ms j2) 256), fun _ => .none, pth (x, 0) ms, 0⟩
noncomputable def cfK (c : Cfg) (hs : List (Nat × Nat × Int × Int)) (dr : List (Int × SI)) (oc : List (Nat × SI × Nat)) : Cfg := { c with bd := [(1, 4), (1, 3), (0, 255), (0, 255), (0, 255)], bl := [.var 0 0, .var 0 0, .var 0 0], hs := hs, zl := some (1, .var 0 0), dr := dr, oc := oc, fl := true, top := 100, kx := fun _ _ => false }
noncomputable def DrOk (C : Cs) (dr : List (Int × SI)) : Nat → Prop := List.rec (motive := fun _ => Nat → Prop) (fun _ => True) (fun e _ ih j => IRel C (dgt (C.π j) e.1) e.2 ∧ ih (j + 1)) dr
theorem DrOk.get {C : Cs} {dr : List (Int × SI)} {i : Nat} (h : DrOk C dr i) {j : Nat} {e : Int × SI} (q : dr[j]? = some e) : IRel C (dgt (C.π (i + j)) e.1) e.2 := by
  induction dr generalizing i j with
  | nil => cases j <;> exact no_o q
  | cons u r ih =>
    have h : IRel C (dgt (C.π i) u.1) u.2 ∧ DrOk C r (i + 1) := h
    cases j with
    | zero => obtain rfl := Option.some.inj q; exact h.1
    | succ j => have := ih h.2 q; rwa [Nat.add_right_comm, Nat.add_assoc] at this
theorem dgt_in (p : Int × Int) {m : Int} (h : 1 ≤ m) : 0 ≤ dgt p m ∧ dgt p m < m := draw_mod h
section
variable {x : Int} {ms : List Int} {jk j1 j2 : Nat}
theorem dgt_le (p : Int × Int) {m n : Int} (h : 1 ≤ m) (e : m = n + 1) : 0 ≤ dgt p m ∧ dgt p m ≤ n := ⟨(dgt_in p h).1, Int.le_of_lt_add_one (e ▸ (dgt_in p h).2)⟩
theorem csK_bd : ∀ i p, [((1 : Int), (4 : Int)), (1, 3), (0, 255), (0, 255), (0, 255)][i]? = some p → p.1 ≤ (csK x ms jk j1 j2).ι i ∧ (csK x ms jk j1 j2).ι i ≤ p.2 := fun i p e => by
  have d4 := dgt_le (pth (x, 0) ms 1) (m := 4) (n := 3) (by decide) rfl
  have d3 := dgt_le (pth (x, 0) ms 2) (m := 3) (n := 2) (by decide) rfl
  have big : ∀ j (p : Int × Int), (0, 255) = p → p.1 ≤ dgt (pth (x, 0) ms j) 256 ∧ dgt (pth (x, 0) ms j) 256 ≤ p.2 := fun j p e => by
    subst e; exact dgt_le _ (by decide) rfl
  rcases i with _ | _ | _ | _ | _ | i
  · obtain rfl := Option.some.inj e
    exact (show ∀ z : Int, 0 ≤ z ∧ z ≤ 3 → 1 ≤ z + 1 ∧ z + 1 ≤ 4 from fun z h => ⟨by (first | lia | omega), by (first | lia | omega)⟩) _ d4
  · obtain rfl := Option.some.inj e
    exact (show ∀ z : Int, 0 ≤ z ∧ z ≤ 2 → 1 ≤ z + 1 ∧ z + 1 ≤ 3 from fun z h => ⟨by (first | lia | omega), by (first | lia | omega)⟩) _ d3
  · exact big jk p (Option.some.inj e)
  · exact big j1 p (Option.some.inj e)
  · exact big j2 p (Option.some.inj e)
  · exact no_o e
theorem csK_len (i : Nat) : IRel (csK x ms jk j1 j2) (((csK x ms jk j1 j2).β i).length : Int) (.var 0 0) ∧ ((csK x ms jk j1 j2).β i).length ≤ 50 := by
  have d := dgt_in (pth (x, 0) ms 1) (m := 4) (by decide)
  have e : ((csK x ms jk j1 j2).β i).length = (dgt (pth (x, 0) ms 1) 4 + 1).toNat := List.length_replicate
  rw [e]
  exact (show ∀ z : Int, 0 ≤ z ∧ z < 4 → (((z + 1).toNat : Nat) : Int) = z + 1 + 0 ∧ (z + 1).toNat ≤ 50 from fun z h => ⟨by (first | lia | omega), by (first | lia | omega)⟩) _ d
theorem csK_bl : ∀ i z, [SI.var 0 0, .var 0 0, .var 0 0][i]? = some z → IRel (csK x ms jk j1 j2) (((csK x ms jk j1 j2).β i).length : Int) z ∧ ((csK x ms jk j1 j2).β i).length ≤ 50 := fun i z e => by
  rcases i with _ | _ | _ | i
  · exact Option.some.inj e ▸ csK_len 0
  · exact Option.some.inj e ▸ csK_len 1
  · exact Option.some.inj e ▸ csK_len 2
  · exact no_o e
theorem csK_y {y : Int} (h : IRel (csK x ms jk j1 j2) y (.var 0 0)) : y = dgt (pth (x, 0) ms 1) 4 + 1 := Eq.trans (show y = dgt (pth (x, 0) ms 1) 4 + 1 + 0 from h) (Int.add_zero _)
theorem csK_oc {oc : List (Nat × SI × Nat)} (hoc : oc = [] ∨ oc = [(j1, .var 0 0, 0), (j2, .var 0 0, 2)]) : ∀ q ∈ oc, ∀ y, IRel (csK x ms jk j1 j2) y q.2.1 → (csK x ms jk j1 j2).β q.2.2 = List.replicate y.toNat (dgt ((csK x ms jk j1 j2).π q.1) 256) := fun q hq y hy => by
  rcases hoc with rfl | rfl
  · cases hq
  · rcases List.mem_cons.mp hq with rfl | hq
    · rw [csK_y hy]; exact rfl
    · rw [List.mem_singleton.mp hq] at hy ⊢
      rw [csK_y hy]; exact rfl
end
theorem csK_dr {x : Int} {ms : List Int} {dr : List (Int × SI)} {jk j1 j2 : Nat} (hms : dr.map (·.1) = ms) (hd : DrOk (csK x ms jk j1 j2) dr 0) (j : Nat) (many : Int) (z : SI) (e : dr[j]? = some (many, z)) : IRel (csK x ms jk j1 j2) (dgt ((csK x ms jk j1 j2).π j) many) z ∧ (csK x ms jk j1 j2).π (j + 1) = nxt ((csK x ms jk j1 j2).π j) many := by
  have h2 : ms.getD j 1 = many := by rw [← hms, List.getD_eq_getElem?_getD, List.getElem?_map, e]; rfl
  refine ⟨by have := hd.get e; rwa [Nat.zero_add] at this, ?_⟩
  show nxt (pth (x, 0) ms j) (ms.getD j 1) = nxt (pth (x, 0) ms j) many
  rw [h2]
noncomputable def Gv.kind (G : Gv) (ho : OctOk G.prog G.w G.cf.K G.p G.loose) (hf : FoulOk G.prog G.w G.cf.K G.p G.loose) (hs : List (Nat × Nat × Int × Int)) (dr : List (Int × SI)) (oc : List (Nat × SI × Nat)) (C : Cs) (hn : C.nb = 0)
    (hbd : ∀ i p, [((1 : Int), (4 : Int)), (1, 3), (0, 255), (0, 255), (0, 255)][i]? = some p → p.1 ≤ C.ι i ∧ C.ι i ≤ p.2) (hbl : ∀ i z, [SI.var 0 0, .var 0 0, .var 0 0][i]? = some z → IRel C ((C.β i).length : Int) z ∧ (C.β i).length ≤ 50) (hzl : ∀ y, IRel C y (.var 0 0) → C.β 1 = List.replicate y.toNat 0)
    (hdr : ∀ j many z, dr[j]? = some (many, z) → IRel C (dgt (C.π j) many) z ∧ C.π (j + 1) = nxt (C.π j) many) (hoc : ∀ q ∈ oc, ∀ y, IRel C y q.2.1 → C.β q.2.2 = List.replicate y.toNat (dgt (C.π q.1) 256))
    (hhs : ∀ q ∈ hs, Builtin.bitAnd (hashF (List.replicate q.2.1 (C.ι q.1))) q.2.2.1 = q.2.2.2) : Gv :=
  { G with
    cf := cfK G.cf hs dr oc
    C := C
    hfl := fun _ => ⟨hn ▸ Nat.zero_le _, ho, hf⟩
    hbd := hbd
    hbl := hbl
    hzl := fun j n e y hy _ => by
      obtain ⟨rfl, rfl⟩ := Prod.mk.inj (Option.some.inj e)
      exact hzl y hy
    hdr := hdr
    hoc := hoc
    hnb := hn ▸ Nat.zero_le _
    hhs := hhs }
end

section
theorem le_succ {z n m : Int} (e : n + 1 = m) (h : z ≤ m) : z ≤ n ∨ z = m := (Int.lt_or_eq_of_le h).imp (fun h => Int.le_of_lt_add_one (e ▸ h)) id
theorem le0 {z : Int} (h0 : 0 ≤ z) (h : z ≤ 0) : z = 0 := Int.le_antisymm h h0
theorem le1 {z : Int} (h0 : 0 ≤ z) (h : z ≤ 1) : z = 0 ∨ z = 1 := (le_succ (n := 0) rfl h).imp (le0 h0) id
theorem le2 {z : Int} (h0 : 0 ≤ z) (h : z ≤ 2) : z = 0 ∨ z = 1 ∨ z = 2 := (le_succ (n := 1) rfl h).elim (fun h => (le1 h0 h).imp id .inl) fun h => .inr (.inr h)
theorem le3 {z : Int} (h0 : 0 ≤ z) (h : z ≤ 3) : z = 0 ∨ z = 1 ∨ z = 2 ∨ z = 3 := (le_succ (n := 2) rfl h).elim (fun h => (le2 h0 h).imp id fun h => h.imp id .inl) fun h => .inr (.inr (.inr h))
theorem le7 {z : Int} (h0 : 0 ≤ z) (h : z < 8) : z = 0 ∨ z = 1 ∨ z = 2 ∨ z = 3 ∨ z = 4 ∨ z = 5 ∨ z = 6 ∨ z = 7 := by
  rcases le_succ (n := 6) rfl (Int.le_of_lt_add_one (show z < 7 + 1 from h)) with h | h
  rcases le_succ (n := 5) rfl h with h | h
  rcases le_succ (n := 4) rfl h with h | h
  rcases le_succ (n := 3) rfl h with h | h
  · exact (le3 h0 h).imp id fun h => h.imp id fun h => h.imp id .inl
  · exact .inr (.inr (.inr (.inr (.inl h))))
  · exact .inr (.inr (.inr (.inr (.inr (.inl h)))))
  · exact .inr (.inr (.inr (.inr (.inr (.inr (.inl h))))))
  · exact .inr (.inr (.inr (.inr (.inr (.inr (.inr h))))))
theorem land_in {x y : Int} (h : 0 ≤ y) : 0 ≤ Builtin.bitAnd x y ∧ Builtin.bitAnd x y ≤ y := by
  unfold Builtin.bitAnd
  rw [decide_eq_true h]
  cases decide (0 ≤ x)
  · show 0 ≤ y - ((y.toNat &&& (Builtin.bitNot x).toNat : Nat) : Int) ∧ y - ((y.toNat &&& (Builtin.bitNot x).toNat : Nat) : Int) ≤ y
    have := @Nat.and_le_left y.toNat (Builtin.bitNot x).toNat
    (first | lia | omega)
  · show 0 ≤ ((x.toNat &&& y.toNat : Nat) : Int) ∧ ((x.toNat &&& y.toNat : Nat) : Int) ≤ y
    have := @Nat.and_le_right x.toNat y.toNat
    (first | lia | omega)
section
variable {x : Int} {ms : List Int} {jk j1 j2 : Nat}
theorem csK_i0 : IRel (csK x ms jk j1 j2) (dgt ((csK x ms jk j1 j2).π 1) 4) (.var 0 (-1)) := (show ∀ z : Int, z = z + 1 + -1 from fun z => by (first | lia | omega)) _
theorem csK_i1 : IRel (csK x ms jk j1 j2) (dgt ((csK x ms jk j1 j2).π 2) 3) (.var 1 (-1)) := (show ∀ z : Int, z = z + 1 + -1 from fun z => by (first | lia | omega)) _
theorem csK_i2 : IRel (csK x ms jk j1 j2) (dgt ((csK x ms jk j1 j2).π jk) 256) (.var 2 0) := (Int.add_zero _).symm
theorem csK_i3 : IRel (csK x ms jk j1 j2) (dgt ((csK x ms jk j1 j2).π j1) 256) (.var 3 0) := (Int.add_zero _).symm
theorem csK_i4 : IRel (csK x ms jk j1 j2) (dgt ((csK x ms jk j1 j2).π j2) 256) (.var 4 0) := (Int.add_zero _).symm
end
noncomputable def ocK (j1 j2 : Nat) : List (Nat × SI × Nat) := [(j1, .var 0 0, 0), (j2, .var 0 0, 2)]
noncomputable def drQ (kd : Int) : List (Int × SI) := [(8, .lit kd), (4, .var 0 (-1)), (3, .var 1 (-1)), (256, .var 3 0), (256, .var 4 0)]
noncomputable def drO : List (Int × SI) := [(8, .lit 2), (256, .var 3 0), (256, .var 4 0)]
noncomputable def drA (kd m i : Int) : List (Int × SI) := [(8, .lit kd), (4, .var 0 (-1)), (3, .lit m), (m + 1, .lit i), (256, .var 3 0), (256, .var 4 0)]
noncomputable def drH (kd m k : Int) : List (Int × SI) := [(8, .lit kd), (4, .var 0 (-1)), (3, .lit m), (3, .lit k), (256, .var 2 0), (256, .var 3 0), (256, .var 4 0)]
noncomputable def drT : List (Int × SI) := [(8, .lit 7), (4, .var 0 (-1)), (3, .var 1 (-1)), (256, .var 2 0), (256, .var 3 0), (256, .var 4 0)]
noncomputable def mask (m : Int) : Int := if m = 2 then 3 else m
structure RunsAll (tn : List PySem.Str) (a b : PySem.Str) (c : Cfg) : Prop where
  rq : lawT tn a b (cfK c [] (drQ 0) (ocK 3 4)) = true
  rs : lawT tn a b (cfK c [] (drQ 4) (ocK 3 4)) = true
  ro : lawT tn a b (cfK c [] drO []) = true
  ra : ∀ kd m i : Int, kd = 1 ∨ kd = 5 → 0 ≤ i → i ≤ m → m ≤ 2 → lawT tn a b (cfK c [] (drA kd m i) (ocK 4 5)) = true
  rh : ∀ (kd m : Int) (k : Nat) (i : Int), kd = 3 ∨ kd = 6 → 0 ≤ m → m ≤ 2 → k ≤ 2 → 0 ≤ i → i ≤ mask m → lawT tn a b (cfK c [(2, k + 1, mask m, i)] (drH kd m k) (ocK 5 6)) = true
  rt : lawT tn a b (cfK c [] drT (ocK 4 5)) = true
section
variable {G : Gv} {a b : PySem.Str} {r : FuncData × List PySem.Str × List Stmt} {st : Stmt} {rest : List Stmt} {tn : List PySem.Str} {x : Int}
theorem kind_runs (HE : HeardOk G.prog G.w G.K G.p G.loose) (ho : OctOk G.prog G.w G.cf.K G.p G.loose) (hf : FoulOk G.prog G.w G.cf.K G.p G.loose) (hr : fnR G.K 1364 = some r) (hb : r.2.2 = st :: rest) {hs : List (Nat × Nat × Int × Int)} {dr : List (Int × SI)} {oc : List (Nat × SI × Nat)} (h : lawT tn a b (cfK G.cf hs dr oc) = true) {ms : List Int} {jk j1 j2 : Nat} (hms : dr.map (·.1) = ms) (hd : DrOk (csK x ms jk j1 j2) dr 0) (hoc : oc = [] ∨ oc = ocK j1 j2) (hh : ∀ q ∈ hs, Builtin.bitAnd (hashF (List.replicate q.2.1 ((csK x ms jk j1 j2).ι q.1))) q.2.2.1 = q.2.2.2) : LawRuns G.prog G.w G.K G.p G.loose a b r.1.scope rest x :=
  runs_of (c := cfK G.cf hs dr oc) HE hr hb rfl h (G.kind ho hf hs dr oc (csK x ms jk j1 j2) rfl csK_bd csK_bl (fun y hy => by rw [csK_y hy]; exact rfl) (csK_dr hms hd) (csK_oc hoc) hh) rfl rfl rfl rfl rfl (Nat.zero_le _) rfl
theorem law_runs (HE : HeardOk G.prog G.w G.K G.p G.loose) (ho : OctOk G.prog G.w G.cf.K G.p G.loose) (hf : FoulOk G.prog G.w G.cf.K G.p G.loose) (hr : fnR G.K 1364 = some r) (hb : r.2.2 = st :: rest) (R : RunsAll tn a b G.cf) (x : Int) : LawRuns G.prog G.w G.K G.p G.loose a b r.1.scope rest x := by
  have no : ∀ C : Cs, ∀ q ∈ ([] : List (Nat × Nat × Int × Int)), Builtin.bitAnd (hashF (List.replicate q.2.1 (C.ι q.1))) q.2.2.1 = q.2.2.2 := fun _ _ h => nomatch h
  have d2 := dgt_in (nxt (nxt (x, 0) 8) 4) (m := 3) (by decide)
  have A : ∀ kd : Int, kd = 1 ∨ kd = 5 → dgt (x, 0) 8 = kd → LawRuns G.prog G.w G.K G.p G.loose a b r.1.scope rest x := fun kd hk e => by
    have d3 := dgt_in (nxt (nxt (nxt (x, 0) 8) 4) 3) (m := dgt (nxt (nxt (x, 0) 8) 4) 3 + 1) (Int.le_add_of_nonneg_left d2.1)
    exact kind_runs HE ho hf hr hb (R.ra kd _ _ hk d3.1 (Int.le_of_lt_add_one d3.2) (Int.le_of_lt_add_one d2.2)) (jk := 0) rfl ⟨e, csK_i0, rfl, rfl, csK_i3, csK_i4, trivial⟩ (.inr rfl) (no _)
  have H : ∀ kd : Int, kd = 3 ∨ kd = 6 → dgt (x, 0) 8 = kd → LawRuns G.prog G.w G.K G.p G.loose a b r.1.scope rest x := fun kd hk e => by
    have d3 := dgt_in (nxt (nxt (nxt (x, 0) 8) 4) 3) (m := 3) (by decide)
    have hm : 0 ≤ mask (dgt (nxt (nxt (x, 0) 8) 4) 3) := (show ∀ z : Int, 0 ≤ z → 0 ≤ mask z from fun z hz => by unfold mask; split <;> (first | lia | omega)) _ d2.1
    have hk3 : (((dgt (nxt (nxt (nxt (x, 0) 8) 4) 3) 3).toNat : Nat) : Int) = dgt (nxt (nxt (nxt (x, 0) 8) 4) 3) 3 := Int.toNat_of_nonneg d3.1
    have d5 := land_in (x := hashF (List.replicate ((dgt (nxt (nxt (nxt (x, 0) 8) 4) 3) 3).toNat + 1) (dgt (nxt (nxt (nxt (nxt (x, 0) 8) 4) 3) 3) 256))) hm
    exact kind_runs HE ho hf hr hb (R.rh kd _ _ _ hk d2.1 (Int.le_of_lt_add_one d2.2) ((show ∀ z : Int, z < 3 → z.toNat ≤ 2 from fun z hz => by (first | lia | omega)) _ d3.2) d5.1 d5.2) rfl ⟨e, csK_i0, rfl, hk3.symm, csK_i2, csK_i3, csK_i4, trivial⟩ (.inr rfl) fun q hq => by rw [List.mem_singleton.mp hq]; exact rfl
  have d := dgt_in (x, 0) (m := 8) (by decide)
  rcases le7 d.1 d.2 with e | e | e | e | e | e | e | e
  · exact kind_runs HE ho hf hr hb R.rq (jk := 0) rfl ⟨e, csK_i0, csK_i1, csK_i3, csK_i4, trivial⟩ (.inr rfl) (no _)
  · exact A 1 (.inl rfl) e
  · exact kind_runs HE ho hf hr hb R.ro (jk := 0) (j1 := 1) (j2 := 2) rfl ⟨e, csK_i3, csK_i4, trivial⟩ (.inl rfl) (no _)
  · exact H 3 (.inl rfl) e
  · exact kind_runs HE ho hf hr hb R.rs (jk := 0) rfl ⟨e, csK_i0, csK_i1, csK_i3, csK_i4, trivial⟩ (.inr rfl) (no _)
  · exact A 5 (.inr rfl) e
  · exact H 6 (.inr rfl) e
  · exact kind_runs HE ho hf hr hb R.rt (jk := 3) rfl ⟨e, csK_i0, csK_i1, csK_i2, csK_i3, csK_i4, trivial⟩ (.inr rfl) (no _)
end
end

theorem goodG {cw : ClaimW} {cl : PySem.Str → Option Addr} {mean : ExcName → Option Value} {args : List WData} {s₁ s' : Shared} (hT : TabsAt TB2 s₁.heap) (hr : ∀ x, cw.raises args x = false) (hp : cw.post args (.bool true) args = true) (hg : s₁.gens = #[]) (keep : ∀ b o, (ghostOf s₁.heap TB2).get? b = some o → s'.heap.get? b = some o) (gr : ∀ q ∈ TB2, ∃ ps, s'.heap.get? q.2 = some (tabObj ps)) (S : Same s₁ s') : GoodWG cw cl mean args s₁ (.ok (.ret (.bool true))) s' := by
  have old : ∀ b o, s₁.heap.get? b = some o → s'.heap.get? b = some o ∨ (isCodeTable s₁.heap b ∧ o = tabObj #[] ∧ ∃ ps, s'.heap.get? b = some (tabObj ps)) := fun b o e => by
    by_cases hb : b ∈ TB2.map (·.2)
    · obtain ⟨q, hq, rfl⟩ := List.mem_map.mp hb
      have e2 := (hT q hq).2
      rw [e] at e2
      exact .inr ⟨((hT q hq).1.tab (hT q hq).2).isCodeTable, Option.some.inj e2, gr q hq⟩
    · exact .inl (keep b o (ghost_ne e hb))
  have S : ({ s' with heap := s₁.heap, toks := s₁.toks } : Shared) = s₁ := S
  have S1 := congrArg Shared.os S
  have S2 := congrArg Shared.gens S
  refine ⟨.inl ⟨_, _, [], rfl, hr, .bool true, hp, fun _ => ⟨List.nodup_nil, fun _ h => nomatch h⟩⟩, ⟨fun b o e => (old b o e).imp_right fun z => .inl ?_, fun b o e => (old b o e).elim (fun z => ⟨_, z⟩) fun z => z.2.2.elim fun _ z => ⟨_, z⟩⟩, S1, .of_eq (Eq.trans (show s'.gens = s₁.gens from S2) hg)⟩
  refine Classical.byContradiction fun nO => ?_
  obtain ⟨h1, rfl, ps, h2⟩ := z
  refine nO ?_
  exact ⟨h1, rfl, #[], ps, rfl, by rw [Array.empty_append]; exact h2⟩

end Mine
namespace PySem.W.Fast
def tw15736541856241217950 : True := trivial
def tw17993156020533580102 : True := trivial
def tw10885399304501877467 : True := trivial
def tw9411460985935078520 : True := trivial
def tw7496433998918960881 : True := trivial
def tw11211347477262721435 : True := trivial
def tw732312027145506691 : True := trivial
def tw10092856319447448734 : True := trivial
def tw6676333396785717074 : True := trivial
def tw14489627518425955707 : True := trivial
def tw10073347824450446311 : True := trivial
def tw1102190903223815498 : True := trivial
def tw10619036274816975696 : True := trivial
def tw7824674403005707151 : True := trivial
def tw3619232141914619222 : True := trivial
def tw6354897768037277835 : True := trivial
def tw15247426752500302083 : True := trivial
def tw17060125343902188718 : True := trivial
def tw260763303141827865 : True := trivial
def tw8610040677353227653 : True := trivial
def tw5595237922932051795 : True := trivial
def tw5493894500399905515 : True := trivial
def tw4397759569029295205 : True := trivial
def tw7782445914667556100 : True := trivial
def tw2718901123391026995 : True := trivial
def tw15194748194917737719 : True := trivial
def tw16593013826814733010 : True := trivial
def tw8802822988693486460 : True := trivial
def tw5127043949985792152 : True := trivial
def tw607167704815816724 : True := trivial
def tw13333823602183635220 : True := trivial
def tw16439824349840649037 : True := trivial
def tw14909702598903578594 : True := trivial
def tw3353693220867276294 : True := trivial
def tw1232906733046226377 : True := trivial
def tw15039117976438264115 : True := trivial
def tw7957090006295546105 : True := trivial
def tw17175353018792136546 : True := trivial
def tw18123110421147349612 : True := trivial
def tw14043711374191979534 : True := trivial
def tw13749758060653150092 : True := trivial
def tw16847686465681647567 : True := trivial
def tw5832503352825792928 : True := trivial
def tw15280376453446927732 : True := trivial
def tw11345719326444978414 : True := trivial
def tw13678640442995254988 : True := trivial
def tw10887116778572429059 : True := trivial
def tw17139780236743587250 : True := trivial
def tw139799656371268569 : True := trivial
def tw17018628822417861297 : True := trivial
def tw17730448691065144110 : True := trivial
def tw8469214016357465607 : True := trivial
def tw12809422525583811893 : True := trivial
def tw6993175162768986339 : True := trivial
def tw6719230078834137896 : True := trivial
def tw5437680584485252607 : True := trivial
def tw6792406925840432001 : True := trivial
def tw10352308551163946355 : True := trivial
def tw535072334866317008 : True := trivial
def tw14186486079044719983 : True := trivial
def tw17172517015917474193 : True := trivial
def tw12214085216866374628 : True := trivial
def tw12832477231654346042 : True := trivial
def tw16904869804480856166 : True := trivial
def tw6380047634161181297 : True := trivial
def tw2714569429427943972 : True := trivial
def tw489095991917526796 : True := trivial
def tw7719759833273492973 : True := trivial
def tw15103234261437856402 : True := trivial
def tw9908251947323293946 : True := trivial
def tw4319416812082413722 : True := trivial
def tw6761742441262009046 : True := trivial
def tw16189536214700107852 : True := trivial
def tw15917351668096164153 : True := trivial
def tw11242719595229979791 : True := trivial
def tw11754227333514701627 : True := trivial
def tw3362959441861295915 : True := trivial
def tw7155543432591195943 : True := trivial
def tw9951705424602377420 : True := trivial
def tw14224011070414065920 : True := trivial
def tw7401281599722004195 : True := trivial
def tw6891000109920058784 : True := trivial
def tw11328821685186248670 : True := trivial
def tw15041003319150489328 : True := trivial
def tw17279654841073493023 : True := trivial
def tw442341339445175338 : True := trivial
def tw3093977132361051618 : True := trivial
def tw4039474712603431140 : True := trivial
def tw12095886509690646160 : True := trivial
def tw10215308249365652066 : True := trivial
def tw11566699232636054958 : True := trivial
def tw14489655085307688843 : True := trivial
def tw4264315005692455143 : True := trivial
def tw17077106916691092384 : True := trivial
def tw764782834095389478 : True := trivial
def tw9910355351051955638 : True := trivial
def tw12885971956603332375 : True := trivial
def tw17001327861769816259 : True := trivial
def tw9250789337458713825 : True := trivial
def tw16147099016619308541 : True := trivial
def tw2315820567201803617 : True := trivial
def tw5853609219237828028 : True := trivial
def tw10262943654017269364 : True := trivial
def tw12945968074294007009 : True := trivial
def tw1857294707202544078 : True := trivial
def tw14364280277409689854 : True := trivial
def tw9236875199018929784 : True := trivial
def tw17856267990722298874 : True := trivial
def tw8230152486105821136 : True := trivial
def tw11285170567287374314 : True := trivial
def tw3089645740814760878 : True := trivial
def tw14858287094103624389 : True := trivial
def tw10165074583629733105 : True := trivial
def tw1772237422875290029 : True := trivial
def tw16697705042078049502 : True := trivial
def tw5210751748928081642 : True := trivial
def tw10273473676514133216 : True := trivial
def tw7950560144509940271 : True := trivial
def tw13871001218405608335 : True := trivial
def tw470574548607681690 : True := trivial
def tw7445423748878020931 : True := trivial
def tw10323183001455561277 : True := trivial
def tw14273802060069496912 : True := trivial
def tw11751220284621034492 : True := trivial
def tw11935356649212052271 : True := trivial
def tw16243683426749602078 : True := trivial
def tw9862997608875712007 : True := trivial
def tw7120898165467022226 : True := trivial
def tw3094477031063562474 : True := trivial
def tw5181381795351689908 : True := trivial
def tw1711657323119017317 : True := trivial
def tw3536357697601684980 : True := trivial
def tw17274371674624000324 : True := trivial
def tw11254254501726123291 : True := trivial
def tw1503297043503765363 : True := trivial
def tw14896874001708588922 : True := trivial
def tw15560853006256673968 : True := trivial
def tw4706425542698204933 : True := trivial
def tw6127375697748050860 : True := trivial
def tw1157545019965518967 : True := trivial
def tw8588708647495961459 : True := trivial
def tw17000756265888016 : True := trivial
def tw1320183511955256522 : True := trivial
def tw10352707172743216461 : True := trivial
def tw251162882758327985 : True := trivial
def tw16413264400604254196 : True := trivial
def tw11684216636992616513 : True := trivial
def tw17351624128586235216 : True := trivial
def tw1085346719588807367 : True := trivial
def tw10455430044892516648 : True := trivial
def tw3282434896037501709 : True := trivial
def tw15742981410569661332 : True := trivial
def tw1414301608579184545 : True := trivial
def tw12945451867199242903 : True := trivial
def tw4535615521398840188 : True := trivial
def tw930746551332336609 : True := trivial
def tw14537914154153760125 : True := trivial
def tw1882018320374287077 : True := trivial
def tw10482030976504775099 : True := trivial
def tw6250672158363226905 : True := trivial
def tw4979593730266199969 : True := trivial
def tw6234664779796018075 : True := trivial
def tw9626084754628675855 : True := trivial
def tw1735497430108182060 : True := trivial
def tw17503288770812694035 : True := trivial
def tw5423003317807263696 : True := trivial
def tw17814930658547583709 : True := trivial
def tw17863021456227041891 : True := trivial
def tw9084272422888373545 : True := trivial
def tw1333364371103165705 : True := trivial
def tw6439353827949583676 : True := trivial
def tw610167625130883901 : True := trivial
def tw3470799630455053000 : True := trivial
def tw2078703811421203504 : True := trivial
def tw17429684086410527887 : True := trivial
def tw14874097414618272596 : True := trivial
def tw9821368406582625841 : True := trivial
def tw3459824189758198600 : True := trivial
def tw16018607276475445134 : True := trivial
def tw3740020263889925745 : True := trivial
def tw11171608375663816178 : True := trivial
def tw11855487677703710099 : True := trivial
def tw7158887573649699682 : True := trivial
def tw10460931487171540145 : True := trivial
def tw10057510723706494237 : True := trivial
def tw13236226663087606529 : True := trivial
def tw1615719349143574890 : True := trivial
def tw9737231877053215013 : True := trivial
def tw1829445100760108279 : True := trivial
def tw7818373180160638974 : True := trivial
def tw7808205228206232076 : True := trivial
def tw8075568018651887793 : True := trivial
def tw10846213317406478298 : True := trivial
def tw12577023982554244617 : True := trivial
def tw5969198303776893594 : True := trivial
def tw14553827428707814869 : True := trivial
def tw16451151925259046446 : True := trivial
def tw15067931366933112725 : True := trivial
def tw15062378111984178829 : True := trivial
def tw14214133299417103183 : True := trivial
def tw15079194523842364033 : True := trivial
def tw6172378031441891805 : True := trivial
def tw1739468189879259843 : True := trivial
def tw15199281503961881116 : True := trivial
def tw15376083050721069600 : True := trivial
def tw10970087489707964778 : True := trivial
def tw2013313402274715309 : True := trivial
def tw13374694542785003330 : True := trivial
def tw39160002569200845 : True := trivial
def tw10528696920762540405 : True := trivial
def tw16942194440817826258 : True := trivial
def tw1410096668721982599 : True := trivial
def tw12095823642532355627 : True := trivial
def tw3560238982266916124 : True := trivial
def tw17842620306162639686 : True := trivial
def tw7191607858210974391 : True := trivial
def tw3195343069725486020 : True := trivial
def tw9676229304581654039 : True := trivial
def tw5529568453561195837 : True := trivial
def tw6230122020268376633 : True := trivial
def tw8795123598061512290 : True := trivial
def tw6711915476519705758 : True := trivial
def tw5701610774189311196 : True := trivial
def tw4299136966843209011 : True := trivial
def tw14717076375853996829 : True := trivial
def tw3229698128091672885 : True := trivial
def tw1620339239838986703 : True := trivial
def tw9467589175468403638 : True := trivial
def tw12726346659333912481 : True := trivial
def tw13853819408611901635 : True := trivial
def tw17846936440860909165 : True := trivial
def tw7635745913717525911 : True := trivial
def tw15686607326892023100 : True := trivial
def tw14032810665073119061 : True := trivial
def tw7449101846280096545 : True := trivial
def tw951843321253372498 : True := trivial
def tw17405574147353361418 : True := trivial
def tw8959964123841196786 : True := trivial
def tw5823794197072137003 : True := trivial
def tw6135381517318000843 : True := trivial
def tw4352594626159697269 : True := trivial
def tw4933834842325187142 : True := trivial
def tw7386287351920941800 : True := trivial
def tw4183517677704540172 : True := trivial
def tw1517728797646847326 : True := trivial
def tw2239591755241691573 : True := trivial
def tw7640025773117715792 : True := trivial
def tw9868982950595657695 : True := trivial
def tw856264945809894966 : True := trivial
def tw5891901776424391202 : True := trivial
def tw11420187438672877268 : True := trivial
def tw4002091012841952933 : True := trivial
def tw11817470609975844035 : True := trivial
def tw8474383852179026721 : True := trivial
def tw9396933662098498411 : True := trivial
def tw13409561955635005510 : True := trivial
def tw17164873540382356111 : True := trivial
def tw7154438950734165382 : True := trivial
def tw1617757218408452269 : True := trivial
def tw9376109419431680627 : True := trivial
def tw11786184479649081736 : True := trivial
def tw14529259203199301258 : True := trivial
def tw11277716924127702174 : True := trivial
def tw18287117734903463105 : True := trivial
def tw8123005709971320403 : True := trivial
def tw10216692956209284516 : True := trivial
def tw7386744729831018872 : True := trivial
def tw4319705520415482375 : True := trivial
def tw13900631225919944168 : True := trivial
def tw5280161529603008896 : True := trivial
def tw13981391230805400906 : True := trivial
def tw13541529254258495832 : True := trivial
def tw10809436270750901244 : True := trivial
def tw14778209649434054790 : True := trivial
def tw2401699919119007470 : True := trivial
def tw9200313036938344696 : True := trivial
def tw5891314628709854340 : True := trivial
def tw17341736924252097559 : True := trivial
def tw1375587502874563802 : True := trivial
def tw17554001833073541016 : True := trivial
def tw17015423121036801654 : True := trivial
def tw8946543629884556368 : True := trivial
def tw12527393111034389544 : True := trivial
def tw6504275150365058295 : True := trivial
def tw15305786345645738563 : True := trivial
def tw10138199336372458610 : True := trivial
def tw1771862750571323454 : True := trivial
def tw7269565832213808900 : True := trivial
def tw10576610938325666646 : True := trivial
def tw5197668827303891814 : True := trivial
def tw17626262904599113365 : True := trivial
def tw10948738476641704880 : True := trivial
def tw13124461726301313055 : True := trivial
def tw8206430501311747189 : True := trivial
def tw6900397732965128853 : True := trivial
def tw4817316660788777376 : True := trivial
def tw4665496328224945229 : True := trivial
def tw14265314264860633672 : True := trivial
def tw11629953924900746896 : True := trivial
def tw17954736447514056666 : True := trivial
def tw389472881494512206 : True := trivial
def tw6122645084068987007 : True := trivial
def tw17787413788183658793 : True := trivial
def tw6348685521300091022 : True := trivial
def tw3865406201487662470 : True := trivial
def tw8202182477751992269 : True := trivial
def tw6580340599500149305 : True := trivial
def tw1267870562809915468 : True := trivial
def tw4042386549635913901 : True := trivial
def tw16145008321745377990 : True := trivial
def tw3059198658896362218 : True := trivial
def tw10114606294343739009 : True := trivial
def tw8488268690174267210 : True := trivial
def tw16643706677886111943 : True := trivial
def tw7783732958741208154 : True := trivial
def tw7581352650102555174 : True := trivial
def tw8815187840785991937 : True := trivial
def tw4580202747914273547 : True := trivial
def tw9794667896261083176 : True := trivial
def tw16467547270196610987 : True := trivial
def tw8328094057196393916 : True := trivial
def tw11636919720809706868 : True := trivial
def tw15260796648200649335 : True := trivial
def tw2670528217467546775 : True := trivial
def tw1100353791813204450 : True := trivial
def tw16658944759067139292 : True := trivial
def tw8944806292087596576 : True := trivial
def tw12985358249318526461 : True := trivial
def tw4724670654266164199 : True := trivial
def tw4109823476700235019 : True := trivial
def tw13951202360752479828 : True := trivial
def tw10078919187461690516 : True := trivial
def tw13607416678640721797 : True := trivial
def tw3460871413274159568 : True := trivial
def tw10045867985992453528 : True := trivial
def tw4730331114728640190 : True := trivial
def tw16223305294053301992 : True := trivial
def tw8477275174327901731 : True := trivial
def tw18061084759594087926 : True := trivial
def tw12576468367926623319 : True := trivial
def tw2754827275739841523 : True := trivial
def tw18345786424863182364 : True := trivial
def tw13249717894814248339 : True := trivial
def tw17537794083376710389 : True := trivial
def tw1759038480177400420 : True := trivial
def tw14082533068604317172 : True := trivial
def tw5706481520468235054 : True := trivial
def tw4081448555075689111 : True := trivial
def tw5885672587940724382 : True := trivial
def tw27745211739167843 : True := trivial
def tw14326252917377295143 : True := trivial
def tw7250012664060256230 : True := trivial
def tw6813294653679155843 : True := trivial
def tw5936146933674214641 : True := trivial
def tw481669996167257017 : True := trivial
def tw3793695936567050837 : True := trivial
def tw1601324251397642257 : True := trivial
def tw18344399583354655597 : True := trivial
def tw10379131730601215995 : True := trivial
def tw12249189601771857283 : True := trivial
def tw4966893808263662355 : True := trivial
def tw15157221202141545114 : True := trivial
def tw18247196683334857738 : True := trivial
def tw2378363196638174374 : True := trivial
def tw2354519551546300837 : True := trivial
def tw2721586585765338809 : True := trivial
def tw2766791794783704600 : True := trivial
def tw3049794533805585007 : True := trivial
def tw13949143374315933397 : True := trivial
def tw6832808476680081064 : True := trivial
def tw9203354889408330259 : True := trivial
def tw13751152980409824389 : True := trivial
def tw11679747514851818483 : True := trivial
def tw1269743608478119537 : True := trivial
def tw10650810973499830745 : True := trivial
def tw12383734066324535495 : True := trivial
def tw18260038339965228139 : True := trivial
def tw9076128300344869771 : True := trivial
def tw12577167011244325639 : True := trivial
def tw9120440242371145848 : True := trivial
def tw3302314484089059179 : True := trivial
def tw7641510929779896126 : True := trivial
def tw12177639751122801600 : True := trivial
def tw9300948228871686676 : True := trivial
def tw253915443176516761 : True := trivial
def tw10443627911838485301 : True := trivial
def tw3395616883899927064 : True := trivial
def tw4824431525194463578 : True := trivial
def tw6980910045739468074 : True := trivial
def tw16873747156318258803 : True := trivial
def tw901729533197794609 : True := trivial
def tw6448080314894763839 : True := trivial
def tw2334299552400917057 : True := trivial
def tw5289962621202845349 : True := trivial
def tw8710645281305832526 : True := trivial
def tw4111355340424721971 : True := trivial
def tw6587116730350146372 : True := trivial
def tw12599741558188205749 : True := trivial
def tw12049575158971614909 : True := trivial
def tw12488000419048109807 : True := trivial
def tw17719373434677690450 : True := trivial
def tw15195428891847259777 : True := trivial
def tw13887566666473417928 : True := trivial
def tw7098571738820278039 : True := trivial
def tw18211773271919218964 : True := trivial
def tw3710963133593081682 : True := trivial
def tw14185684948912167051 : True := trivial
def tw13905827436408914978 : True := trivial
def tw10227693086864044499 : True := trivial
def tw8579058602437062094 : True := trivial
def tw6213697211615256494 : True := trivial
def tw17240087923520299406 : True := trivial
def tw12182807814244774211 : True := trivial
def tw1544652992362985085 : True := trivial
def tw9275793141605677031 : True := trivial
def tw15112985482279097393 : True := trivial
def tw17532718790514356516 : True := trivial
def tw7295312623806419368 : True := trivial
def tw11363912090873407280 : True := trivial
def tw5357591511691535388 : True := trivial
def tw6268969693082757200 : True := trivial
def tw507417119214848006 : True := trivial
def tw15215539614974913122 : True := trivial
def tw3228652444460286982 : True := trivial
def tw10598567329377039032 : True := trivial
def tw6679490504615227074 : True := trivial
def tw10028428298569065181 : True := trivial
def tw4067352731025960442 : True := trivial
def tw788995980369251910 : True := trivial
def tw11525573260007124812 : True := trivial
def tw420812918241475278 : True := trivial
def tw5149714755402479525 : True := trivial
def tw5032809538720368765 : True := trivial
def tw3039592710220408265 : True := trivial
def tw15106249588918857481 : True := trivial
def tw1189734492583310 : True := trivial
def tw4436414214183868663 : True := trivial
def tw10317580896714288900 : True := trivial
def tw13721567128424951087 : True := trivial
def tw8283515000281207119 : True := trivial
def tw12227490674122928909 : True := trivial
def tw5998781340512891400 : True := trivial
def tw8349621136948200185 : True := trivial
def tw4853761087172403367 : True := trivial
def tw995937716060619919 : True := trivial
def tw16644606511662114574 : True := trivial
def tw9800571698397750058 : True := trivial
def tw14483798560305912730 : True := trivial
def tw2387720566874501970 : True := trivial
def tw9416170592642261871 : True := trivial
def tw618205885557783147 : True := trivial
def tw14582907212609144252 : True := trivial
def tw3313218580910194804 : True := trivial
def tw17803129079492736432 : True := trivial
def tw9787463984185863102 : True := trivial
def tw4450432466259859468 : True := trivial
def tw4677260337660170404 : True := trivial
def tw13512673800721320934 : True := trivial
def tw14323765505736481980 : True := trivial
def tw3612229072647707642 : True := trivial
def tw4306451927003165895 : True := trivial
def tw12377561305857167785 : True := trivial
def tw18342000824774725950 : True := trivial
def tw16737559591592110954 : True := trivial
def tw5189142188285759775 : True := trivial
def tw8509908385975216990 : True := trivial
def tw17476080006546285661 : True := trivial
def tw13951257522405164796 : True := trivial
def tw9011979029575296479 : True := trivial
def tw2660918139993853925 : True := trivial
def tw16289391198768371057 : True := trivial
def tw2862820112641550484 : True := trivial
def tw10647819351689358120 : True := trivial
def tw8860024209350480642 : True := trivial
def tw15719678427024659160 : True := trivial
def tw17434858337260393937 : True := trivial
def tw6854208816996764167 : True := trivial
def tw11013792430000457035 : True := trivial
def tw6059929106960060952 : True := trivial
def tw9139287138770789469 : True := trivial
def tw10819683100428557426 : True := trivial
def tw16684415304761926403 : True := trivial
def tw2039238271031011813 : True := trivial
def tw8620020772036689432 : True := trivial
def tw8229689697521897066 : True := trivial
def tw3139228997032326918 : True := trivial
def tw932993149863042379 : True := trivial
def tw5450187663091677483 : True := trivial
def tw2370070277545300124 : True := trivial
def tw17174582830134129907 : True := trivial
def tw8719427161674164953 : True := trivial
def tw9529234661008812162 : True := trivial
def tw12371710504914307738 : True := trivial
def tw4989861115921178866 : True := trivial
def tw8374521631193769224 : True := trivial
def tw3424931102881643321 : True := trivial
def tw12025208970609079342 : True := trivial
def tw11960580518372995122 : True := trivial
def tw14380340866092297550 : True := trivial
def tw17303753813447770047 : True := trivial
def tw17340441108620059860 : True := trivial
def tw13658505271682890234 : True := trivial
def tw1537898542681612871 : True := trivial
def tw3325841961599345399 : True := trivial
def tw15500058420704019697 : True := trivial
def tw2305325121136568689 : True := trivial
def tw15034313371233782410 : True := trivial
def tw11161088081135249708 : True := trivial
def tw18084233668224152744 : True := trivial
def tw1536587703002861866 : True := trivial
def tw486160843437622367 : True := trivial
def tw8745448765403140570 : True := trivial
def tw9626942728845285128 : True := trivial
def tw3221901565327934181 : True := trivial
def tw8642067239939848140 : True := trivial
def tw5607064600570693084 : True := trivial
def tw10758392820592806131 : True := trivial
def tw3149940706203789266 : True := trivial
def tw3259055174309029764 : True := trivial
def tw11306939235166856333 : True := trivial
def tw9407582987413476825 : True := trivial
def tw17283992503375333543 : True := trivial
def tw2893320730987073876 : True := trivial
def tw6090905460779295987 : True := trivial
def tw7842807204330285214 : True := trivial
def tw8987538862647873523 : True := trivial
def tw8540232549379673566 : True := trivial
def tw12679591844961189642 : True := trivial
def tw4658958612460137192 : True := trivial
def tw2614582859706387860 : True := trivial
def tw10033396928017900241 : True := trivial
def tw14079958499647549597 : True := trivial
def tw13642483538084851733 : True := trivial
def tw17596809139577655471 : True := trivial
def tw17027947056734134637 : True := trivial
def tw13615603153576403970 : True := trivial
def tw1099165256960081760 : True := trivial
def tw3720072278350909899 : True := trivial
def tw13551572312386263098 : True := trivial
def tw950385793416642148 : True := trivial
def tw14942985259670156941 : True := trivial
def tw13599339833300997648 : True := trivial
def tw1156252341971683116 : True := trivial
def tw12359285113459375979 : True := trivial
def tw13827670908862324088 : True := trivial
def tw15894407043143930727 : True := trivial
def tw12635813782599140982 : True := trivial
def tw252367510798351285 : True := trivial
def tw16916688483869632129 : True := trivial
def tw13925586954763233925 : True := trivial
def tw4768464013462379552 : True := trivial
def tw17888162413812561239 : True := trivial
def tw8098380416015320538 : True := trivial
def tw5978237884098788730 : True := trivial
def tw5076957145309523181 : True := trivial
def tw11108263761283441063 : True := trivial
def tw6624491594363574236 : True := trivial
def tw4172830789200971933 : True := trivial
def tw8693227569615203950 : True := trivial
def tw12540877339514443346 : True := trivial
def tw18076396596764296223 : True := trivial
def tw17187180973240361021 : True := trivial
def tw12994954067883948608 : True := trivial
def tw3889259530307233657 : True := trivial
def tw3327986453032591115 : True := trivial
def tw10938465397075749097 : True := trivial
def tw10112562596278718158 : True := trivial
def tw7538125934224741611 : True := trivial
def tw7665334170297950774 : True := trivial
def tw5144633987255907666 : True := trivial
def tw14544052848187043789 : True := trivial
def tw12913785700363492387 : True := trivial
def tw12237943961548833269 : True := trivial
def tw5275874004167967235 : True := trivial
def tw8603108125212654177 : True := trivial
def tw6636956529411117187 : True := trivial
def tw18273839248471157720 : True := trivial
def tw10353204498128435838 : True := trivial
def tw4769018279307018242 : True := trivial
def tw10111798822148845634 : True := trivial
def tw10475303700862453374 : True := trivial
def tw12877114100897624224 : True := trivial
def tw16241802466949684156 : True := trivial
def tw18101931140130867144 : True := trivial
def tw8868882367808763553 : True := trivial
def tw7009043117176579089 : True := trivial
def tw6614585292965373069 : True := trivial
def tw11767421526060770920 : True := trivial
def tw1188131947540300063 : True := trivial
def tw11964429278604863157 : True := trivial
def tw9092590503495048627 : True := trivial
def tw9238281662671382722 : True := trivial
def tw5881240552750758400 : True := trivial
def tw10730351240561388922 : True := trivial
def tw7729641633298002090 : True := trivial
def tw6828867355088325219 : True := trivial
def tw11280230395552571071 : True := trivial
def tw4921902886906138986 : True := trivial
def tw9165568632223901487 : True := trivial
def tw17041471163203698717 : True := trivial
def tw15768644013482014892 : True := trivial
def tw2322887356643228942 : True := trivial
def tw3066170563753478177 : True := trivial
def tw18416463498863911781 : True := trivial
def tw8753696776887207221 : True := trivial
def tw10719484529398299949 : True := trivial
def tw15250204685079549951 : True := trivial
def tw3478483592211231078 : True := trivial
def tw17962735131893694061 : True := trivial
def tw10007627690174824804 : True := trivial
def tw4466658021391931909 : True := trivial
def tw10833955939284561965 : True := trivial
def tw6144853644547557980 : True := trivial
def tw6607189417530752870 : True := trivial
def tw11433066937589102482 : True := trivial
def tw1139862187096482527 : True := trivial
def tw14285374257681291273 : True := trivial
def tw8704618095886561957 : True := trivial
def tw16835247145936305501 : True := trivial
def tw383695940523520267 : True := trivial
def tw7275051467321613617 : True := trivial
def tw1370275717833778536 : True := trivial
def tw195516440579289731 : True := trivial
def tw14979626087600564940 : True := trivial
def tw387338674003428930 : True := trivial
def tw12997817830866191649 : True := trivial
def tw13902233598862641821 : True := trivial
def tw14878941035042465312 : True := trivial
def tw14973007898608030118 : True := trivial
def tw13215998728584607739 : True := trivial
def tw5068434257544371817 : True := trivial
def tw14219993548097058179 : True := trivial
def tw8430678208038309684 : True := trivial
def tw18410474027866654770 : True := trivial
def tw9736788993784561348 : True := trivial
def tw5200128776193632040 : True := trivial
def tw16369446117885005094 : True := trivial
def tw14952990662201256454 : True := trivial
def tw10797649063328284778 : True := trivial
def tw9893030918988833448 : True := trivial
def tw9455686188066324210 : True := trivial
def tw18011898689540126615 : True := trivial
def tw8796240567053077481 : True := trivial
def tw12807690338718825411 : True := trivial
def tw3695515675974049574 : True := trivial
def tw3188474169857998091 : True := trivial
def tw2948108419219029167 : True := trivial
def tw7118621879819988189 : True := trivial
def tw16138931208732196661 : True := trivial
def tw17827458813498177553 : True := trivial
def tw14311459727803291754 : True := trivial
def tw17295947923314359676 : True := trivial
def tw13159241964716117882 : True := trivial
def tw8654737378357257675 : True := trivial
def tw6344021378708583682 : True := trivial
def tw13833530074450851096 : True := trivial
def tw1993567047419047990 : True := trivial
def tw5674036545160802477 : True := trivial
def tw4011157648589011858 : True := trivial
def tw9331446305651722353 : True := trivial
def tw11319568614864959640 : True := trivial
def tw1853511820484065915 : True := trivial
def tw8595292554425487202 : True := trivial
def tw13471316229770301743 : True := trivial
def tw12436211924289087317 : True := trivial
def tw17224707938729390701 : True := trivial
def tw9190918148164325157 : True := trivial
def tw11861152243698038893 : True := trivial
def tw460243522976405022 : True := trivial
def tw9721856733848853292 : True := trivial
def tw18034167525097398909 : True := trivial
def tw4578526897855010267 : True := trivial
def tw11853533878840232495 : True := trivial
def tw11137651959834898467 : True := trivial
def tw15423634916342008072 : True := trivial
def tw725871291056497461 : True := trivial
def tw16723424844129597499 : True := trivial
def tw15823609455315575823 : True := trivial
def tw4173924237407464957 : True := trivial
def tw5994839739612272190 : True := trivial
def tw293829605474521371 : True := trivial
def tw8389248881573145916 : True := trivial
def tw17905763081168820228 : True := trivial
def tw148260917463534702 : True := trivial
def tw2016149133177918099 : True := trivial
def tw6838246268322495095 : True := trivial
def tw8057672235088904706 : True := trivial
def tw6957892444533423178 : True := trivial
def tw558745408833754511 : True := trivial
def tw9087420756778563785 : True := trivial
def tw17352973434858128600 : True := trivial
def tw17069979004554194336 : True := trivial
def tw5574406243229575804 : True := trivial
def tw3209381107111851631 : True := trivial
def tw11333186260410459676 : True := trivial
def tw1531800813942188360 : True := trivial
def tw9950995098322795456 : True := trivial
def tw12659028871203227004 : True := trivial
def tw7286323032743288035 : True := trivial
def tw13109530935397037440 : True := trivial
def tw1173586836224595618 : True := trivial
def tw5720267713326709755 : True := trivial
def tw4679858250743294509 : True := trivial
def tw13826722311791395616 : True := trivial
def tw4800411905006600116 : True := trivial
def tw3355348695024010778 : True := trivial
def tw5854881644878751223 : True := trivial
def tw14357357538673253811 : True := trivial
def tw6123655918767846522 : True := trivial
def tw4636218855388986860 : True := trivial
def tw16219958171493190593 : True := trivial
def tw17325535178939296128 : True := trivial
def tw7483462131439158144 : True := trivial
def tw14159497744377131790 : True := trivial
def tw13759679279233594173 : True := trivial
def tw11452132507678324671 : True := trivial
def tw7405434945208526273 : True := trivial
def tw6917869754434977982 : True := trivial
def tw17017531747926684770 : True := trivial
def tw3826639566459466600 : True := trivial
def tw10919533547850550483 : True := trivial
def tw14961128103160096246 : True := trivial
def tw13776390136698705113 : True := trivial
def tw16326889199254633757 : True := trivial
def tw17071476683966804577 : True := trivial
def tw9620821133714224528 : True := trivial
def tw5212704253837512909 : True := trivial
def tw13195344857872499093 : True := trivial
def tw10508964354415003018 : True := trivial
def tw1107438419126420414 : True := trivial
def tw7232422423428716515 : True := trivial
def tw1667231139898017245 : True := trivial
def tw2607196883725663156 : True := trivial
def tw17370054149142409183 : True := trivial
def tw7892128664451923741 : True := trivial
def tw2711585505577850959 : True := trivial
def tw1184552218554016812 : True := trivial
def tw3324361733244956215 : True := trivial
def tw3952652319720093869 : True := trivial
def tw1385373752043811132 : True := trivial
def tw17344680358763864322 : True := trivial
def tw8881496252177385917 : True := trivial
def tw931480700962045883 : True := trivial
def tw6944952908185719654 : True := trivial
def tw17431367730909923944 : True := trivial
def tw4978021878618929660 : True := trivial
def tw9235277983596991582 : True := trivial
def tw17300597898927385350 : True := trivial
def tw4337586460112869244 : True := trivial
def tw11863081143760314161 : True := trivial
def tw9465252893111587286 : True := trivial
def tw13581749221687468397 : True := trivial
def tw7229665172594901996 : True := trivial
def tw4527066259768149269 : True := trivial
def tw9059601668185437810 : True := trivial
def tw16869277618539721502 : True := trivial
def tw11445135464325071761 : True := trivial
def tw15809175171143324333 : True := trivial
def tw2823538514989777010 : True := trivial
def tw17853091419876218043 : True := trivial
def tw16950312913027304927 : True := trivial
def tw2343365939176002050 : True := trivial
def tw16846860572762119324 : True := trivial
def tw7165179329215463379 : True := trivial
def tw4800724452203346748 : True := trivial
def tw12224272158712414510 : True := trivial
def tw9720828393056574044 : True := trivial
def tw14743920089463984204 : True := trivial
def tw15542691292777871779 : True := trivial
def tw17532440430192770315 : True := trivial
def tw14424030437218788079 : True := trivial
def tw7464108891457934025 : True := trivial
def tw17018449646109014956 : True := trivial
def tw686183698351167624 : True := trivial
def tw6182678533730793537 : True := trivial
def tw487364732245791922 : True := trivial
def tw6057444674265745922 : True := trivial
def tw11765014963103734823 : True := trivial
def tw10780579911999712009 : True := trivial
def tw3433653886696886423 : True := trivial
def tw3345107109950449737 : True := trivial
def tw17183712847048597117 : True := trivial
def tw9265879793445154701 : True := trivial
def tw6722154040420286063 : True := trivial
def tw16728318958200371172 : True := trivial
def tw16444073730201381095 : True := trivial
def tw13987355940573415152 : True := trivial
def tw313226197891681235 : True := trivial
def tw2314638664359121040 : True := trivial
def tw3152983702415266003 : True := trivial
def tw9248541637817142097 : True := trivial
def tw5882768191206486792 : True := trivial
def tw3602305061869613148 : True := trivial
def tw3539689615750047342 : True := trivial
def tw10766448739855431976 : True := trivial
def tw9977392586421186931 : True := trivial
def tw9501820088010722379 : True := trivial
def tw12828332729040242785 : True := trivial
def tw12128325577817847261 : True := trivial
def tw6071354207583734814 : True := trivial
def tw1402947280878808549 : True := trivial
def tw929930851309777746 : True := trivial
def tw8720904808783336632 : True := trivial
def tw12450158673883907302 : True := trivial
def tw12526863579885937616 : True := trivial
def tw4224760802259116069 : True := trivial
def tw5093978072118978450 : True := trivial
def tw4110589180456253056 : True := trivial
def tw6551367506479906963 : True := trivial
def tw8058433561772132124 : True := trivial
def tw2037417660504910701 : True := trivial
def tw136631920214876835 : True := trivial
def tw1971209045111089449 : True := trivial
def tw5807050765050996992 : True := trivial
def tw12233582284571471492 : True := trivial
def tw5854066237105225762 : True := trivial
def tw1746709291711236091 : True := trivial
def tw17230556039016184743 : True := trivial
def tw4037629707625997901 : True := trivial
def tw11270796479367742343 : True := trivial
def tw4302124980754421698 : True := trivial
def tw11682084944484805031 : True := trivial
def tw14843722373977536959 : True := trivial
def tw11707371222683016368 : True := trivial
def tw2081053591005667728 : True := trivial
def tw15555810224723813058 : True := trivial
def tw3442601649717412197 : True := trivial
def tw12143486254990352099 : True := trivial
def tw9577309144901391297 : True := trivial
def tw721709456127091705 : True := trivial
def tw9575948337506731703 : True := trivial
def tw5135500740108067664 : True := trivial
def tw1355749187267101305 : True := trivial
def tw4319011637217762917 : True := trivial
def tw14210447440969649564 : True := trivial
def tw1499420768645567495 : True := trivial
def tw17765544955259793912 : True := trivial
def tw4837761894135309292 : True := trivial
def tw16495097172686442475 : True := trivial
def tw4978915544186085027 : True := trivial
def tw18253757678009453241 : True := trivial
def tw3758773823038459598 : True := trivial
def tw9789019468119761216 : True := trivial
def tw14333388528381170442 : True := trivial
def tw4434333111790514575 : True := trivial
def tw704327219915372674 : True := trivial
def tw10308316962582663543 : True := trivial
def tw8224813933742928703 : True := trivial
def tw16258813485015810305 : True := trivial
def tw12034632706147234205 : True := trivial
def tw2958062672499776758 : True := trivial
def tw1401314859036634870 : True := trivial
def tw16966814322356759819 : True := trivial
def tw13746126617404028095 : True := trivial
def tw10058976618658966374 : True := trivial
def tw5175868404383891340 : True := trivial
def tw15737173131095716616 : True := trivial
def tw16554981416250968798 : True := trivial
def tw757081541053455785 : True := trivial
def tw17730428716208468724 : True := trivial
def tw1434429035497896577 : True := trivial
def tw9151444980202551346 : True := trivial
def tw5925582254088234700 : True := trivial
def tw12393455550290869266 : True := trivial
def tw5809640215330497254 : True := trivial
def tw10665637193224026147 : True := trivial
def tw11994158751524154303 : True := trivial
def tw5612387226054363285 : True := trivial
def tw2627984346626558326 : True := trivial
def tw10546958778822530537 : True := trivial
def tw9413167413068371254 : True := trivial
def tw4980102563643897964 : True := trivial
def tw15605440718772780007 : True := trivial
def tw10752953262129268424 : True := trivial
def tw3417826981245426542 : True := trivial
def tw2392560884831400465 : True := trivial
def tw17815586953681464072 : True := trivial
def tw18200712748503757919 : True := trivial
def tw3976722010076183465 : True := trivial
def tw973662469405803806 : True := trivial
def tw5247225353297040015 : True := trivial
def tw15354916663399470787 : True := trivial
def tw4507309187265873474 : True := trivial
def tw10782641618400255816 : True := trivial
def tw15323854079317868165 : True := trivial
def tw16921136031002660068 : True := trivial
def tw1570708179523753252 : True := trivial
def tw14102650769012015913 : True := trivial
def tw8800560270773162519 : True := trivial
def tw6291368078380397288 : True := trivial
def tw506015256421338023 : True := trivial
def tw12731603968600162155 : True := trivial
def tw1146027147519957623 : True := trivial
def tw997918110808614186 : True := trivial
def tw6801968546669101340 : True := trivial
def tw5758256569797452207 : True := trivial
def tw13784944310507388103 : True := trivial
def tw12980721394472540940 : True := trivial
def tw15891952060043632761 : True := trivial
def tw13241461904039861399 : True := trivial
def tw1291980286583624508 : True := trivial
def tw6789855027759293466 : True := trivial
def tw1278341880987251545 : True := trivial
def tw667198328695590252 : True := trivial
def tw2504501939568898240 : True := trivial
def tw13294325848734340343 : True := trivial
def tw9305466669911107070 : True := trivial
def tw2569364866550412066 : True := trivial
def tw7057405563618977329 : True := trivial
def tw1421803817401987368 : True := trivial
def tw15766043655864335149 : True := trivial
def tw13427988762788590312 : True := trivial
def tw5550314157272711993 : True := trivial
def tw15025364365136419289 : True := trivial
def tw12973657651903071711 : True := trivial
def tw14907048974825807369 : True := trivial
def tw4552823106982906706 : True := trivial
def tw11177552052486685613 : True := trivial
def tw17138261911001417010 : True := trivial
def tw11796596560499834812 : True := trivial
def tw5947542904872608226 : True := trivial
def tw16531745337717519161 : True := trivial
def tw17169101284591775605 : True := trivial
def tw4405960384096086239 : True := trivial
def tw15542503528162795033 : True := trivial
def tw2571919107429820419 : True := trivial
def tw5310036984924271277 : True := trivial
def tw6550987210724342151 : True := trivial
def tw1995926237046646575 : True := trivial
def tw14433975572909055671 : True := trivial
def tw5152784196030571298 : True := trivial
def tw14588557730865908194 : True := trivial
def tw12973230583154519510 : True := trivial
def tw11041761556299145183 : True := trivial
def tw1481926694345511941 : True := trivial
def tw12647630874787467225 : True := trivial
def tw16280195873916505411 : True := trivial
def tw16309933130070103497 : True := trivial
def tw8804489104061782408 : True := trivial
def tw16998109343291152856 : True := trivial
def tw12393509165935024070 : True := trivial
def tw7543618554067911206 : True := trivial
def tw8180830640274347804 : True := trivial
def tw16861218917600885097 : True := trivial
def tw14893704317605483808 : True := trivial
def tw5409283761738284092 : True := trivial
def tw7788680626742099145 : True := trivial
def tw14567578511070691153 : True := trivial
def tw1916944219915559503 : True := trivial
def tw2987359440910979723 : True := trivial
def tw10205541121877940668 : True := trivial
def tw15020028541594565831 : True := trivial
def tw521241757355012473 : True := trivial
def tw15490439104401381959 : True := trivial
def tw2922074901204462755 : True := trivial
def tw15480198773659482676 : True := trivial
def tw5556110093522782063 : True := trivial
def tw8125055898148337911 : True := trivial
def tw16693541655264020344 : True := trivial
def tw13496564725613916313 : True := trivial
def tw724751600484774222 : True := trivial
def tw7313295853046975944 : True := trivial
def tw10172513219967782742 : True := trivial
def tw2708163388286742659 : True := trivial
def tw6654550962395885724 : True := trivial
def tw288087438632003012 : True := trivial
def tw16191564642481045011 : True := trivial
def tw7499937903120025604 : True := trivial
def tw7276740287692124622 : True := trivial
def tw1258717718454355964 : True := trivial
def tw8703263022893421829 : True := trivial
def tw17848953441511769711 : True := trivial
def tw882838713213173450 : True := trivial
def tw14174611291570781762 : True := trivial
def tw15525092139617116539 : True := trivial
def tw392140993173905013 : True := trivial
def tw3306904295867340462 : True := trivial
def tw12301736329548577491 : True := trivial
def tw13262538273218963204 : True := trivial
def tw4090926877573551719 : True := trivial
def tw4575980220486274672 : True := trivial
def tw3462511469398207038 : True := trivial
def tw17382798495522986874 : True := trivial
def tw6245536207120538393 : True := trivial
def tw12286716685032941320 : True := trivial
def tw3118938333895590913 : True := trivial
def tw14242591208333384230 : True := trivial
def tw260747665356735667 : True := trivial
def tw6434265647005701932 : True := trivial
def tw11166942722945506595 : True := trivial
def tw13121200027793486533 : True := trivial
def tw6937325167468391026 : True := trivial
def tw12513294399696052349 : True := trivial
def tw11298729390765005132 : True := trivial
def tw16511650552694525965 : True := trivial
def tw5547107955753201208 : True := trivial
def tw4775785305629353868 : True := trivial
def tw11929166002236143371 : True := trivial
def tw830924265138556478 : True := trivial
def tw3365093317950918147 : True := trivial
def tw18340240734955500558 : True := trivial
def tw4430655021044022179 : True := trivial
def tw7332914688054063159 : True := trivial
def tw662354867322794072 : True := trivial
def tw2134368852220247820 : True := trivial
def tw14580368152464143365 : True := trivial
def tw6166948941111750059 : True := trivial
def tw12456492676567594705 : True := trivial
def tw18428756778242999024 : True := trivial
def tw2460228577881660442 : True := trivial
def tw7561702620229879340 : True := trivial
def tw14031254098957005024 : True := trivial
def tw9515652053505349548 : True := trivial
def tw15706547332285032456 : True := trivial
def tw189603312586018693 : True := trivial
def tw9267298106668617725 : True := trivial
def tw9259835922360137852 : True := trivial
def tw16874561944515371726 : True := trivial
def tw7081425507203772304 : True := trivial
def tw11807190409705965497 : True := trivial
def tw18371169792594650754 : True := trivial
def tw5518745428033880147 : True := trivial
def tw12364296000511930124 : True := trivial
def tw3398876845080916796 : True := trivial
def tw16214082829002729210 : True := trivial
def tw5950129339639070837 : True := trivial
def tw4987535061151134913 : True := trivial
def tw17280976486791472633 : True := trivial
def tw15902184279288820625 : True := trivial
def tw6423631873372265540 : True := trivial
def tw2883484788219351825 : True := trivial
def tw16792545251062261874 : True := trivial
def tw5946566240119215348 : True := trivial
def tw1711367819467211730 : True := trivial
def tw5474903341430974927 : True := trivial
def tw17831143206145232764 : True := trivial
def tw18056578402003937789 : True := trivial
def tw8432684481940611981 : True := trivial
def tw9120564183446206481 : True := trivial
def tw5697894365363955025 : True := trivial
def tw9759809726879904816 : True := trivial
def tw282004115355043989 : True := trivial
def tw6431602227632030956 : True := trivial
def tw11658499210001584223 : True := trivial
def tw14714103240675001986 : True := trivial
def tw6053570598397407402 : True := trivial
def tw13160144027095335755 : True := trivial
def tw12674565591061545060 : True := trivial
def tw1962928258387122110 : True := trivial
def tw11123871897654870659 : True := trivial
def tw14112274594779413971 : True := trivial
def tw17828083071136270317 : True := trivial
def tw16645262185327669138 : True := trivial
def tw6224646082405213132 : True := trivial
def tw447715330943862342 : True := trivial
def tw9763268239775435451 : True := trivial
def tw14837249469386935497 : True := trivial
def tw4407734736301137906 : True := trivial
def tw12022618010286034681 : True := trivial
def tw6589095468515690095 : True := trivial
def tw17955133630450735404 : True := trivial
def tw14615009949319019899 : True := trivial
def tw12329403913580668285 : True := trivial
def tw7112787868492120936 : True := trivial
def tw12821735335276811757 : True := trivial
def tw7824524286630937403 : True := trivial
def tw11636719661820132299 : True := trivial
def tw8777329075199875621 : True := trivial
def tw15224661121926592747 : True := trivial
def tw17082801352038058188 : True := trivial
def tw16414604833108395602 : True := trivial
def tw10029231156530900338 : True := trivial
def tw17475289236778735526 : True := trivial
def tw1228064911786449325 : True := trivial
def tw16395444815261844340 : True := trivial
def tw15773981995205291829 : True := trivial
def tw5736407798762289528 : True := trivial
def tw9131251417149488404 : True := trivial
def tw7094674258960923220 : True := trivial
def tw8376441433122354887 : True := trivial
def tw8424611434330503625 : True := trivial
def tw11939915149646268982 : True := trivial
def tw3069475018656635626 : True := trivial
def tw4879560196417449868 : True := trivial
def tw11130039905162102590 : True := trivial
def tw7853834085085047284 : True := trivial
def tw7474604281912296424 : True := trivial
def tw2784737618629438770 : True := trivial
def tw16741492637210864865 : True := trivial
def tw13725850141900786883 : True := trivial
def tw3577408171920636059 : True := trivial
def tw17305684595852957486 : True := trivial
def tw15202239659555905331 : True := trivial
def tw9236379625843700516 : True := trivial
def tw10010511219673018494 : True := trivial
def tw10936154890238557183 : True := trivial
def tw9292931687148149277 : True := trivial
def tw8989982439271903415 : True := trivial
def tw16366562015402752707 : True := trivial
def tw18328561965235511954 : True := trivial
def tw16751196440357475278 : True := trivial
def tw13841302366752048902 : True := trivial
def tw14766643958189025262 : True := trivial
def tw13829025922625236315 : True := trivial
def tw12813236842856870187 : True := trivial
def tw14346062700354318769 : True := trivial
def tw3264259588550801142 : True := trivial
def tw13145125596335152023 : True := trivial
def tw14097648870716263351 : True := trivial
def tw10589684114461592954 : True := trivial
def tw2088544591296533915 : True := trivial
def tw10460154695559510004 : True := trivial
def tw7082770336023389322 : True := trivial
def tw11838138170533393997 : True := trivial
def tw503676674663206642 : True := trivial
def tw1374548495586556601 : True := trivial
def tw16474492168511960337 : True := trivial
def tw11106662453357776725 : True := trivial
def tw11790162104776037713 : True := trivial
def tw10042830170769951172 : True := trivial
def tw13254397897704925713 : True := trivial
def tw14619708709945020551 : True := trivial
def tw3142773779024712118 : True := trivial
def tw13102660428377437172 : True := trivial
def tw1359296270195636929 : True := trivial
def tw7461879971939330490 : True := trivial
def tw11218505658201481878 : True := trivial
def tw17037535293027105122 : True := trivial
def tw13783648951372772217 : True := trivial
def tw8589330548900098764 : True := trivial
def tw7469732015759309437 : True := trivial
def tw6542652360782415868 : True := trivial
def tw12046425863553024001 : True := trivial
def tw13141144453892091621 : True := trivial
def tw17652180141503373103 : True := trivial
def tw1092655722715705105 : True := trivial
def tw11957962974430299695 : True := trivial
def tw12296728618847696761 : True := trivial
def tw7140130562030077042 : True := trivial
def tw13251646731365433171 : True := trivial
def tw13783910572493038921 : True := trivial
def tw5889167727604068794 : True := trivial
def tw12540713548012372134 : True := trivial
def tw7650934615059315214 : True := trivial
def tw4071324889030633612 : True := trivial
def tw9998745233289444609 : True := trivial
def tw9564595351457756722 : True := trivial
def tw16307061292205389103 : True := trivial
def tw13780066281205204349 : True := trivial
def tw15263041282635125899 : True := trivial
def tw6929956602132211858 : True := trivial
def tw14190725551584542720 : True := trivial
def tw6320383766622673092 : True := trivial
def tw5815302876190815700 : True := trivial
def tw16495559152270511615 : True := trivial
def tw17988542015724977305 : True := trivial
def tw4931477591896312634 : True := trivial
def tw14108194823987119177 : True := trivial
def tw12660628722211587041 : True := trivial
def tw14821650378409806113 : True := trivial
def tw17045043414572947948 : True := trivial
def tw1378346296635387435 : True := trivial
def tw15586084020490888360 : True := trivial
def tw13036272033356848781 : True := trivial
def tw17517737089405305841 : True := trivial
def tw13329733208086693882 : True := trivial
def tw17695988578738506429 : True := trivial
def tw17233024954070867409 : True := trivial
def tw3054071069301022655 : True := trivial
def tw10464145250481579763 : True := trivial
def tw12655623977536797089 : True := trivial
def tw18350330562280901221 : True := trivial
def tw5228443966233409354 : True := trivial
def tw16049961110935095269 : True := trivial
def tw15239161573987606276 : True := trivial
def tw3856783459128436802 : True := trivial
def tw16752143609539240740 : True := trivial
def tw12699682317479453686 : True := trivial
def tw1576197236505454522 : True := trivial
def tw7745614565497352828 : True := trivial
def tw8656719876789144132 : True := trivial
def tw5349121933718820234 : True := trivial
def tw3558216917135427349 : True := trivial
def tw8324364563912585990 : True := trivial
def tw7146146830050965766 : True := trivial
def tw9092458845897301907 : True := trivial
def tw8649964590619651473 : True := trivial
def tw16437185098154296904 : True := trivial
def tw3131671291697673992 : True := trivial
def tw9458956999447867950 : True := trivial
def tw2664551874359636763 : True := trivial
def tw14934708107589980039 : True := trivial
def tw5415697137353194442 : True := trivial
def tw13070384816801012346 : True := trivial
def tw3633577522364906407 : True := trivial
def tw1785178604824868772 : True := trivial
def tw6990963922061375149 : True := trivial
def tw13424232207471783386 : True := trivial
def tw12898947447245864913 : True := trivial
def tw219737044198020058 : True := trivial
def tw12850107946570832962 : True := trivial
def tw7106382970893412116 : True := trivial
def tw10010936943081839664 : True := trivial
def tw6179359751918216688 : True := trivial
def tw5862681734662768360 : True := trivial
def tw13804622635509601256 : True := trivial
def tw14209830616999942402 : True := trivial
def tw6541165427328886249 : True := trivial
def tw3766158894648301139 : True := trivial
def tw15832166056236544519 : True := trivial
def tw16350708796919097252 : True := trivial
def tw7392212959928792091 : True := trivial
def tw12639062648400283988 : True := trivial
def tw14389334442490810641 : True := trivial
def tw17000458434675057986 : True := trivial
def tw12477758415327278626 : True := trivial
def tw17728961539438068574 : True := trivial
def tw2266659279656486223 : True := trivial
def tw16979880578912567463 : True := trivial
def tw8455964986048042899 : True := trivial
def tw1944293319124727847 : True := trivial
def tw9219426015542480343 : True := trivial
def tw1749818173716722547 : True := trivial
def tw15315713394281565010 : True := trivial
def tw18099695126128789690 : True := trivial
def tw799472198861031185 : True := trivial
def tw7574553109774388169 : True := trivial
def tw3488208955921114670 : True := trivial
def tw10709196673778178906 : True := trivial
def tw11510725203611331906 : True := trivial
def tw3820604794100220378 : True := trivial
def tw6714822604882049554 : True := trivial
def tw24343102334510163 : True := trivial
def tw15068464494326400680 : True := trivial
def tw15980859228951719591 : True := trivial
def tw2566387808223343718 : True := trivial
def tw10566222408779648918 : True := trivial
def tw14049481830898060537 : True := trivial
def tw127153431552428930 : True := trivial
def tw11641389924110848164 : True := trivial
def tw3922443574478780691 : True := trivial
def tw4079309366810268342 : True := trivial
def tw14153184510062250936 : True := trivial
def tw17853915177807527196 : True := trivial
def tw14023627001141898710 : True := trivial
def tw7428789517986216022 : True := trivial
def tw6705856038287805247 : True := trivial
def tw14777166689311650019 : True := trivial
def tw4966674849315620570 : True := trivial
def tw10040787053062605231 : True := trivial
def tw6698160770425034372 : True := trivial
def tw2408619945344806742 : True := trivial
def tw18247082017555167765 : True := trivial
def tw3891137856419664920 : True := trivial
def tw5906723110844686454 : True := trivial
def tw7412306733117577094 : True := trivial
def tw4909298074010830153 : True := trivial
def tw1631149150583789468 : True := trivial
def tw13471461260053382970 : True := trivial
def tw10934951201588209849 : True := trivial
def tw3373567504368509048 : True := trivial
def tw2077871619930789226 : True := trivial
def tw9501289110860158143 : True := trivial
def tw11288964222232778615 : True := trivial
def tw1204117194425446250 : True := trivial
def tw3281343057008669861 : True := trivial
def tw9575731206691268911 : True := trivial
def tw10093032338203421213 : True := trivial
def tw10257574182948591618 : True := trivial
def tw7275975695220276624 : True := trivial
def tw1419416864934026935 : True := trivial
def tw14834023430324568649 : True := trivial
def tw6860783713462127074 : True := trivial
def tw6606113021469975653 : True := trivial
def tw17020146562604978829 : True := trivial
def tw18036702205230433160 : True := trivial
def tw17263276799224249500 : True := trivial
def tw11519604305632133818 : True := trivial
def tw3972328310683599613 : True := trivial
def tw8819474484263016322 : True := trivial
def tw16374537267813192141 : True := trivial
def tw15880737140895825463 : True := trivial
def tw18163462532019968843 : True := trivial
def tw5386766301290243201 : True := trivial
def tw16783401641447488853 : True := trivial
def tw2088498060469179804 : True := trivial
def tw4050689580010767232 : True := trivial
def tw15066959818950650227 : True := trivial
def tw16942504070071679284 : True := trivial
def tw10276908904998144438 : True := trivial
def tw13281891768564507513 : True := trivial
def tw5770868932273138760 : True := trivial
def tw482417222145425773 : True := trivial
def tw12177649209318274912 : True := trivial
def tw16807526939755075052 : True := trivial
def tw4393257850636414672 : True := trivial
def tw13833065179229638619 : True := trivial
def tw17477438021471087581 : True := trivial
def tw1059901042614829057 : True := trivial
def tw912392155897948271 : True := trivial
def tw16349804527192203551 : True := trivial
def tw12541614564890900138 : True := trivial
def tw3545756843259802059 : True := trivial
def tw8031397206135004703 : True := trivial
def tw5653986282849419384 : True := trivial
def tw3653574156908149073 : True := trivial
def tw11236458984494512445 : True := trivial
def tw8164371507598914237 : True := trivial
def tw3365010085382643294 : True := trivial
def tw9537544019596298400 : True := trivial
def tw2895304030280410150 : True := trivial
def tw3267979357774110234 : True := trivial
def tw1460277438893781036 : True := trivial
def tw4470478605240853672 : True := trivial
def tw14983900326255920317 : True := trivial
def tw16180582048198870337 : True := trivial
def tw5555313912996828296 : True := trivial
def tw3736136724727406031 : True := trivial
def tw9151569724866414463 : True := trivial
def tw2165606593764840688 : True := trivial
def tw16643379632663270332 : True := trivial
def tw1638017585896720355 : True := trivial
def tw6012508502120743258 : True := trivial
def tw4549333791460862111 : True := trivial
def tw11300813970451376017 : True := trivial
def tw17111948838632640456 : True := trivial
def tw10487160056961263569 : True := trivial
def tw11310463157757771331 : True := trivial
def tw14912022275954711414 : True := trivial
def tw900395245841561262 : True := trivial
def tw16406328271908756883 : True := trivial
def tw13016732220969518872 : True := trivial
def tw10470071008263537045 : True := trivial
def tw15007238320947547705 : True := trivial
def tw6834602518627153040 : True := trivial
def tw7652866986338317172 : True := trivial
def tw13169248704851481478 : True := trivial
def tw16339471991904476338 : True := trivial
def tw1690735587144091376 : True := trivial
def tw716658179208862652 : True := trivial
def tw10323968676351773119 : True := trivial
def tw3148276903521382524 : True := trivial
def tw11796506867022685745 : True := trivial
def tw11036193050239951465 : True := trivial
def tw16605923680643682173 : True := trivial
def tw3783086151370532256 : True := trivial
def tw5410153933605578482 : True := trivial
def tw16697116713213952808 : True := trivial
def tw505943868828395459 : True := trivial
def tw3698559305507148144 : True := trivial
def tw2504098582860672743 : True := trivial
def tw4594841794817819559 : True := trivial
def tw4681523508651956083 : True := trivial
def tw4733837786962973091 : True := trivial
def tw4845941141622222835 : True := trivial
def tw18466492976756830 : True := trivial
def tw10767066097796618615 : True := trivial
def tw2447921434856996015 : True := trivial
def tw1961608511988823402 : True := trivial
def tw6465842086209470079 : True := trivial
def tw18350638575300117064 : True := trivial
def tw10749366882036047329 : True := trivial
def tw18263319221461684349 : True := trivial
def tw15300170045991075079 : True := trivial
def tw10670733350059645105 : True := trivial
def tw12286723448191839254 : True := trivial
def tw17024950926791866790 : True := trivial
def tw15781324953245214433 : True := trivial
def tw3504847659760329788 : True := trivial
def tw5553283244982373650 : True := trivial
def tw7303222143285647268 : True := trivial
def tw10421914624479474965 : True := trivial
def tw11317593695737139937 : True := trivial
def tw12758202877544620957 : True := trivial
def tw10500077913531017323 : True := trivial
def tw13132035660282663954 : True := trivial
def tw10964334890339321822 : True := trivial
def tw14659068678313129046 : True := trivial
def tw2008734233844534614 : True := trivial
def tw1041845030581493396 : True := trivial
def tw17318589155259679147 : True := trivial
def tw6967401301877209104 : True := trivial
def tw4891399099185468999 : True := trivial
def tw17964007177503468958 : True := trivial
def tw16460519517873343938 : True := trivial
def tw10646025642058488527 : True := trivial
def tw17256490270258609517 : True := trivial
def tw3196378941336150401 : True := trivial
def tw5268983451555188008 : True := trivial
def tw8424836971447261236 : True := trivial
def tw984089675067855598 : True := trivial
def tw16458521907211103643 : True := trivial
def tw3427515755752030745 : True := trivial
def tw7573151900890175926 : True := trivial
def tw14746774941630613163 : True := trivial
def tw10752058414077291702 : True := trivial
def tw949917172137769110 : True := trivial
def tw3386650904741475044 : True := trivial
def tw18163708392712065173 : True := trivial
def tw5379446472296873211 : True := trivial
def tw7670514497116975361 : True := trivial
def tw9136488742655976645 : True := trivial
def tw10012070188853619799 : True := trivial
def tw6578519382088009210 : True := trivial
def tw12268644228514654432 : True := trivial
def tw3602635370114188858 : True := trivial
def tw9305782018832362445 : True := trivial
def tw9520516817443398978 : True := trivial
def tw2788565988649586365 : True := trivial
def tw3825061337978711158 : True := trivial
def tw4075660801711882420 : True := trivial
def tw17848772402925894760 : True := trivial
def tw5952267759425050802 : True := trivial
def tw2905824091091238844 : True := trivial
def tw15560294316089916434 : True := trivial
def tw2951486255847992690 : True := trivial
def tw17528258088376854630 : True := trivial
def tw6004533443673955352 : True := trivial
def tw4936483359421988267 : True := trivial
def tw7692015426583400375 : True := trivial
def tw17689815210351038181 : True := trivial
def tw9403893547819035513 : True := trivial
def tw6494209642225098961 : True := trivial
def tw14386061602966655976 : True := trivial
def tw17238727255148662236 : True := trivial
def tw9281714027785469542 : True := trivial
def tw396607853666888187 : True := trivial
def tw12172078356533094185 : True := trivial
def tw5631866682500559305 : True := trivial
def tw17952232172894374647 : True := trivial
def tw8621552478659558853 : True := trivial
def tw709596357894409271 : True := trivial
def tw16061558487514299878 : True := trivial
def tw16712280214892120555 : True := trivial
def tw17344496456200356348 : True := trivial
def tw11740888236361828772 : True := trivial
def tw12467908281193277617 : True := trivial
def tw9504726810853072989 : True := trivial
def tw10054680653034459469 : True := trivial
def tw2177526886768309524 : True := trivial
def tw14971970265804392439 : True := trivial
def tw11985326045990495214 : True := trivial
def tw1473606383895896030 : True := trivial
def tw13505292571300825877 : True := trivial
def tw13180171748994924942 : True := trivial
def tw15983881195869794717 : True := trivial
def tw10162165587724738490 : True := trivial
def tw16947794391021106201 : True := trivial
def tw11186114360453789277 : True := trivial
def tw12521286054843171862 : True := trivial
def tw8047484207015712433 : True := trivial
def tw1702518465993881591 : True := trivial
def tw8660564949798631510 : True := trivial
def tw12756110868346105713 : True := trivial
def tw10320149354908582346 : True := trivial
def tw6352068108215129767 : True := trivial
def tw7939191629104652522 : True := trivial
def tw17744161884188899454 : True := trivial
def tw12290603225136948437 : True := trivial
def tw13832561777376501589 : True := trivial
def tw12801935338216382802 : True := trivial
def tw2283851925072248500 : True := trivial
def tw2614552105083212210 : True := trivial
def tw7987952416473584550 : True := trivial
def tw11882390891050353253 : True := trivial
def tw16296994325663420285 : True := trivial
def tw10942035263794033107 : True := trivial
def tw17774800907425398282 : True := trivial
def tw4745058802850807175 : True := trivial
def tw9130231340562597213 : True := trivial
def tw12373942023272657475 : True := trivial
def tw13526986893379352335 : True := trivial
def tw11882691865914478047 : True := trivial
def tw1709990360310786235 : True := trivial
def tw8400853705098224536 : True := trivial
def tw13775618736486673144 : True := trivial
def tw16931023410199005296 : True := trivial
def tw10488469094317268055 : True := trivial
def tw14126943448341045398 : True := trivial
def tw1735007293439650466 : True := trivial
def tw10220936982206179058 : True := trivial
def tw5315457868209417068 : True := trivial
def tw3936911997976010522 : True := trivial
def tw9967523689320858472 : True := trivial
def tw11240371444547759776 : True := trivial
def tw11277413387252134812 : True := trivial
def tw13559156169165276386 : True := trivial
def tw15468230090516036684 : True := trivial
def tw5976474108018559520 : True := trivial
def tw9249553802937061307 : True := trivial
def tw13825118182715472314 : True := trivial
def tw9979284746773624096 : True := trivial
def tw2351620601788327285 : True := trivial
def tw921073385446354868 : True := trivial
def tw13903129631018457399 : True := trivial
def tw6019396324639902685 : True := trivial
def tw16349216596472256690 : True := trivial
def tw5409626021718379832 : True := trivial
def tw12475847535787081790 : True := trivial
def tw11374540355606638709 : True := trivial
def tw17679261114430710190 : True := trivial
def tw604125905580780024 : True := trivial
def tw5425108064043664162 : True := trivial
def tw13317431791736044220 : True := trivial
def tw12680008329806859932 : True := trivial
def tw441327347791068078 : True := trivial
def tw4888971946704870899 : True := trivial
def tw12064662690394058248 : True := trivial
def tw4748654258956052638 : True := trivial
def tw494703546511474797 : True := trivial
def tw7152963490469929944 : True := trivial
def tw1210750091971509897 : True := trivial
def tw8032284361305108907 : True := trivial
def tw15917270771655136656 : True := trivial
def tw6306848275597927006 : True := trivial
def tw6426273055680023932 : True := trivial
def tw4278798014809849964 : True := trivial
def tw5808504871726460516 : True := trivial
def tw16548257151911338427 : True := trivial
def tw14223099787259518943 : True := trivial
def tw16172117957621229858 : True := trivial
def tw14920864480051887209 : True := trivial
def tw10459078713815827633 : True := trivial
def tw14096952598973939363 : True := trivial
def tw8537084889766193716 : True := trivial
def tw3880421473898291048 : True := trivial
def tw14763704009068828915 : True := trivial
def tw9787396351842916947 : True := trivial
def tw15278061642289888581 : True := trivial
def tw17101871299007795629 : True := trivial
def tw8100131811155266147 : True := trivial
def tw5112092159240331263 : True := trivial
def tw1136578752053086225 : True := trivial
def tw2422670821966735624 : True := trivial
def tw17000155066101142889 : True := trivial
def tw16648231224745350325 : True := trivial
def tw13251161224904053152 : True := trivial
def tw12392613427281201732 : True := trivial
def tw2193789692954389824 : True := trivial
def tw18286265847491885052 : True := trivial
def tw17552769576498331613 : True := trivial
def tw11886712299990487620 : True := trivial
def tw7581816359482902497 : True := trivial
def tw7503421922109321716 : True := trivial
def tw7619357645376055252 : True := trivial
def tw16736774653958514946 : True := trivial
def tw17804436615005485693 : True := trivial
def tw5111356299099525756 : True := trivial
def tw14147070716488854324 : True := trivial
def tw10422997342228622526 : True := trivial
def tw10190238754879171395 : True := trivial
def tw7802139600951554647 : True := trivial
def tw5454020852787923972 : True := trivial
def tw2902314222560053993 : True := trivial
def tw16873187988247708562 : True := trivial
def tw7623123461514372928 : True := trivial
def tw9206804518496725263 : True := trivial
def tw2942186188335042618 : True := trivial
def tw12147853050474103436 : True := trivial
def tw10424941004445345732 : True := trivial
def tw18310272354389090212 : True := trivial
def tw7397068168572129948 : True := trivial
def tw7231524377534056507 : True := trivial
def tw8708707556590381134 : True := trivial
def tw15953636156762407896 : True := trivial
def tw5512085447785999860 : True := trivial
def tw2011108890870493169 : True := trivial
def tw1257650718994608863 : True := trivial
def tw17053399431547273430 : True := trivial
def tw7344376507651311505 : True := trivial
def tw13775948489486326510 : True := trivial
def tw15746797476787084713 : True := trivial
def tw2110851967338885185 : True := trivial
def tw9948023125614773506 : True := trivial
def tw8172093975534723114 : True := trivial
def tw4904739604578439355 : True := trivial
def tw5237683014460396459 : True := trivial
def tw6517296806544964722 : True := trivial
def tw5565278806992967083 : True := trivial
def tw4318056027017086478 : True := trivial
def tw2637321087531721449 : True := trivial
def tw10299114407867686024 : True := trivial
def tw9673203406766833760 : True := trivial
def tw17020626225693228618 : True := trivial
def tw1393629259489396696 : True := trivial
def tw18085928063996046769 : True := trivial
def tw7976981314885711489 : True := trivial
def tw10727534119236929211 : True := trivial
def tw16417370028952169744 : True := trivial
def tw1495452243305574823 : True := trivial
def tw468927808445617700 : True := trivial
def tw6845722864549821247 : True := trivial
def tw8253183596043897158 : True := trivial
def tw1343220272319300887 : True := trivial
def tw16039550372008468697 : True := trivial
def tw878741703135273975 : True := trivial
def tw7725732167140030384 : True := trivial
def tw10437857706515408459 : True := trivial
def tw16987768009889223052 : True := trivial
def tw13316322371389871543 : True := trivial
def tw13580328829973926956 : True := trivial
def tw18055523925428093715 : True := trivial
def tw12825359941727978080 : True := trivial
def tw12231938473387714870 : True := trivial
def tw4205239288364317433 : True := trivial
def tw7431591544816029494 : True := trivial
def tw7722786208247554836 : True := trivial
def tw18386054884457128365 : True := trivial
def tw11543483234476862875 : True := trivial
def tw8017206721242287953 : True := trivial
def tw13650077344797733491 : True := trivial
def tw2425732281115038942 : True := trivial
def tw15059462757989803610 : True := trivial
def tw7415527329543665180 : True := trivial
def tw13335737130258781183 : True := trivial
def tw9494442584210622748 : True := trivial
def tw178441218286455893 : True := trivial
def tw836937509819170367 : True := trivial
def tw11791781273731428799 : True := trivial
def tw2968979199505139716 : True := trivial
def tw2081907255765424308 : True := trivial
def tw7785048605280242668 : True := trivial
def tw7258234576362860186 : True := trivial
def tw10679802619454419210 : True := trivial
def tw17954471519018878134 : True := trivial
def tw13824066866405244608 : True := trivial
def tw6926869812289958463 : True := trivial
def tw1763209079605825380 : True := trivial
def tw10015664371746657536 : True := trivial
def tw6132934438814934913 : True := trivial
def tw15598799602833418400 : True := trivial
def tw7193132216969221516 : True := trivial
def tw12224578244612797663 : True := trivial
def tw9441929855208494598 : True := trivial
def tw1567306401904104524 : True := trivial
def tw15707254079968783108 : True := trivial
def tw17497748084772794779 : True := trivial
def tw2596490424804607233 : True := trivial
def tw11334522289143818824 : True := trivial
def tw14429761541681541167 : True := trivial
def tw12734952128020822468 : True := trivial
def tw12773889961810623364 : True := trivial
def tw4504083675297759592 : True := trivial
def tw13142473509193869113 : True := trivial
def tw17092346156524964356 : True := trivial
def tw4183877074749451670 : True := trivial
def tw4858009861420398278 : True := trivial
def tw14735856577487844489 : True := trivial
def tw11793402487394874009 : True := trivial
def tw17026713947507217902 : True := trivial
def tw16413963553889246368 : True := trivial
def tw8459811325457737761 : True := trivial
def tw16434552024888161954 : True := trivial
def tw17489297760438914396 : True := trivial
def tw14981143343336467331 : True := trivial
def tw3735880847841164279 : True := trivial
def tw5820445615435017067 : True := trivial
def tw8385612375773290118 : True := trivial
def tw13915792640404377917 : True := trivial
def tw4415156731858741558 : True := trivial
def tw6763175845377733647 : True := trivial
def tw151948405760981731 : True := trivial
def tw39304363184273710 : True := trivial
def tw7074542288925894100 : True := trivial
def tw10706342367453228570 : True := trivial
def tw3436264866546951355 : True := trivial
def tw15168306246750427876 : True := trivial
def tw3898955781451842834 : True := trivial
def tw17293025244588862065 : True := trivial
def tw329819065673440000 : True := trivial
def tw347637069881736656 : True := trivial
def tw16048576614497160029 : True := trivial
def tw4525517667737911620 : True := trivial
def tw12835720964997663042 : True := trivial
def tw9494522922242909482 : True := trivial
def tw14844032806303022069 : True := trivial
def tw2477403985310549397 : True := trivial
def tw10823345740709935493 : True := trivial
def tw11625766737575182897 : True := trivial
def tw5239514047221421364 : True := trivial
def tw14530364306720264245 : True := trivial
def tw14427280190107063356 : True := trivial
def tw6640512235465148044 : True := trivial
def tw7198390536060210744 : True := trivial
def tw563124612126607214 : True := trivial
def tw5375599384465405078 : True := trivial
def tw1258299570235058372 : True := trivial
def tw16148938690769344688 : True := trivial
def tw894076849921957361 : True := trivial
def tw6841013123486265825 : True := trivial
def tw10477944011785391905 : True := trivial
def tw16180483070735683940 : True := trivial
def tw11247292372684054026 : True := trivial
def tw6270750267266631401 : True := trivial
def tw18360803836614840259 : True := trivial
def tw16478175792137940203 : True := trivial
def tw17913803186225011329 : True := trivial
def tw3797612339304411714 : True := trivial
def tw16176465441171805009 : True := trivial
def tw10949549008867353141 : True := trivial
def tw15207642765257501584 : True := trivial
def tw6648157844845288826 : True := trivial
def tw11612774425778712842 : True := trivial
def tw8884829309344957576 : True := trivial
def tw12605464377752040069 : True := trivial
def tw2195850606477349134 : True := trivial
def tw12936123109605684276 : True := trivial
def tw13549102714576105579 : True := trivial
def tw4949472239710415697 : True := trivial
def tw325292655437039998 : True := trivial
def tw4287028408620065468 : True := trivial
def tw7530038393340303142 : True := trivial
def tw15663404670287596823 : True := trivial
def tw1377046205977697930 : True := trivial
def tw11543547407058413889 : True := trivial
def tw16709561168930353506 : True := trivial
def tw2506853364499732696 : True := trivial
def tw4691851695120001716 : True := trivial
def tw15965015591981942514 : True := trivial
def tw7299951869573292228 : True := trivial
def tw13809362725867891129 : True := trivial
def tw1775931318481535838 : True := trivial
def tw15002499799622109627 : True := trivial
def tw16655555454665732581 : True := trivial
def tw9336959277828583989 : True := trivial
def tw117213463901210413 : True := trivial
def tw16758808235637498351 : True := trivial
def tw4613930686462287906 : True := trivial
def tw4292500188555128830 : True := trivial
def tw13708526812355648923 : True := trivial
def tw15900120412870309639 : True := trivial
def tw5646442142991981755 : True := trivial
def tw15562837088269578035 : True := trivial
def tw11495947367809530248 : True := trivial
def tw1379578315556383370 : True := trivial
def tw1574873078441994576 : True := trivial
def tw2654063002063994258 : True := trivial
def tw4275521005467322725 : True := trivial
def tw4600395469775339435 : True := trivial
def tw15403262215152972473 : True := trivial
def tw8552093678088426289 : True := trivial
def tw12635297910168745909 : True := trivial
def tw3777755567575978352 : True := trivial
def tw2086742330180473908 : True := trivial
def tw2674190319118857908 : True := trivial
def tw7585139358526817783 : True := trivial
def tw7393211689510517793 : True := trivial
def tw5792233857972229453 : True := trivial
def tw2943762135390696609 : True := trivial
def tw11203771085518904412 : True := trivial
def tw2447775223705975068 : True := trivial
def tw17231944260260642093 : True := trivial
end PySem.W.Fast
open PySem PySem.W PySem.W.X PyProof.Rows
set_option Elab.async false
set_option maxRecDepth 100000
set_option maxHeartbeats 0

namespace Mine

noncomputable def live : Obj → Option Obj
  | ⟨_, _, .freed, _⟩ => none
  | o => some o

noncomputable def pick : Nat → List Addr → List Obj → List (Option Obj)
  | _, _, [] => []
  | _, [], _ :: _ => []
  | i, a :: as, o :: os => match Nat.beq a i with
    | true => live o :: pick (i + 1) as os
    | false => pick (i + 1) (a :: as) os

theorem sub_step (q a : Nat) (h : a + 1 ≤ q) : q - a = (q - (a + 1)) + 1 := by omega
theorem pick_ok : ∀ (os : List Obj) (i : Nat) (as : List Addr) (vs : List Obj), pick i as os = vs.map some → as.length = vs.length → ∀ p ∈ as.zip vs, i ≤ p.1 ∧ (os[p.1 - i]?).bind live = some p.2
  | [], i, as, vs, h, hl, p, hp => by
    cases as with
    | nil => simp at hp
    | cons a as =>
      cases vs with
      | nil => simp at hl
      | cons v vs => simp [pick] at h
  | o :: os, i, [], vs, h, hl, p, hp => by simp at hp
  | o :: os, i, a :: as, vs, h, hl, p, hp => by
    unfold pick at h
    cases hb : Nat.beq a i with
    | true =>
      rw [hb] at h
      have ha : a = i := Nat.eq_of_beq_eq_true hb
      subst ha
      cases vs with
      | nil => simp at hl
      | cons v vs =>
        simp only [List.map_cons, List.cons.injEq] at h
        rw [List.zip_cons_cons] at hp
        rcases List.mem_cons.mp hp with rfl | hp
        · refine ⟨Nat.le_refl _, ?_⟩
          simp [h.1]
        · have z := pick_ok os (a + 1) as vs h.2 (by simpa using hl) p hp
          refine ⟨by omega, ?_⟩
          rw [sub_step p.1 a z.1, List.getElem?_cons_succ]
          exact z.2
    | false =>
      rw [hb] at h
      have z := pick_ok os (i + 1) (a :: as) vs h hl p hp
      refine ⟨by omega, ?_⟩
      rw [sub_step p.1 i z.1, List.getElem?_cons_succ]
      exact z.2

theorem get_live {h : Heap} {a : Addr} {o : Obj} (e : (h.objs.toList[a]?).bind live = some o) : h.get? a = some o := by
  unfold Heap.get?
  rw [Array.getElem?_toList] at e
  cases q : h.objs[a]? with
  | none => rw [q] at e; cases e
  | some o₁ =>
    rw [q] at e
    have e' : live o₁ = some o := e
    obtain ⟨c, d, dt, sl⟩ := o₁
    cases dt <;> first | exact e' | cases e'

noncomputable def hook (K : Params → Frag) (as : List Addr) (e : ∀ P, as = (K P).map (·.1)) (ts : List Addr) : Hook where
  α := List (Option Obj) × List (Option Obj)
  obs := fun s => (pick 0 as s.heap.objs.toList, ts.map s.heap.get?)
  val := fun w => ((K w.params).map fun p => some p.2, ts.map fun _ => some (tabObj #[]))
  says := fun w h => InK K w h ∧ ∀ P ∈ ts, h.get? P = some (tabObj #[])
  of := fun w s x => by
    have x1 := (Prod.mk.inj x).1
    refine ⟨?_, List.map_inj_left.mp (Prod.mk.inj x).2⟩
    refine Frag.in_of (as := as) (e _) ?_
    have hl : as.length = ((K w.params).map (·.2)).length := by rw [e w.params, List.length_map, List.length_map]
    have x1' : pick 0 as s.heap.objs.toList = ((K w.params).map (·.2)).map some := by rw [x1, List.map_map]; rfl
    have z := pick_ok _ _ _ _ x1' hl
    rw [e w.params, List.map_map]
    refine List.map_inj_left.mpr fun p hp => ?_
    have hz : (p.1, p.2) ∈ as.zip ((K w.params).map (·.2)) := by
      rw [e w.params]
      have : ((K w.params).map (·.1)).zip ((K w.params).map (·.2)) = K w.params := by
        rw [List.zip_map', List.map_id'']
        intro a; rfl
      rw [this]; exact hp
    exact get_live (by have := (z _ hz).2; simpa using this)
  keeps := fun w h h' x k => ⟨InK.keeps w h h' x.1 k, fun P hP => k _ _ (x.2 P hP)⟩
end Mine

local macro_rules
  | `(tactic| o_head ($f:ident $k:term $a:term $p:term $t:term)) => do
    if f.getId.eraseMacroScopes == `kmHook then `(tactic| o_head (Mine.hook $k $a $p $t)) else Lean.Macro.throwUnsupported

namespace Mine
open_top hd for PySem.Challenge.rw_rg0271_01
end Mine

set_option rowWalk.seconds 0
set_option genInjectivity false
set_option genSizeOf false
open PySem PySem.W PySem.W.X PyProof.Rows PySem.Calls PyProof.V PySem.Spec
namespace Mine
noncomputable abbrev PG : Program := PySem.Challenge.pw_rg0271_01

noncomputable abbrev LOOSE : List PySem.Str := [Str.ofString "GateError", Str.ofString "ArrayMap", Str.ofString "HashMap", Str.ofString "BUSY", Str.ofString "DISCARD", Str.ofString "TrieMap", Str.ofString "Map"]
noncomputable abbrev GL : List PySem.Str := LOOSE ++ (recsOf hd.view_39).map (·.name) ++ (litsOf hd.view_39).map (·.1) ++ (clssOf hd.view_39 LOOSE).map (·.name)

noncomputable def GP : Program := { (default : Program) with main := { (default : Module) with body := [] } }
theorem ghost_seer {h₁ : Heap} {tabs : List (Addr × Addr)} (hT : TabsAt tabs h₁) (x : h₁.NoSeer) : (ghostOf h₁ tabs).NoSeer where
  statics := let ⟨mc, a, b⟩ := x.statics; ⟨mc, ghost_ns hT a, b⟩
  mods := let ⟨mc, a, b⟩ := x.mods; ⟨mc, ghost_ns hT a, b⟩
  imp := let ⟨mc, a, b⟩ := x.imp; ⟨mc, ghost_ns hT a, b⟩
  main := let ⟨mg, bm, ob, a, b, c, d, e⟩ := x.main; ⟨mg, bm, ob, ghost_ns hT a, b, ghost_get hT c (fun q => by rw [q] at d; cases d), d, e⟩
theorem ghost_own {h₁ : Heap} {tabs : List (Addr × Addr)} {mg mb : PySem.Str → Option Value} {mean : ExcName → Option Value} (hT : TabsAt tabs h₁) (T : Top hd.view_39 LOOSE mean mg mb h₁) : Top GP GL mean mg mb (ghostOf h₁ tabs) :=
  have Z := ghost_top hT T
  { g := Z.g, b := Z.b, nolimit := Z.nolimit, nodigits := Z.nodigits
    fn := fun d hd => absurd (show d ∈ ([] : List DefRec) from hd) List.not_mem_nil
    own := fun o ho => absurd (show o ∈ ([] : List OwnSpec) from ho) List.not_mem_nil
    const := fun x d e => by cases (show (none : Option PyData) = some d from e)
    free := fun x h1 h2 _ _ _ => Z.free x h1 h2 (fun q => absurd (show x ∈ ([] : List PySem.Str) from q) List.not_mem_nil) (fun q => absurd (show x ∈ ([] : List PySem.Str) from q) List.not_mem_nil) fun q => absurd (show x ∈ ([] : List PySem.Str) from q) List.not_mem_nil
    builtins := Z.builtins
    tab := fun d hd => absurd (show d ∈ ([] : List DefRec) from hd) List.not_mem_nil
    bmain := Z.bmain
    seer := fun _ => ghost_seer hT (T.seer (by decide +kernel)) }

theorem UpdF.again {d : Addr} {o o' : Obj} {l : List (Addr × Obj)} {g : Obj → List (Addr × Obj)} (h : UpdF d o l g) : UpdF d o' (g o') g := by
  induction h with
  | head h => exact .head h
  | tail h _ ih => exact .tail h ih

theorem draw_ok (w : PySem.World) : DrawOk PG w (hd.heap_39 w.params) GP GL := by
  intro A cn cs a ccd cl outer A₀ base h₀ L m news s Q E P x y tx ty tm c g many B F X N T hk hA hh hd hu hU hx hx2 hy hy2 hm hret
  obtain ⟨mean, mg, mb, T⟩ := T
  have z1 := draw_mod (x := x) hm
  have z2 := draw_div hm hx hx2
  have z3 := draw_pow hy hy2
  have z4 := draw_mod (x := (2066 * (y + 1) + 8269) ^ 11) hm
  have z5 := draw_div hm z3.1 z3.2
  have r0 : x = 0 → ∀ td tx' ty' c' h' tk', Fr h₀ L h' m → News h₀ L h' (g (pen (((2066 * (y + 1) + 8269) ^ 11).fdiv many) (y + 1) tx' ty' c')) → Q (.int (((2066 * (y + 1) + 8269) ^ 11).fmod many) td) { s with heap := h', toks := tk' } := fun e => by
    have := hret
    simp only [dgt, nxt, dX, e, if_true] at this
    exact fun td tx' ty' c' h' tk' f n => this td tx' ty' c' h' tk' z4.1 z4.2 z5.1 z5.2 f n
  have r1 : x ≠ 0 → ∀ td tx' ty' c' h' tk', Fr h₀ L h' m → News h₀ L h' (g (pen (x.fdiv many) y tx' ty' c')) → Q (.int (x.fmod many) td) { s with heap := h', toks := tk' } := fun e => by
    have := hret
    simp only [dgt, nxt, dX, if_neg e] at this
    exact fun td tx' ty' c' h' tk' f n => this td tx' ty' c' h' tk' z1.1 z1.2 z2.1 z2.2 f n
  clear hx2 hret
  refine wp_le (B := ktrTop 897 8940 A.guards cn cs L a ccd cl outer) ?_ hh (show A.depth ≤ 897 by (first | lia | omega)) hA rfl (show A.units ≤ 8940 by (first | lia | omega))
  clear hA hh hd hu
  refine wpAny_call ?_
  k_dflt ((refine' code_def ?k1 ?k2 ?k3 ?k4 ?k5 ?kA ?kF ?kK ?k6 ?k7 ?k8 ?k9 ?kB ?_ ?c2 ?c3 ?c4 ?c5; (case kA => exact rfl); (case kF => exact rfl); (case kK => assumption); (case k1 => k_asm); (case k2 => k_asm); (case k3 => k_asm); (case k4 => k_asm); (case k5 => k_asm); (case k6 => k_is); (case k7 => k_is); (case k8 => ktr_room); (case k9 => first | exact BindsTo.of_eq rfl | exact binds_K (by k_in) rfl (by k_is) rfl rfl rfl); (case c5 => decide); (case kB => exact locs rfl); (case c2 => exact rfl); (case c3 => exact rfl); (case c4 => exact rfl); k_whole; intro g' L' h' FG' F' N' B' X' T'; (try dsimp only); (try k_fold)))
  repeat' (first | (k_unfold; (try dsimp only)) | (k_end; wrow_close) | (k_here; (with_reducible show wpAny _ _ (subscriptTail _ _ (Value.ref _) (Value.int _ _)) _ _ _); k_dflt (refine' Mine.ll_sub ?k1 ?k2 ?k3 ?k4 ?k5 ?_ ?k6; (case k1 => k_asm); (case k2 => (((with_reducible show (_ : Addr × Obj) ∈ (_ : List (Addr × Obj))); (repeat' (first | exact List.Mem.head _ | (with_reducible assumption) | refine' List.mem_cons_of_mem _ ?_ | exact Mine.UpdF.mem (by with_reducible assumption) | exact Mine.UpdF.mem (Mine.UpdF.again (by with_reducible assumption)))); done))); (case k3 => decide); (case k4 => decide); (case k5 => exact rfl); (case k6 => with_unfolding_all rfl); k_whole)) | (k_here; k_dflt (first | (refine' Mine.ll_set ?k1 ?k2 ?k3 ?k4 ?k5 ?k6 ?_; (case k1 => k_asm); (case k2 => k_asm); (case k3 => (first | exact Mine.UpdF.upd (by assumption) | exact Mine.UpdF.upd (Mine.UpdF.again (by assumption)))); (case k4 => decide); (case k5 => exact rfl); (case k6 => decide); k_whole) | (refine' Mine.ll_set ?k1 ?k2 ?k3 ?k4 ?k5 ?k6 ?_; (case k1 => k_asm); (case k2 => exact Mine.nw_tail (by k_asm)); (case k3 => (first | exact Mine.UpdF.upd (by assumption) | exact Mine.UpdF.upd (Mine.UpdF.again (by assumption)))); (case k4 => decide); (case k5 => exact rfl); (case k6 => decide); k_whole)); intro h' F' N'; (try k_sweep)) | walk1 | (dsimp only; walk1) | (leave1; try dsimp only) | fail "no step")
  · exact r0 (by assumption) _ _ _ _ _ _ (by assumption) (by assumption)
  · exact r1 (by assumption) _ _ _ _ _ _ (by assumption) (by assumption)

noncomputable def tgl : List (PySem.Str × SV) := [(Str.ofString "bytes", .ty "bytes"), (Str.ofString "range", .ty "range"), (Str.ofString "len", .bi "len"), (Str.ofString "MapError", .obj 59), (Str.ofString "MOST_KEY", .int (.lit (512))), (Str.ofString "KINDS", .str (Str.ofString "array hash lru rows queue stack trie ring")), (Str.ofString "check_key_width", .obj 101), (Str.ofString "is_power", .obj 94), (Str.ofString "MAP_STEP", .int (.lit (1048576))), (Str.ofString "stride_of", .obj 87), (Str.ofString "PROCESSORS", .int (.lit (4))), (Str.ofString "check_widths", .obj 108), (Str.ofString "MOST_MAPS", .int (.lit (64))), (Str.ofString "isinstance", .bi "isinstance"), (Str.ofString "bytearray", .ty "bytearray"), (Str.ofString "EINVAL", .int (.lit (22))), (Str.ofString "ANY", .int (.lit (0))), (Str.ofString "tuple", .ty "tuple"), (Str.ofString "NO_SUCH", .int (.lit (1))), (Str.ofString "ONE_THERE", .int (.lit (2))), (Str.ofString "EEXIST", .int (.lit (17))), (Str.ofString "ENOENT", .int (.lit (2))), (Str.ofString "Map", .obj 293), (Str.ofString "from_little", .obj 80), (Str.ofString "E2BIG", .int (.lit (7))), (Str.ofString "sorted", .bi "sorted"), (Str.ofString "little", .obj 73), (Str.ofString "FNV_BASIS", .int (.lit (2166136261))), (Str.ofString "FNV_PRIME", .int (.lit (16777619))), (Str.ofString "LOW_32", .int (.lit (4294967295))), (Str.ofString "bucket_count", .obj 443), (Str.ofString "hash_of", .obj 436), (Str.ofString "flags_answer", .obj 304), (Str.ofString "max", .bi "max"), (Str.ofString "HashMap", .obj 575), (Str.ofString "REPLACE", .int (.lit (2))), (Str.ofString "OPEN", .str (Str.ofString "open")), (Str.ofString "HEAD_WIDTH", .int (.lit (8))), (Str.ofString "padded_width", .obj 791), (Str.ofString "GONE", .str (Str.ofString "gone")), (Str.ofString "MOST_RING", .int (.lit (65536))), (Str.ofString "ROOM", .int (.lit (524288))), (Str.ofString "ROOM_STEP", .int (.lit (196608))), (Str.ofString "Record", .obj 843), (Str.ofString "WAKE_FLAGS", .int (.lit (3))), (Str.ofString "EAGAIN", .int (.lit (11))), (Str.ofString "READY", .str (Str.ofString "ready")), (Str.ofString "LENGTH_WIDTH", .int (.lit (4))), (Str.ofString "min", .bi "min"), (Str.ofString "bit_count", .obj 68), (Str.ofString "NO_NODE", .int (.lit (-1))), (Str.ofString "NO_SLOT", .int (.lit (-1))), (Str.ofString "int", .ty "int"), (Str.ofString "shared_length", .obj 1039), (Str.ofString "bit_from_top", .obj 1032), (Str.ofString "key_parts", .obj 1018), (Str.ofString "TrieNode", .obj 1084), (Str.ofString "cut_bits", .obj 1025), (Str.ofString "ENOSPC", .int (.lit (28))), (Str.ofString "make_key", .obj 1011), (Str.ofString "ArrayMap", .obj 384), (Str.ofString "RowsMap", .obj 427), (Str.ofString "LruMap", .obj 646), (Str.ofString "TrieMap", .obj 1285), (Str.ofString "RingMap", .obj 1002), (Str.ofString "QueueMap", .obj 782), (Str.ofString "abs", .bi "abs"), (Str.ofString "divmod", .bi "divmod"), (Str.ofString "_law_draw", .obj 1308), (Str.ofString "_law_octets", .obj 1315), (Str.ofString "list", .ty "list"), (Str.ofString "_law_foul", .obj 1329), (Str.ofString "_law_heard", .obj 1336), (Str.ofString "_law_pen", .obj 1301), (Str.ofString "_law_key", .obj 1322), (Str.ofString "make_map", .obj 1294), (Str.ofString "_law_good_right", .obj 1343), (Str.ofString "_law_foul_right", .obj 1350), (Str.ofString "_law_rows_right", .obj 1357)]
noncomputable def tct : List (Nat × List (PySem.Str × At)) := [(293, [(Str.ofString "check_key", .m 129), (Str.ofString "check_value", .m 136), (Str.ofString "lookup", .m 144), (Str.ofString "update", .m 152), (Str.ofString "delete", .m 173), (Str.ofString "push", .m 180), (Str.ofString "pop", .m 187), (Str.ofString "peek", .m 194), (Str.ofString "keys", .m 201), (Str.ofString "next_key", .m 208), (Str.ofString "peer", .m 215), (Str.ofString "value", .m 222), (Str.ofString "slot_count", .m 236), (Str.ofString "lay", .m 257), (Str.ofString "load", .m 264), (Str.ofString "parts", .m 283), (Str.ofString "told", .m 290), (Str.ofString "key_width", .a), (Str.ofString "kind", .a), (Str.ofString "most", .a), (Str.ofString "number", .a), (Str.ofString "value_width", .a), (Str.ofString "values", .a)]),
  (384, [(Str.ofString "check_key", .m 129), (Str.ofString "check_value", .m 136), (Str.ofString "lookup", .m 347), (Str.ofString "update", .m 355), (Str.ofString "delete", .m 362), (Str.ofString "push", .m 180), (Str.ofString "pop", .m 187), (Str.ofString "peek", .m 194), (Str.ofString "keys", .m 367), (Str.ofString "next_key", .m 374), (Str.ofString "peer", .m 339), (Str.ofString "value", .m 222), (Str.ofString "slot_count", .m 236), (Str.ofString "lay", .m 257), (Str.ofString "load", .m 264), (Str.ofString "parts", .m 283), (Str.ofString "told", .m 290), (Str.ofString "index", .m 325), (Str.ofString "slot", .m 332), (Str.ofString "key_width", .a), (Str.ofString "kind", .a), (Str.ofString "most", .a), (Str.ofString "number", .a), (Str.ofString "value_width", .a), (Str.ofString "values", .a)]),
  (427, [(Str.ofString "check_key", .m 129), (Str.ofString "check_value", .m 136), (Str.ofString "lookup", .m 347), (Str.ofString "update", .m 355), (Str.ofString "delete", .m 362), (Str.ofString "push", .m 180), (Str.ofString "pop", .m 187), (Str.ofString "peek", .m 194), (Str.ofString "keys", .m 367), (Str.ofString "next_key", .m 374), (Str.ofString "peer", .m 339), (Str.ofString "value", .m 222), (Str.ofString "slot_count", .m 400), (Str.ofString "lay", .m 257), (Str.ofString "load", .m 264), (Str.ofString "parts", .m 417), (Str.ofString "told", .m 290), (Str.ofString "index", .m 325), (Str.ofString "slot", .m 407), (Str.ofString "row", .m 412), (Str.ofString "key_width", .a), (Str.ofString "kind", .a), (Str.ofString "most", .a), (Str.ofString "number", .a), (Str.ofString "value_width", .a), (Str.ofString "values", .a)]),
  (575, [(Str.ofString "check_key", .m 129), (Str.ofString "check_value", .m 136), (Str.ofString "lookup", .m 477), (Str.ofString "update", .m 513), (Str.ofString "delete", .m 534), (Str.ofString "push", .m 180), (Str.ofString "pop", .m 187), (Str.ofString "peek", .m 194), (Str.ofString "keys", .m 539), (Str.ofString "next_key", .m 553), (Str.ofString "peer", .m 469), (Str.ofString "value", .m 222), (Str.ofString "slot_count", .m 236), (Str.ofString "lay", .m 257), (Str.ofString "load", .m 264), (Str.ofString "parts", .m 283), (Str.ofString "told", .m 290), (Str.ofString "bucket", .m 462), (Str.ofString "used", .m 484), (Str.ofString "count", .m 491), (Str.ofString "free_slot", .m 498), (Str.ofString "room", .m 505), (Str.ofString "link", .m 520), (Str.ofString "unlink", .m 527), (Str.ofString "in_order", .m 546), (Str.ofString "longest", .m 572), (Str.ofString "buckets", .a), (Str.ofString "key_by_slot", .a), (Str.ofString "key_width", .a), (Str.ofString "kind", .a), (Str.ofString "most", .a), (Str.ofString "number", .a), (Str.ofString "value_width", .a), (Str.ofString "values", .a)]),
  (646, [(Str.ofString "check_key", .m 129), (Str.ofString "check_value", .m 136), (Str.ofString "lookup", .m 477), (Str.ofString "update", .m 513), (Str.ofString "delete", .m 534), (Str.ofString "push", .m 180), (Str.ofString "pop", .m 187), (Str.ofString "peek", .m 194), (Str.ofString "keys", .m 539), (Str.ofString "next_key", .m 553), (Str.ofString "peer", .m 469), (Str.ofString "value", .m 222), (Str.ofString "slot_count", .m 236), (Str.ofString "lay", .m 257), (Str.ofString "load", .m 264), (Str.ofString "parts", .m 629), (Str.ofString "told", .m 290), (Str.ofString "bucket", .m 462), (Str.ofString "used", .m 598), (Str.ofString "count", .m 491), (Str.ofString "free_slot", .m 498), (Str.ofString "room", .m 605), (Str.ofString "link", .m 520), (Str.ofString "unlink", .m 619), (Str.ofString "in_order", .m 546), (Str.ofString "longest", .m 572), (Str.ofString "eldest", .m 612), (Str.ofString "by_age", .m 624), (Str.ofString "buckets", .a), (Str.ofString "key_by_slot", .a), (Str.ofString "key_width", .a), (Str.ofString "kind", .a), (Str.ofString "most", .a), (Str.ofString "number", .a), (Str.ofString "order", .a), (Str.ofString "value_width", .a), (Str.ofString "values", .a)]),
  (782, [(Str.ofString "check_key", .m 129), (Str.ofString "check_value", .m 136), (Str.ofString "lookup", .m 144), (Str.ofString "update", .m 152), (Str.ofString "delete", .m 173), (Str.ofString "push", .m 711), (Str.ofString "pop", .m 732), (Str.ofString "peek", .m 725), (Str.ofString "keys", .m 201), (Str.ofString "next_key", .m 208), (Str.ofString "peer", .m 215), (Str.ofString "value", .m 222), (Str.ofString "slot_count", .m 758), (Str.ofString "lay", .m 257), (Str.ofString "load", .m 264), (Str.ofString "parts", .m 779), (Str.ofString "told", .m 290), (Str.ofString "room", .m 669), (Str.ofString "onward", .m 676), (Str.ofString "back", .m 683), (Str.ofString "count", .m 690), (Str.ofString "is_empty", .m 697), (Str.ofString "is_full", .m 704), (Str.ofString "next_slot", .m 718), (Str.ofString "slots_in_turn", .m 739), (Str.ofString "entries", .m 744), (Str.ofString "slots", .m 751), (Str.ofString "head", .a), (Str.ofString "key_width", .a), (Str.ofString "kind", .a), (Str.ofString "most", .a), (Str.ofString "number", .a), (Str.ofString "tail", .a), (Str.ofString "value_width", .a), (Str.ofString "values", .a)]),
  (843, [(Str.ofString "end", .m 812), (Str.ofString "head", .m 819), (Str.ofString "told", .m 833), (Str.ofString "octets", .a), (Str.ofString "position", .a), (Str.ofString "way", .a)]),
  (1002, [(Str.ofString "check_key", .m 129), (Str.ofString "check_value", .m 136), (Str.ofString "lookup", .m 144), (Str.ofString "update", .m 152), (Str.ofString "delete", .m 173), (Str.ofString "push", .m 180), (Str.ofString "pop", .m 187), (Str.ofString "peek", .m 194), (Str.ofString "keys", .m 201), (Str.ofString "next_key", .m 208), (Str.ofString "peer", .m 215), (Str.ofString "value", .m 222), (Str.ofString "slot_count", .m 875), (Str.ofString "lay", .m 257), (Str.ofString "load", .m 264), (Str.ofString "parts", .m 985), (Str.ofString "told", .m 290), (Str.ofString "slots", .m 868), (Str.ofString "base", .m 882), (Str.ofString "room_place", .m 889), (Str.ofString "has_room", .m 896), (Str.ofString "new_record", .m 903), (Str.ofString "open_record", .m 910), (Str.ofString "close", .m 931), (Str.ofString "output", .m 952), (Str.ofString "take", .m 966), (Str.ofString "taken", .m 973), (Str.ofString "consumer", .a), (Str.ofString "key_width", .a), (Str.ofString "kind", .a), (Str.ofString "most", .a), (Str.ofString "number", .a), (Str.ofString "producer", .a), (Str.ofString "records", .a), (Str.ofString "value_width", .a), (Str.ofString "values", .a)]),
  (1084, [(Str.ofString "is_entry", .m 1060), (Str.ofString "only_child", .m 1067), (Str.ofString "child_count", .m 1074), (Str.ofString "told", .m 1081), (Str.ofString "children", .a), (Str.ofString "length", .a), (Str.ofString "slot", .a), (Str.ofString "worth", .a)]),
  (1285, [(Str.ofString "check_key", .m 129), (Str.ofString "check_value", .m 136), (Str.ofString "lookup", .m 1138), (Str.ofString "update", .m 1195), (Str.ofString "delete", .m 1209), (Str.ofString "push", .m 180), (Str.ofString "pop", .m 187), (Str.ofString "peek", .m 194), (Str.ofString "keys", .m 1242), (Str.ofString "next_key", .m 1249), (Str.ofString "peer", .m 1152), (Str.ofString "value", .m 222), (Str.ofString "slot_count", .m 236), (Str.ofString "lay", .m 257), (Str.ofString "load", .m 264), (Str.ofString "parts", .m 1268), (Str.ofString "told", .m 290), (Str.ofString "size", .m 1109), (Str.ofString "count", .m 1116), (Str.ofString "shared", .m 1123), (Str.ofString "path", .m 1130), (Str.ofString "exact", .m 1145), (Str.ofString "least_free", .m 1159), (Str.ofString "new_slot", .m 1166), (Str.ofString "new_node", .m 1173), (Str.ofString "drop_node", .m 1180), (Str.ofString "hang", .m 1187), (Str.ofString "insert", .m 1202), (Str.ofString "splice", .m 1216), (Str.ofString "replace_child", .m 1223), (Str.ofString "nodes_in_order", .m 1230), (Str.ofString "node_key", .m 1237), (Str.ofString "slots", .m 1256), (Str.ofString "free_nodes", .a), (Str.ofString "key_width", .a), (Str.ofString "kind", .a), (Str.ofString "most", .a), (Str.ofString "nodes", .a), (Str.ofString "number", .a), (Str.ofString "root", .a), (Str.ofString "used", .a), (Str.ofString "value_width", .a), (Str.ofString "values", .a)])]
noncomputable def tca : List (Nat × List (PySem.Str × Nat)) := [(293, [(Str.ofString "__init__", 122)]), (575, [(Str.ofString "__init__", 455), (Str.ofString "unlink", 527)])]
noncomputable def tcs : List (Nat × Nat) := [(384, 318), (427, 318), (575, 455), (646, 591), (782, 662), (843, 805), (1002, 861), (1084, 1053), (1285, 1102)]
noncomputable def tfo : List (Nat × Bool) := [(68, false), (73, true), (80, false), (87, false), (94, false), (101, false), (108, false), (122, false), (129, false), (136, false), (144, false), (152, false), (173, false), (180, false), (187, false), (194, false), (201, false), (208, false), (215, false), (222, false), (236, false), (257, false), (264, false), (283, true), (290, false), (304, false), (318, false), (325, false), (332, false), (339, false), (347, false), (355, false), (362, false), (367, false), (374, false), (400, false), (407, false), (412, true), (417, true), (436, false), (443, false), (455, false), (462, false), (469, false), (477, false), (484, false), (491, false), (498, false), (505, false), (513, false), (520, false), (527, false), (534, false), (539, true), (546, false), (553, false), (572, false), (591, false), (598, false), (605, false), (612, false), (619, false), (624, true), (629, true), (662, false), (669, false), (676, false), (683, false), (690, false), (697, false), (704, false), (711, false), (718, false), (725, false), (732, false), (739, false), (744, true), (751, false), (758, false), (779, false), (791, false), (805, false), (812, false), (819, false), (833, false), (861, false), (868, false), (875, false), (882, false), (889, false), (896, false), (903, false), (910, false), (931, false), (952, false), (966, false), (973, false), (985, false), (1011, false), (1018, false), (1025, false), (1032, false), (1039, false), (1053, false), (1060, false), (1067, false), (1074, false), (1081, false), (1102, false), (1109, false), (1116, false), (1123, false), (1130, false), (1138, false), (1145, false), (1152, false), (1159, false), (1166, false), (1173, false), (1180, false), (1187, false), (1195, false), (1202, false), (1209, false), (1216, false), (1223, false), (1230, false), (1237, false), (1242, true), (1249, false), (1256, false), (1268, true), (1294, false), (1308, false), (1315, false), (1322, false), (1329, false), (1336, false), (1343, false), (1350, true), (1357, true)]



theorem exc_ok (w : PySem.World) : ExcOk PG w (hd.heap_39 w.params) GP GL := by
  intro A cn cs a ccd cl outer A₀ base h₀ L m news s Q E what tk B F X N T hk hA hh hd hu hret
  obtain ⟨mean, mg, mb, T⟩ := T
  refine wp_le (B := ktrTop 897 8940 A.guards cn cs L a ccd cl outer) ?_ hh (show A.depth ≤ 897 by (first | lia | omega)) hA rfl (show A.units ≤ 8940 by (first | lia | omega))
  clear hA hh hd hu
  k_dflt (refine' Mine.call_exc ?k1 ?k2 ?k3 ?k4 ?k5 ?k6 ?k7 ?k8 ?k9 ?k10 ?k11 ?k12 ?_; (case k1 => k_asm); (case k2 => k_asm); (case k3 => k_asm); (case k4 => exact rfl); (case k5 => decide); (case k6 => decide); (case k7 => decide); (case k8 => k_is); (case k9 => k_is); (case k10 => k_is); (case k11 => k_is); (case k12 => exact Nat.le_of_ble_eq_true rfl); k_whole)
  intro e' t' h' F' N' l1 l2
  have hne : ∀ p ∈ (t', tupObj [Value.str what tk]) :: news, p.1 ≠ e' := fun p hp => by
    rcases List.mem_cons.mp hp with rfl | hp
    · exact Nat.ne_of_lt l2
    · exact Nat.ne_of_lt (Nat.lt_trans (l1 p hp) l2)
  k_dflt ((refine' code_def ?k1 ?k2 ?k3 ?k4 ?k5 ?kA ?kF ?kK ?k6 ?k7 ?k8 ?k9 ?kB ?_ ?c2 ?c3 ?c4 ?c5; (case kA => exact rfl); (case kF => exact rfl); (case kK => assumption); (case k1 => k_asm); (case k2 => k_asm); (case k3 => k_asm); (case k4 => k_asm); (case k5 => k_asm); (case k6 => k_is); (case k7 => k_is); (case k8 => ktr_room); (case k9 => first | exact BindsTo.of_eq rfl | exact binds_K (by k_in) rfl (by k_is) rfl rfl rfl); (case c5 => decide); (case kB => exact locs rfl); (case c2 => exact rfl); (case c3 => exact rfl); (case c4 => exact rfl); k_whole; intro g' L' h' FG' F' N' B' X' T'; (try dsimp only); (try k_fold)))
  repeat' (first | (k_unfold; (try dsimp only)) | (k_end; wrow_close) | ((k_here; refine' method_type ?F ?X ?m (by decide +kernel) ?e ?h ?_; (case F => k_asm); (case X => k_asm); (case m => exact Mine.meta_Exception); (case e => k_dflt k_is); (case h => k_handed))) | ((k_here; k_dflt (refine' Mine.exc_init ?k1 ?k2 ?k3 ?k4 ?k5 ?k6 ?_; (case k1 => k_asm); (case k2 => k_asm); (case k3 => k_asm); (case k5 => exact rfl); (case k6 => decide); (case k4 => assumption); k_whole; intro z1 z2 z3 z4 z5 z6))) | ((k_here; k_dflt (first
  | (refine' Mine.exc_setFirst ?k1 ?k2 ?k3 ?k4 ?k5 ?k6 ?k7 ?k8 ?k9 ?_; (case k1 => k_asm); (case k2 => k_asm); (case k3 => k_asm); (case k5 => k_is); (case k6 => exact rfl); (case k7 => exact rfl); (case k8 => exact rfl); (case k9 => k_is); (case k4 => exact Mine.ne_cons (Nat.ne_of_gt (by assumption)) (by assumption)); k_whole; intro z1 z2 z3 z4 z5 z6)
  | (refine' Mine.exc_setMore ?k1 ?k2 ?k3 ?k4 ?k5 ?k6 ?k7 ?k8 ?k9 ?k10 ?k11 ?k12 ?_; (case k1 => k_asm); (case k2 => k_asm); (case k3 => k_asm); (case k6 => k_is); (case k7 => exact rfl); (case k8 => exact rfl); (case k9 => exact rfl); (case k10 => k_is); (case k11 => exact rfl); (case k12 => exact fun _ => Nat.le_of_ble_eq_true rfl); (case k4 => exact Nat.ne_of_lt (by assumption)); (case k5 => exact Mine.ne_lt (by assumption)); k_whole; intro z2 z3 z4)))) | walk1 | (dsimp only; walk1) | (leave1; try dsimp only) | fail "no step")
  have l1' : ∀ p ∈ news, p.1 < e' := fun p hp => Nat.lt_trans (l1 p hp) l2
  exact hret _ _ _ _ _ _ _ (by assumption) (Mine.exc_fin (by assumption)) (Nat.ne_of_lt (by assumption)) (fun p hp => hne p (.tail _ hp)) (fun p hp => Nat.ne_of_lt (Nat.lt_trans (l1' p hp) (by assumption)))

noncomputable def cfB (P : Params) : Cfg := ⟨hd.heap_39 P, tgl, tct, tca, tcs, tfo, [], [], [], none, [], [], false, 0, fun _ _ => false⟩
noncomputable def csB : Cs := ⟨fun _ => 0, fun _ => [], fun _ => .none, fun _ => (0, 0), 0⟩
theorem g1 (P) : (tgl.all fun p => globB (hd.heap_39 P) p.1 p.2) = true := by kernel_rfl
theorem g2 (P) : (tca.all fun p => p.2.all fun q => caB (hd.heap_39 P) p.1 q.1 q.2) = true := by kernel_rfl
theorem g3 (P) : (tcs.all fun p => clsB (hd.heap_39 P) p.1 p.2) = true := by kernel_rfl
theorem g4 (P) : (tfo.all fun p => fnB (hd.heap_39 P) p.1 p.2) = true := by kernel_rfl
theorem g5 (P) : (tct.all fun p => p.2.all fun q => atB (hd.heap_39 P) p.1 q.1 q.2) = true := by kernel_rfl
theorem exc_cls (P : Params) : ExcCls (hd.heap_39 P) := by
  refine' ⟨?nm, ?q, ?N', ?bs, ?bm, ?hdct, ?sn, ?sub, ?ab, ?col, ?dd, ?k0, ?k1, ?k2, ?k3, ?k5, ?newId, ?e1, ?e2⟩
  case e1 => with_unfolding_all rfl
  case e2 => decide
noncomputable def heardP (n : Nat) : Pos := (([(899, 8, 899, 13), (899, 16, 899, 19), (899, 16, 899, 21), (899, 8, 899, 21), (900, 11, 900, 19), (901, 8, 901, 13), (901, 16, 901, 21), (901, 16, 901, 26), (901, 8, 901, 26), (900, 4, 901, 26), (898, 4, 905, 23), (906, 11, 906, 16), (906, 4, 906, 16)] : List (Nat × Nat × Nat × Nat))[n]?).elim ⟨0, 0, 0, 0⟩ fun z => ⟨z.1, z.2.1, z.2.2.1, z.2.2.2⟩
theorem heard_at (P : Params) : ∃ r, fnR (hd.heap_39 P) 1336 = some r ∧ HeardAt (hd.heap_39 P) r := by
  refine' ⟨(?a, ?b, heardBody heardP ?c), ?e1, ?e2⟩
  case e1 => with_unfolding_all rfl
  case e2 => exact ⟨fnOk0_ok (by kernel_rfl), ⟨_, _, rfl⟩, fun _ _ => BindsTo.of_eq rfl, by decide, by decide, by decide, by decide, by decide, by kernel_rfl, by kernel_rfl, by kernel_rfl, by kernel_rfl, by kernel_rfl, by kernel_rfl⟩
theorem heard_head (w : PySem.World) : HeardOk PG w (hd.heap_39 w.params) GP GL := by
  obtain ⟨r, h1, h2⟩ := heard_at w.params
  exact heard_ok h1 h2 (exc_cls _)
noncomputable def gvB (w : PySem.World) : Gv :=
  { prog := PG, w := w, cf := cfB w.params, p := GP, loose := GL, C := csB, hexc := exc_ok w, hexk := exc_cls _, hdraw := draw_ok w, hfl := fun e => nomatch e
    hgl := fun p hp => List.all_eq_true.mp (g1 w.params) p hp
    hct := fun p hp q hq => List.all_eq_true.mp (List.all_eq_true.mp (g5 w.params) p hp) q hq
    hca := fun p hp q hq => List.all_eq_true.mp (List.all_eq_true.mp (g2 w.params) p hp) q hq
    hcs := fun p hp => List.all_eq_true.mp (g3 w.params) p hp
    hfo := fun p hp => List.all_eq_true.mp (g4 w.params) p hp
    h59 := by show keepIn (hd.heap_39 w.params) (.ref 59) = true; kernel_rfl
    hbd := fun _ _ e => no_o e
    hbl := fun _ _ e => no_o e
    hzl := fun _ _ e => no_o e
    hdr := fun _ _ _ e => no_o e
    hoc := fun _ h => nomatch h
    hnb := Nat.zero_le _
    hhs := fun _ h => nomatch h }
theorem oct_head (w : PySem.World) : OctOk PG w (hd.heap_39 w.params) GP GL := by
  refine oct_ok (G := gvB w) fun n h1 h4 => ?_
  have : n = 1 ∨ n = 2 ∨ n = 3 ∨ n = 4 := by (first | lia | omega)
  rcases this with rfl | rfl | rfl | rfl
  all_goals show octB (cfB w.params) _ = true; kernel_rfl
theorem foul_head (w : PySem.World) : FoulOk PG w (hd.heap_39 w.params) GP GL := foul_ok (G := gvB w) (by show foulB (cfB w.params) _ = true; kernel_rfl) (by show foulB (cfB w.params) _ = true; kernel_rfl)

theorem news_sub2 {h₀ h : Heap} {L : Addr} {a b : Addr × Obj} {r : List (Addr × Obj)} (N : News h₀ L h (a :: b :: r)) : News h₀ L h (a :: r) := fun p hp => (List.mem_cons.mp hp).elim (fun e => e ▸ N _ (.head _)) fun hp => N p (.tail _ (.tail _ hp))
theorem islist_fr {h₀ g : Heap} {L l : Addr} {m : PySem.Str → Option Value} {its : Array Value} (F : Fr h₀ L g m) (hl : h₀.IsList l its) : g.IsList l its := hl.elim fun o h => ⟨o, F.keep _ _ h.1, h.2⟩
theorem pen_step {f : Int → Int} (hf : ∀ n, 0 ≤ f n ∧ f n < 10 ^ 40) : ∀ (l : List Int) (a : Int) (k : Nat), 0 ≤ a → a < 10 ^ 41 * 1052 ^ k → 0 ≤ l.foldl (fun a' n' => a' * 1051 + f n') a ∧ l.foldl (fun a' n' => a' * 1051 + f n') a < 10 ^ 41 * 1052 ^ (k + l.length)
  | [], a, k, h0, h1 => ⟨h0, h1⟩
  | n :: l, a, k, h0, h1 => by
    have hn := hf n
    have e : (10 : Int) ^ 41 * 1052 ^ (k + 1) = (10 ^ 41 * 1052 ^ k) * 1052 := by rw [Int.pow_succ 1052 k, Int.mul_assoc]
    have hk : (0 : Int) < 1052 ^ k := Int.pow_pos (by decide)
    have hb : (10 : Int) ^ 40 ≤ 10 ^ 41 * 1052 ^ k := by
      have : (10 : Int) ^ 41 * 1 ≤ 10 ^ 41 * 1052 ^ k := Int.mul_le_mul_of_nonneg_left hk (by decide)
      (first | lia | omega)
    have h2 := pen_step hf l (a * 1051 + f n) (k + 1) (by (first | lia | omega)) (by rw [e]; (first | lia | omega))
    rw [List.length_cons, show k + (l.length + 1) = k + 1 + l.length by (first | lia | omega)]
    exact h2
theorem pen_all (ns : List Int) : 0 ≤ List.foldl (fun a' n' => a' * 1051 + ((2 * if n' < 0 then -n' else n') + if decide (n' < 0) = true then 1 else 0).fmod (10 ^ Int.toNat 40)) 29 (List.take 24 ns) ∧
    List.foldl (fun a' n' => a' * 1051 + ((2 * if n' < 0 then -n' else n') + if decide (n' < 0) = true then 1 else 0).fmod (10 ^ Int.toNat 40)) 29 (List.take 24 ns) < big := by
  have h := pen_step (f := fun n' => ((2 * if n' < 0 then -n' else n') + if decide (n' < 0) = true then 1 else 0).fmod (10 ^ Int.toNat 40)) (fun n => by
    have hp : (0 : Int) < 10 ^ Int.toNat 40 := by decide
    exact ⟨Int.fmod_nonneg_of_pos _ hp, Int.fmod_lt_of_pos _ hp⟩) (List.take 24 ns) 29 0 (by decide) (by decide)
  refine ⟨h.1, Int.lt_of_lt_of_le h.2 ?_⟩
  have hl : (List.take 24 ns).length ≤ 24 := by rw [List.length_take]; (first | lia | omega)
  rw [Nat.zero_add]
  have m : ∀ k : Nat, k ≤ 24 → (10 : Int) ^ 41 * 1052 ^ k ≤ 10 ^ 200 := by decide
  exact m _ hl
theorem lpen (w : PySem.World) {A : Around} {cn : PySem.Str} {cs : Scope} {a : Addr} {ccd : Value} {cl : List (PySem.Str × Addr)} {outer : List Env} {A₀ : Around} {base h₀ : Heap} {L : Addr} {m : PySem.Str → Option Value} {s : Shared} {Q E : Value → Shared → Prop} (B : Below A₀ base outer h₀) (F : Fr h₀ L s.heap m) (X : (hd.heap_39 w.params).In h₀) (N : News h₀ L s.heap ([(1352, tabObj #[]), (1345, tabObj #[])])) (T : ∃ mean mg mb, Top GP GL mean mg mb h₀) (hk : cs.kind = .function)
    (hA : A.frames = some (envX cn cs L a ccd cl :: outer)) (hh : A.handled = none) (hd : A.depth ≤ 897) (hu : A.units ≤ 8940)
    {l : Addr} {vs : List Value} {ns : List Int} (hl : h₀.IsList l vs.toArray) (hi : IntsAre vs ns) (hn : ns.length ≤ 63) (hret : ∀ (P : Addr) (x : Int) (tx ty : Tok) h' tk', Fr h₀ L h' m → News h₀ L h' ([(P, pen x 0 tx ty 0), (1352, tabObj #[]), (1345, tabObj #[])]) → @Ne Nat 1352 P → @Ne Nat 1345 P → 0 ≤ x → x < big → Q (.ref P) { s with heap := h', toks := tk' }) :
    wpAny (model PG w) A (call (.ref 1301) [.ref l]) Q E s := by
  obtain ⟨mean, mg, mb, T⟩ := T
  refine wp_le (B := ktrTop 897 8940 A.guards cn cs L a ccd cl outer) ?_ hh (show A.depth ≤ 897 by (first | lia | omega)) hA rfl (show A.units ≤ 8940 by (first | lia | omega))
  clear hA hh hd hu
  refine wpAny_call ?_
  k_dflt ((refine' code_def ?k1 ?k2 ?k3 ?k4 ?k5 ?kA ?kF ?kK ?k6 ?k7 ?k8 ?k9 ?kB ?_ ?c2 ?c3 ?c4 ?c5; (case kA => exact rfl); (case kF => exact rfl); (case kK => assumption); (case k1 => k_asm); (case k2 => k_asm); (case k3 => k_asm); (case k4 => k_asm); (case k5 => k_asm); (case k6 => k_is); (case k7 => k_is); (case k8 => ktr_room); (case k9 => first | exact BindsTo.of_eq rfl | exact binds_K (by k_in) rfl (by k_is) rfl rfl rfl); (case c5 => decide); (case kB => exact locs rfl); (case c2 => exact rfl); (case c3 => exact rfl); (case c4 => exact rfl); k_whole; intro g' L' h' FG' F' N' B' X' T'; (try dsimp only); (try k_fold)))
  rename Fr h₀ L _ m => FG
  have hl2 := Mine.islist_fr FG hl
  clear hl
  repeat' (first | (k_unfold; (try dsimp only)) | (k_end; wrow_close) | ((k_here; (with_reducible show wpAny _ _ (exec (Stmt.For _ _ _ [] _) _) _ _ _); (rename Fr _ _ _ _ => lF'); (with_unfolding_all refine' For_invVF lF' ?k1 ?k2 ?_; (case k1 => exact rfl); (case k2 => exact rfl); k_whole))) | (((with_reducible show wpAny _ _ (pyIter (Value.ref _)) (fun it s₂ => LoopAtV _ _ _ _ _ _ _ _ _ it s₂) _ _); k_acc1L)) | (with_reducible refine wpAny_execs_nil ?_) | (k_dflt (refine InvEndN.intro (by assumption) (by assumption) ⟨rfl, ⟨_, by rfl⟩, by (intro z h1 h2; first | rfl | (simp [h1, h2]; done) | (simp_all; done))⟩ (by rfl) (by (with_unfolding_all ((try simp only [List.nil_append, List.cons_append]); k_allIn))) (by (intro p hp; k_ownIn)))) | ((with_reducible refine pow_int_small ?kb1 ?kb2 ?kb3 ?_); (case kb1 => decide); (case kb2 => decide); (case kb3 => decide)) | walk1 | (dsimp only; walk1) | (leave1; try dsimp only) | fail "no step")
  refine' hret _ _ _ _ _ _ ?ff ?nn ?e3 ?e4 (pen_all ns).1 (pen_all ns).2
  case ff => assumption
  case nn => exact Mine.news_sub2 (by with_reducible assumption)
  case e3 => rename _ ∧ _ => z; exact Nat.ne_of_lt z.2.1
  case e4 => rename _ ∧ _ => z; exact Nat.ne_of_lt z.2.2

theorem pen_ok (w : PySem.World) : PenOk PG w (hd.heap_39 w.params) GP GL := fun B F X N T hk hA hh hd hu _ _ _ hl hi hn hret => lpen w B F X N T hk hA hh hd hu hl hi hn hret
theorem law_at (P : Params) : ∃ r, fnR (hd.heap_39 P) 1364 = some r ∧ LawAt (hd.heap_39 P) r ∧ ∃ p1 p2 p3 p4 p5 rest, r.2.2 = .Assign [.Name (Str.ofString "pen") p1] (.Call (.Name (Str.ofString "_law_pen") p2) [.Name (Str.ofString "script") p3] [] p4) p5 :: rest := by
  refine' ⟨(?a, ?b, ?c), ?e1, ?e2, ?e3⟩
  case e1 => with_unfolding_all rfl
  case e2 => exact ⟨fnOk0_ok (by kernel_rfl), fun _ _ => BindsTo.of_eq rfl, by decide, by decide, by decide, by decide, by kernel_rfl, by kernel_rfl⟩
  case e3 => exact ⟨_, _, _, _, _, _, rfl⟩
theorem tab_at0 (P : Params) : TabAt (hd.heap_39 P) (1350, 0, Str.ofString "_law_foul_right.<locals>.<lambda>") 1349 1345 := by
  refine' ⟨(?a, ?b, ?c), ?o, ?vs, ?e1, ?e2, ?e3, ?e4, ?e5, ?e6⟩
  case e1 => with_unfolding_all rfl
  case e2 => exact rfl
  case e3 => decide
  case e4 => with_unfolding_all rfl
  case e5 => exact rfl
  case e6 => exact rfl
theorem tab_at1 (P : Params) : TabAt (hd.heap_39 P) (1357, 1, Str.ofString "_law_rows_right.<locals>.<lambda>") 1356 1352 := by
  refine' ⟨(?a, ?b, ?c), ?o, ?vs, ?e1, ?e2, ?e3, ?e4, ?e5, ?e6⟩
  case e1 => with_unfolding_all rfl
  case e2 => exact rfl
  case e3 => decide
  case e4 => with_unfolding_all rfl
  case e5 => exact rfl
  case e6 => exact rfl

noncomputable abbrev LA : PySem.Str := Str.ofString "_law_foul_right.<locals>.<lambda>"
noncomputable abbrev LB : PySem.Str := Str.ofString "_law_rows_right.<locals>.<lambda>"
noncomputable def tnL : List PySem.Str := [Str.ofString "_law_heard", Str.ofString "_law_foul_right", Str.ofString "_law_rows_right"]
noncomputable def runL (P : Params) (hs : List (Nat × Nat × Int × Int)) (dr : List (Int × SI)) (oc : List (Nat × SI × Nat)) : Bool := lawT tnL LA LB (cfK (cfB P) hs dr oc)
theorem run_q (P) : runL P [] (drQ 0) (ocK 3 4) = true := by kernel_rfl
theorem run_s (P) : runL P [] (drQ 4) (ocK 3 4) = true := by kernel_rfl
theorem run_o (P) : runL P [] drO [] = true := by kernel_rfl
theorem run_t (P) : runL P [] drT (ocK 4 5) = true := by kernel_rfl
theorem ra100 (P) : runL P [] (drA 1 0 0) (ocK 4 5) = true := by kernel_rfl
theorem ra110 (P) : runL P [] (drA 1 1 0) (ocK 4 5) = true := by kernel_rfl
theorem ra111 (P) : runL P [] (drA 1 1 1) (ocK 4 5) = true := by kernel_rfl
theorem ra120 (P) : runL P [] (drA 1 2 0) (ocK 4 5) = true := by kernel_rfl
theorem ra121 (P) : runL P [] (drA 1 2 1) (ocK 4 5) = true := by kernel_rfl
theorem ra122 (P) : runL P [] (drA 1 2 2) (ocK 4 5) = true := by kernel_rfl
theorem ra500 (P) : runL P [] (drA 5 0 0) (ocK 4 5) = true := by kernel_rfl
theorem ra510 (P) : runL P [] (drA 5 1 0) (ocK 4 5) = true := by kernel_rfl
theorem ra511 (P) : runL P [] (drA 5 1 1) (ocK 4 5) = true := by kernel_rfl
theorem ra520 (P) : runL P [] (drA 5 2 0) (ocK 4 5) = true := by kernel_rfl
theorem ra521 (P) : runL P [] (drA 5 2 1) (ocK 4 5) = true := by kernel_rfl
theorem ra522 (P) : runL P [] (drA 5 2 2) (ocK 4 5) = true := by kernel_rfl
theorem rh3000 (P) : runL P [(2, 0 + 1, mask 0, 0)] (drH 3 0 (0 : Nat)) (ocK 5 6) = true := by kernel_rfl
theorem rh3010 (P) : runL P [(2, 0 + 1, mask 1, 0)] (drH 3 1 (0 : Nat)) (ocK 5 6) = true := by kernel_rfl
theorem rh3011 (P) : runL P [(2, 0 + 1, mask 1, 1)] (drH 3 1 (0 : Nat)) (ocK 5 6) = true := by kernel_rfl
theorem rh3020 (P) : runL P [(2, 0 + 1, mask 2, 0)] (drH 3 2 (0 : Nat)) (ocK 5 6) = true := by kernel_rfl
theorem rh3021 (P) : runL P [(2, 0 + 1, mask 2, 1)] (drH 3 2 (0 : Nat)) (ocK 5 6) = true := by kernel_rfl
theorem rh3022 (P) : runL P [(2, 0 + 1, mask 2, 2)] (drH 3 2 (0 : Nat)) (ocK 5 6) = true := by kernel_rfl
theorem rh3023 (P) : runL P [(2, 0 + 1, mask 2, 3)] (drH 3 2 (0 : Nat)) (ocK 5 6) = true := by kernel_rfl
theorem rh3100 (P) : runL P [(2, 1 + 1, mask 0, 0)] (drH 3 0 (1 : Nat)) (ocK 5 6) = true := by kernel_rfl
theorem rh3110 (P) : runL P [(2, 1 + 1, mask 1, 0)] (drH 3 1 (1 : Nat)) (ocK 5 6) = true := by kernel_rfl
theorem rh3111 (P) : runL P [(2, 1 + 1, mask 1, 1)] (drH 3 1 (1 : Nat)) (ocK 5 6) = true := by kernel_rfl
theorem rh3120 (P) : runL P [(2, 1 + 1, mask 2, 0)] (drH 3 2 (1 : Nat)) (ocK 5 6) = true := by kernel_rfl
theorem rh3121 (P) : runL P [(2, 1 + 1, mask 2, 1)] (drH 3 2 (1 : Nat)) (ocK 5 6) = true := by kernel_rfl
theorem rh3122 (P) : runL P [(2, 1 + 1, mask 2, 2)] (drH 3 2 (1 : Nat)) (ocK 5 6) = true := by kernel_rfl
theorem rh3123 (P) : runL P [(2, 1 + 1, mask 2, 3)] (drH 3 2 (1 : Nat)) (ocK 5 6) = true := by kernel_rfl
theorem rh3200 (P) : runL P [(2, 2 + 1, mask 0, 0)] (drH 3 0 (2 : Nat)) (ocK 5 6) = true := by kernel_rfl
theorem rh3210 (P) : runL P [(2, 2 + 1, mask 1, 0)] (drH 3 1 (2 : Nat)) (ocK 5 6) = true := by kernel_rfl
theorem rh3211 (P) : runL P [(2, 2 + 1, mask 1, 1)] (drH 3 1 (2 : Nat)) (ocK 5 6) = true := by kernel_rfl
theorem rh3220 (P) : runL P [(2, 2 + 1, mask 2, 0)] (drH 3 2 (2 : Nat)) (ocK 5 6) = true := by kernel_rfl
theorem rh3221 (P) : runL P [(2, 2 + 1, mask 2, 1)] (drH 3 2 (2 : Nat)) (ocK 5 6) = true := by kernel_rfl
theorem rh3222 (P) : runL P [(2, 2 + 1, mask 2, 2)] (drH 3 2 (2 : Nat)) (ocK 5 6) = true := by kernel_rfl
theorem rh3223 (P) : runL P [(2, 2 + 1, mask 2, 3)] (drH 3 2 (2 : Nat)) (ocK 5 6) = true := by kernel_rfl
theorem rh6000 (P) : runL P [(2, 0 + 1, mask 0, 0)] (drH 6 0 (0 : Nat)) (ocK 5 6) = true := by kernel_rfl
theorem rh6010 (P) : runL P [(2, 0 + 1, mask 1, 0)] (drH 6 1 (0 : Nat)) (ocK 5 6) = true := by kernel_rfl
theorem rh6011 (P) : runL P [(2, 0 + 1, mask 1, 1)] (drH 6 1 (0 : Nat)) (ocK 5 6) = true := by kernel_rfl
theorem rh6020 (P) : runL P [(2, 0 + 1, mask 2, 0)] (drH 6 2 (0 : Nat)) (ocK 5 6) = true := by kernel_rfl
theorem rh6021 (P) : runL P [(2, 0 + 1, mask 2, 1)] (drH 6 2 (0 : Nat)) (ocK 5 6) = true := by kernel_rfl
theorem rh6022 (P) : runL P [(2, 0 + 1, mask 2, 2)] (drH 6 2 (0 : Nat)) (ocK 5 6) = true := by kernel_rfl
theorem rh6023 (P) : runL P [(2, 0 + 1, mask 2, 3)] (drH 6 2 (0 : Nat)) (ocK 5 6) = true := by kernel_rfl
theorem rh6100 (P) : runL P [(2, 1 + 1, mask 0, 0)] (drH 6 0 (1 : Nat)) (ocK 5 6) = true := by kernel_rfl
theorem rh6110 (P) : runL P [(2, 1 + 1, mask 1, 0)] (drH 6 1 (1 : Nat)) (ocK 5 6) = true := by kernel_rfl
theorem rh6111 (P) : runL P [(2, 1 + 1, mask 1, 1)] (drH 6 1 (1 : Nat)) (ocK 5 6) = true := by kernel_rfl
theorem rh6120 (P) : runL P [(2, 1 + 1, mask 2, 0)] (drH 6 2 (1 : Nat)) (ocK 5 6) = true := by kernel_rfl
theorem rh6121 (P) : runL P [(2, 1 + 1, mask 2, 1)] (drH 6 2 (1 : Nat)) (ocK 5 6) = true := by kernel_rfl
theorem rh6122 (P) : runL P [(2, 1 + 1, mask 2, 2)] (drH 6 2 (1 : Nat)) (ocK 5 6) = true := by kernel_rfl
theorem rh6123 (P) : runL P [(2, 1 + 1, mask 2, 3)] (drH 6 2 (1 : Nat)) (ocK 5 6) = true := by kernel_rfl
theorem rh6200 (P) : runL P [(2, 2 + 1, mask 0, 0)] (drH 6 0 (2 : Nat)) (ocK 5 6) = true := by kernel_rfl
theorem rh6210 (P) : runL P [(2, 2 + 1, mask 1, 0)] (drH 6 1 (2 : Nat)) (ocK 5 6) = true := by kernel_rfl
theorem rh6211 (P) : runL P [(2, 2 + 1, mask 1, 1)] (drH 6 1 (2 : Nat)) (ocK 5 6) = true := by kernel_rfl
theorem rh6220 (P) : runL P [(2, 2 + 1, mask 2, 0)] (drH 6 2 (2 : Nat)) (ocK 5 6) = true := by kernel_rfl
theorem rh6221 (P) : runL P [(2, 2 + 1, mask 2, 1)] (drH 6 2 (2 : Nat)) (ocK 5 6) = true := by kernel_rfl
theorem rh6222 (P) : runL P [(2, 2 + 1, mask 2, 2)] (drH 6 2 (2 : Nat)) (ocK 5 6) = true := by kernel_rfl
theorem rh6223 (P) : runL P [(2, 2 + 1, mask 2, 3)] (drH 6 2 (2 : Nat)) (ocK 5 6) = true := by kernel_rfl
theorem cases_mi {m i : Int} (h1 : 0 ≤ i) (h2 : i ≤ m) (h3 : m ≤ 2) : (m = 0 ∧ i = 0) ∨ (m = 1 ∧ i = 0) ∨ (m = 1 ∧ i = 1) ∨ (m = 2 ∧ i = 0) ∨ (m = 2 ∧ i = 1) ∨ (m = 2 ∧ i = 2) := by
  rcases le2 (Int.le_trans h1 h2) h3 with rfl | rfl | rfl
  · exact .inl ⟨rfl, le0 h1 h2⟩
  · exact .inr ((le1 h1 h2).elim (fun e => .inl ⟨rfl, e⟩) fun e => .inr (.inl ⟨rfl, e⟩))
  · exact .inr (.inr (.inr ((le2 h1 h2).elim (fun e => .inl ⟨rfl, e⟩) fun e => .inr (e.imp (fun e => ⟨rfl, e⟩) fun e => ⟨rfl, e⟩))))
theorem cases_hi {m i : Int} (h0 : 0 ≤ m) (h3 : m ≤ 2) (h1 : 0 ≤ i) (h2 : i ≤ mask m) : (m = 0 ∧ i = 0) ∨ (m = 1 ∧ i = 0) ∨ (m = 1 ∧ i = 1) ∨ (m = 2 ∧ i = 0) ∨ (m = 2 ∧ i = 1) ∨ (m = 2 ∧ i = 2) ∨ (m = 2 ∧ i = 3) := by
  rcases le2 h0 h3 with rfl | rfl | rfl
  · exact .inl ⟨rfl, le0 h1 h2⟩
  · exact .inr ((le1 h1 h2).elim (fun e => .inl ⟨rfl, e⟩) fun e => .inr (.inl ⟨rfl, e⟩))
  · exact .inr (.inr (.inr ((le3 h1 h2).elim (fun e => .inl ⟨rfl, e⟩) fun e => .inr (e.elim (fun e => .inl ⟨rfl, e⟩) fun e => .inr (e.imp (fun e => ⟨rfl, e⟩) fun e => ⟨rfl, e⟩)))))
theorem cases_k {k : Nat} (h : k ≤ 2) : k = 0 ∨ k = 1 ∨ k = 2 := match k, h with
  | 0, _ => .inl rfl
  | 1, _ => .inr (.inl rfl)
  | 2, _ => .inr (.inr rfl)
  | k + 3, h => absurd h (by omega)
theorem runs_all (P : Params) : RunsAll tnL LA LB (cfB P) := by
  refine ⟨run_q P, run_s P, run_o P, fun kd m i hk h1 h2 h3 => ?_, fun kd m k i hk h0 h3 hk2 h1 h2 => ?_, run_t P⟩
  · rcases hk with rfl | rfl
    · rcases cases_mi h1 h2 h3 with ⟨rfl, rfl⟩ | ⟨rfl, rfl⟩ | ⟨rfl, rfl⟩ | ⟨rfl, rfl⟩ | ⟨rfl, rfl⟩ | ⟨rfl, rfl⟩
      · exact ra100 P
      · exact ra110 P
      · exact ra111 P
      · exact ra120 P
      · exact ra121 P
      · exact ra122 P
    · rcases cases_mi h1 h2 h3 with ⟨rfl, rfl⟩ | ⟨rfl, rfl⟩ | ⟨rfl, rfl⟩ | ⟨rfl, rfl⟩ | ⟨rfl, rfl⟩ | ⟨rfl, rfl⟩
      · exact ra500 P
      · exact ra510 P
      · exact ra511 P
      · exact ra520 P
      · exact ra521 P
      · exact ra522 P
  · rcases hk with rfl | rfl
    · rcases cases_k hk2 with rfl | rfl | rfl
      · rcases cases_hi h0 h3 h1 h2 with ⟨rfl, rfl⟩ | ⟨rfl, rfl⟩ | ⟨rfl, rfl⟩ | ⟨rfl, rfl⟩ | ⟨rfl, rfl⟩ | ⟨rfl, rfl⟩ | ⟨rfl, rfl⟩
        · exact rh3000 P
        · exact rh3010 P
        · exact rh3011 P
        · exact rh3020 P
        · exact rh3021 P
        · exact rh3022 P
        · exact rh3023 P
      · rcases cases_hi h0 h3 h1 h2 with ⟨rfl, rfl⟩ | ⟨rfl, rfl⟩ | ⟨rfl, rfl⟩ | ⟨rfl, rfl⟩ | ⟨rfl, rfl⟩ | ⟨rfl, rfl⟩ | ⟨rfl, rfl⟩
        · exact rh3100 P
        · exact rh3110 P
        · exact rh3111 P
        · exact rh3120 P
        · exact rh3121 P
        · exact rh3122 P
        · exact rh3123 P
      · rcases cases_hi h0 h3 h1 h2 with ⟨rfl, rfl⟩ | ⟨rfl, rfl⟩ | ⟨rfl, rfl⟩ | ⟨rfl, rfl⟩ | ⟨rfl, rfl⟩ | ⟨rfl, rfl⟩ | ⟨rfl, rfl⟩
        · exact rh3200 P
        · exact rh3210 P
        · exact rh3211 P
        · exact rh3220 P
        · exact rh3221 P
        · exact rh3222 P
        · exact rh3223 P
    · rcases cases_k hk2 with rfl | rfl | rfl
      · rcases cases_hi h0 h3 h1 h2 with ⟨rfl, rfl⟩ | ⟨rfl, rfl⟩ | ⟨rfl, rfl⟩ | ⟨rfl, rfl⟩ | ⟨rfl, rfl⟩ | ⟨rfl, rfl⟩ | ⟨rfl, rfl⟩
        · exact rh6000 P
        · exact rh6010 P
        · exact rh6011 P
        · exact rh6020 P
        · exact rh6021 P
        · exact rh6022 P
        · exact rh6023 P
      · rcases cases_hi h0 h3 h1 h2 with ⟨rfl, rfl⟩ | ⟨rfl, rfl⟩ | ⟨rfl, rfl⟩ | ⟨rfl, rfl⟩ | ⟨rfl, rfl⟩ | ⟨rfl, rfl⟩ | ⟨rfl, rfl⟩
        · exact rh6100 P
        · exact rh6110 P
        · exact rh6111 P
        · exact rh6120 P
        · exact rh6121 P
        · exact rh6122 P
        · exact rh6123 P
      · rcases cases_hi h0 h3 h1 h2 with ⟨rfl, rfl⟩ | ⟨rfl, rfl⟩ | ⟨rfl, rfl⟩ | ⟨rfl, rfl⟩ | ⟨rfl, rfl⟩ | ⟨rfl, rfl⟩ | ⟨rfl, rfl⟩
        · exact rh6200 P
        · exact rh6210 P
        · exact rh6211 P
        · exact rh6220 P
        · exact rh6221 P
        · exact rh6222 P
        · exact rh6223 P

theorem post_ok (args : List WData) : PySem.Challenge.rw_rg0271_01.row.claim.post args (.bool true) args = true := by kernel_rfl
theorem law_end {w : PySem.World} {s₀ s₁ : Shared} {mg mb : PySem.Str → Option Value} {lo : List PySem.Str} (R : RunsAll tnL LA LB (cfB w.params)) (hlo : lo = LOOSE) (T : Top hd.view_39 lo (ExcName.means s₀.heap) mg mb s₁.heap) (KX : (hd.heap_39 w.params).In s₁.heap) (hT9 : TabsAt TB2 s₁.heap) (hg : s₁.gens = #[]) {l : Addr} {vs : List Value} {ns : List Int} (hl : s₁.heap.IsList l vs.toArray) (hi : IntsAre vs ns) (hn : ns.length ≤ 63) {args : List WData} {E : Value → Shared → Prop} :
    wpC (model PG w) callerA (call (.ref 1364) [.ref l]) (fun v s' => GoodWG PySem.Challenge.rw_rg0271_01.row.claim (classAt s₀.heap) (ExcName.means s₀.heap) args s₁ (.ok (.ret v)) s') E s₁ := by
  subst hlo
  obtain ⟨r, hr, H, p1, p2, p3, p4, p5, rest, hb⟩ := law_at w.params
  exact law_start hr H (pen_ok w) hT9 T KX (ghost_own hT9 T) (ghost_K hT9 KX (by kernel_rfl)) (tab_at0 _) (tab_at1 _) hl hi hn hb (fun s' k g S => goodG hT9 (fun _ => rfl) (post_ok args) hg k g S) fun x _ _ => law_runs (G := gvB w) (heard_head w) (oct_head w) (foul_head w) hr hb R x
theorem main (hR : ∀ P, RunsAll tnL LA LB (cfB P)) : PySem.Challenge.rw_rg0271_01.Holds := by
  refine hd ?_
  intro w s₀ s₁ mg mb G Y fa o pm cd doc dV kV ho hd' hcd hD hmg hg args vals as hpre hlay hrd hwl hlo
  have KX : (hd.heap_39 w.params).In s₁.heap := Y.1
  have hT8 : ∀ P ∈ ([1352, 1345] : List Addr), s₁.heap.get? P = some (tabObj #[]) := Y.2
  refine Ground.open G ?_
  intro T B D TE TW
  have e := mg_of (n := Str.ofString "law") (v := .ref 1364) KX T.g (by kernel_rfl)
  rw [show mg (Str.ofString "law") = some (.ref fa) from hmg] at e
  obtain rfl := Value.ref.inj (Option.some.inj e)
  km_lay T hmg ho hd' cd
  clear hmg hD hcd hd' ho
  wrow_args hpre hlay hrd hwl hlo
  clear G
  rename IntsAre _ _ => hi
  rename Heap.IsList _ _ _ => hl
  rename ¬ _ < _ => hn
  exact law_end (hR _) (by kernel_rfl) T KX hT9 hg hl hi (by omega)

end Mine
theorem PySem.Challenge.cw_rg0271_01_holds : PySem.Challenge.rw_rg0271_01.Holds :=
  Mine.main Mine.runs_all
