import PyProof.Rows.All
import PyProof.CompUse
import PyProof.Rows.CellsNews
import KE.KBytesWalk
import KE.KBytesCut
import KE.KPar
import KE.KTryMore
import Wide.FinOn
import OpenK.AllK
import Wide.All
import PySem.Challenge.RW_xw0265_01
set_option Elab.async false
set_option linter.all false
set_option compiler.extract_closed false
set_option genSizeOf false
section
open PySem PySem.W PySem.Calls PyProof.Rows
set_option maxRecDepth 100000
namespace Rk
open Sem (wp)
noncomputable def badIds : List String :=
  ["bytearray.__contains__", "bytearray.__mod__", "bytearray.__rmod__", "_struct.pack_into.held", "bytearray.find.held"] ++ Builtin.Bytes.decodersThatHold
noncomputable def okCode : Code → Bool
  | .builtin id _ => !badIds.contains id
  | _ => true
noncomputable def Cl (Γ : Ctx) : Prop := okCode Γ.code = true ∧ ∀ x ∈ Γ.below, okCode x.1 = true
theorem Cl.enter {Γ : Ctx} (h : Cl Γ) {c : Code} (hc : okCode c = true) (hd : Option Value) (p : Pos) : Cl (Γ.enter c hd p) :=
  ⟨hc, fun x hx => by
    rcases List.mem_cons.mp hx with e | hx
    · subst e; exact h.1
    · exact h.2 x hx⟩
theorem Cl.goto {Γ : Ctx} (h : Cl Γ) {c : Code} (hc : okCode c = true) : Cl (Γ.goto c) := ⟨hc, h.2⟩
theorem hide {P : Prop} (h : ∀ Q : Prop, (P → Q) → Q) : P := h P id
noncomputable def wpC {α : Type} (M : Model) (A : Around) (t : Sem α) (Q : α → Shared → Prop) (E : Value → Shared → Prop) (s : Shared) : Prop :=
  ∀ Γ p, Γ.In A → Cl Γ → wp M Γ t (fun a _ s' => Q a s') (fun e _ s' => E e s') p s
noncomputable def codeC (M : Model) (A : Around) (c : Code) (R : Result → Shared → Prop) (s : Shared) : Prop :=
  ∀ Γ p, Γ.code = c → Γ.Below A → Cl Γ → wpCode M Γ R p s
section
variable {α β : Type} {M : Model} {A : Around} {E : Value → Shared → Prop} {s : Shared}
theorem wpC_any {t : Sem α} {Q : α → Shared → Prop} (h : wpAny M A t Q E s) : wpC M A t Q E s := fun Γ p hΓ _ => h Γ p hΓ
theorem wpC_pure {a : α} {Q : α → Shared → Prop} (h : Q a s) : wpC M A (pure a) Q E s := fun _ _ _ _ => h
theorem wpC_mono {t : Sem α} {Q Q' : α → Shared → Prop} {E' : Value → Shared → Prop} (h : wpC M A t Q E s)
    (hQ : ∀ a s, Q a s → Q' a s) (hE : ∀ e s, E e s → E' e s) : wpC M A t Q' E' s :=
  fun Γ p hΓ hc => Sem.wp_mono M Γ t (fun a _ s => hQ a s) (fun e _ s => hE e s) p s (h Γ p hΓ hc)
theorem wpC_bind {m : Sem α} {f : α → Sem β} {Q : β → Shared → Prop} (h : wpC M A m (fun a s' => wpC M A (f a) Q E s') E s) :
    wpC M A (m >>= f) Q E s := fun Γ p hΓ hc => by
  rw [Sem.wp_bind']
  exact Sem.wp_mono M Γ m (fun a p' s' h' => h' Γ p' hΓ hc) (fun _ _ _ h' => h') p s (h Γ p hΓ hc)
theorem wpC_leaf {m : Sem α} {f : α → Sem β} {Q : β → Shared → Prop} (h : wpAny M A m (fun a s' => wpC M A (f a) Q E s') E s) :
    wpC M A (m >>= f) Q E s := wpC_bind (wpC_any h)
theorem wpC_onRaise {m : Sem α} {k : Value → Sem Unit} {Q : α → Shared → Prop}
    (h : wpC M A m Q (fun e s' => wpC M A (k e) (fun _ s'' => E e s'') E s') s) : wpC M A (m.onRaise k) Q E s := fun Γ p hΓ hc => by
  rw [Sem.wp_onRaise]
  exact Sem.wp_mono M Γ m (fun _ _ _ h' => h') (fun e p' s' h' => h' Γ p' hΓ hc) p s (h Γ p hΓ hc)
theorem wpC_attempt {m : Sem α} {Q : Except Value α → Shared → Prop} (h : wpC M A m (fun a => Q (.ok a)) (fun e => Q (.error e)) s) :
    wpC M A m.attempt Q E s := fun Γ p hΓ hc => by rw [Sem.wp_attempt]; exact h Γ p hΓ hc
theorem wpC_holding {vs : List Value} {m : Sem α} {Q : α → Shared → Prop} (h : wpC M A m Q E s) : wpC M A (holding vs m) Q E s :=
  fun Γ p hΓ hc => by rw [Sem.wp_holding]; exact h Γ p hΓ hc
theorem wpC_keep {vs : List Value} {m : Sem α} {Q : α → Shared → Prop} (h : wpC M A m Q E s) : wpC M A (m.keep vs) Q E s :=
  fun Γ p hΓ hc => by rw [Sem.wp_keep]; exact h Γ p hΓ hc
theorem wpC_of_eq {t : Sem α} {a : α} {Q : α → Shared → Prop} (e : t = pure a) (h : Q a s) : wpC M A t Q E s := by subst e; exact wpC_pure h
theorem wpC_standAt {pos : Pos} {Q : Unit → Shared → Prop} (h : Q () s) : wpC M A (standAt pos) Q E s := fun _ _ _ _ => h
theorem wpC_rule {tag : String} {Q : Unit → Shared → Prop} (h : Q () s) : wpC M A (rule tag) Q E s := fun _ _ _ _ => h
theorem wpC_point {Q : Unit → Shared → Prop} (h : Q () s) : wpC M A point Q E s := fun _ _ _ _ => h
theorem wpC_at {pos : Pos} {t : Sem α} {Q : α → Shared → Prop} (h : wpC M A t Q E s) : wpC M A (standAt pos >>= fun _ => t) Q E s := wpC_bind (wpC_standAt h)
theorem wpC_release {vs keep : List Value} {Q : Unit → Shared → Prop} (h : Q () s) : wpC M A (release vs keep) Q E s := fun Γ p _ _ => by
  unfold release
  rw [Sem.wp_release_go]
  exact h
theorem wpC_operate {vs : List Value} {m : Sem Value} {Q : Value → Shared → Prop} (h : wpC M A m Q E s) : wpC M A (operate vs m) Q E s := by
  unfold operate
  exact wpC_bind (wpC_holding (wpC_mono h (fun r s' hr => wpC_bind (wpC_release (wpC_pure hr))) fun _ _ x => x))
theorem wpC_ite_neg {c : Prop} [Decidable c] {a b : Sem α} {Q : α → Shared → Prop} (hc : ¬ c) (h : wpC M A b Q E s) : wpC M A (if c then a else b) Q E s := by rw [if_neg hc]; exact h
theorem codeC_mono {c : Code} {R R' : Result → Shared → Prop} (h : codeC M A c R s) (hR : ∀ r s, R r s → R' r s) : codeC M A c R' s :=
  fun Γ p hc hΓ hcl => wpCode_mono hR (h Γ p hc hΓ hcl)
theorem wpC_run {c : Code} {h : Option Value} {Q : Flow → Shared → Prop} (ok : okCode c = true)
    (hc : codeC M (A.mark h) c (fun r s' => match r with | .ok f => Q f s' | .error e => E e s') s) (hnb : h ≠ some byPass) :
    wpC M A (run c h) Q E s :=
  fun Γ p hΓ hcl => by rw [Sem.wp_run]; exact hc _ p rfl (hΓ.enter c h p hnb) (hcl.enter ok h p)
theorem wpC_runValue {c : Code} {Q : Value → Shared → Prop} (ok : okCode c = true)
    (hc : codeC M A c (fun r s' => match r with | .ok (.ret v) => Q v s' | .ok _ => False | .error e => E e s') s) :
    wpC M A (runValue c) Q E s := fun Γ p hΓ hcl => by rw [Sem.wp_runValue]; exact hc _ p rfl (hΓ.enter c none p (by intro x; cases x)) (hcl.enter ok none p)
theorem wpC_call {f : Value} {pos : List Value} {kw : List (Str × Value)} {Q : Value → Shared → Prop}
    (hc : codeC M A (.call f ⟨pos, kw⟩) (fun r s' => match r with | .ok (.ret v) => Q v s' | .ok _ => False | .error e => E e s') s) :
    wpC M A (call f pos kw) Q E s := wpC_runValue rfl hc
theorem codeC_of_tree {c : Code} {R : Result → Shared → Prop}
    (h : wpC M (A.under c) (M.den c) (fun fin s' => match fin with | .done f => R (.ok f) s' | .again c' => (c'.quiet = true ∧ okCode c' = true) ∧ codeC M A c' R s')
      (fun e s' => R (.error e) s') s) : codeC M A c R s := fun Γ p hc hΓ hcl => by
  rw [wpCode_iff_wp, hc]
  refine Sem.wp_mono M Γ _ (fun fin p' s' h' => ?_) (fun _ _ _ h' => h') p s (h Γ p (hc ▸ hΓ.in) hcl)
  cases fin with
  | done f => exact h'
  | again c' => exact ⟨h'.1.1, h'.2 (Γ.goto c') p' rfl (hΓ.goto c') (hcl.goto h'.1.2)⟩
end
theorem bad_not {id : String} {args : Args} (hid : badIds.contains id = true) (h : okCode (.builtin id args) = true) : False := by
  simp only [okCode, hid] at h
  exact Bool.noConfusion h
theorem notExported (self : Value) (c : Code) (p : Pos) (h : okCode c = true) : (match (c, p) with
    | (.builtin "bytearray.__contains__" ⟨v :: _, _⟩, _) | (.builtin "bytearray.__mod__" ⟨v :: _, _⟩, _)
    | (.builtin "bytearray.__rmod__" ⟨_ :: v :: _, _⟩, _) | (.builtin "_struct.pack_into.held" ⟨v :: _, _⟩, _) => Builtin.Bytes.sameRef v self
    | (.builtin "bytearray.find.held" ⟨_ :: _ :: held, _⟩, _) => held.any (Builtin.Bytes.sameRef self)
    | (.builtin id ⟨v :: _, _⟩, _) => Builtin.Bytes.sameRef v self && Builtin.Bytes.decodersThatHold.contains id
    | _ => false) = false := by
  induction c using Code.casesOn with
  | builtin id a =>
    have n1 : id ≠ "bytearray.__contains__" := fun q => bad_not (by decide) (q ▸ h)
    have n2 : id ≠ "bytearray.__mod__" := fun q => bad_not (by decide) (q ▸ h)
    have n3 : id ≠ "bytearray.__rmod__" := fun q => bad_not (by decide) (q ▸ h)
    have n4 : id ≠ "_struct.pack_into.held" := fun q => bad_not (by decide) (q ▸ h)
    have n5 : id ≠ "bytearray.find.held" := fun q => bad_not (by decide) (q ▸ h)
    obtain ⟨pos, kw⟩ := a
    delta notExported.match_1
    show dite (id = "bytearray.__contains__") _ _ = false
    rw [dif_neg n1, dif_neg n2, dif_neg n3, dif_neg n4, dif_neg n5]
    induction pos using List.casesOn with
    | nil => rfl
    | cons v vs =>
      simp only [okCode, badIds, List.contains_eq_any_beq, List.any_append, Bool.not_or, Bool.and_eq_true, Bool.not_eq_true'] at h
      show (_ && _) = false
      rw [List.contains_eq_any_beq, h.2, Bool.and_false]
  | _ => rfl
theorem wpC_exported {M : Model} {A : Around} {E : Value → Shared → Prop} {s : Shared} {self : Value} {Q : Bool → Shared → Prop} (h : Q false s) :
    wpC M A (Builtin.Bytes.exported self) Q E s := fun Γ p hΓ hc => by
  unfold Builtin.Bytes.exported
  rw [Sem.wp_bind']
  show Q _ s
  rw [List.any_eq_false.mpr]
  · exact h
  · rintro ⟨c, p'⟩ hx
    have hok : okCode c = true := by
      rcases List.mem_cons.mp hx with e | hx
      · cases e; exact hc.1
      · exact hc.2 _ hx
    exact Bool.eq_false_iff.mp (notExported self c p' hok)
end Rk
end

section
open PySem PySem.W PySem.Calls PyProof.Rows
set_option maxRecDepth 100000
namespace Rk
open Sem (wp)
theorem clean_caller : Cl ⟨.builtin "claim.caller" {}, none, none, [], none⟩ := ⟨by decide, fun _ hx => nomatch hx⟩
theorem thread_endsC {prog : Program} {w : World} {t : Sem Fin} {s : Shared} {R : Result → Shared → Prop} (hreg : s.asleep)
    (h : wpC (model prog w) callerA t (fun fin s' => ∃ f, fin = .done f ∧ (R (.ok f) s' ∧ leftWithCleanup s'.gens = false)) (fun e s' => R (.error e) s' ∧ leftWithCleanup s'.gens = false) s) :
    ∃ n r s' s'', runN (denote table) prog w n s ⟨t, .builtin "claim.caller" {}, default, []⟩ = .halted (outcomeOf r) s' ∧
      schedN (denote table) prog w n (.single s ⟨t, .builtin "claim.caller" {}, default, []⟩) = .halted (outcomeOf r) s' ∧ s'.forget = s''.forget ∧ R r s'' := by
  have h0 := h _ default caller_in clean_caller
  have h1 : Sem.wp (model prog w) ⟨.builtin "claim.caller" {}, none, none, [], none⟩ t
      (Sem.finPost (model prog w) ⟨.builtin "claim.caller" {}, none, none, [], none⟩ fun r s' => R r s' ∧ leftWithCleanup s'.gens = false)
      (fun e _ s' => R (.error e) s' ∧ leftWithCleanup s'.gens = false) default s :=
    Sem.wp_mono _ _ t (fun fin p' s' h' => by obtain ⟨f, rfl, hf⟩ := h'; exact hf) (fun _ _ _ h' => h') default s h0
  obtain ⟨n, r, s₁, s₂, hs, hn, hfo, hR⟩ := wp_halts_full (M := model prog w) (R := R) hreg h1
  exact ⟨n, r, s₂, s₁, hn, hs, hfo, hR⟩
noncomputable abbrev WalkC (q : Program) (loose : List Str) (XP : (Str → Option Value) → Heap → Prop) (YP : World → Heap → Prop) (r : RowW) (d : DefRec) (kwd : List (Str × Expr)) : Prop :=
  ∀ (w : World) (s₀ s₁ : Shared) (mg mb : Str → Option Value), Ground q loose r.records XP w s₀ mg mb s₁.heap → YP w s₁.heap → ∀ (a : Addr) (o : Obj) (pm cd doc dV kV : Value), s₁.heap.get? a = some o →
    o.data = .func { docDef d.name d.params d.body d.scope pm cd doc with defaults := dV, kwdefaults := kV } → s₁.heap.CodeRec cd d.name → Dflts mg s₁.heap d.params kwd dV kV → mg d.name = some (.ref a) → s₁.gens = #[] →
    ∀ (args : List WData) (vals : List Value) (as : List Addr), r.claim.pre args = true → WData.layableAll args = true → ReadsAllW r.records (classAt s₀.heap) s₁.heap vals args as → WellAll w.params s₁.heap vals args → (∀ a ∈ as, (a == sysModules) = false) →
      wpC (model r.prog w) callerA (PySem.call (.ref a) vals) (fun v s' => GoodWG r.claim (classAt s₀.heap) (ExcName.means s₀.heap) args s₁ (.ok (.ret v)) s')
        (fun e s' => GoodWG r.claim (classAt s₀.heap) (ExcName.means s₀.heap) args s₁ (.error e) s') s₁
theorem case_k {V X Y Z : Type} {a a2 b c d p p2 q : V → Prop} {a' a2' b' c' d' e' p' p2' : X → Y → Z → Prop} (h : (∃ v, a v ∧ b v ∧ c v ∧ d v ∧ p v ∧ q v) ∨ ∃ x y z, a' x y z ∧ b' x y z ∧ c' x y z ∧ d' x y z ∧ e' x y z ∧ p' x y z)
    (j : ∀ v, a v → a2 v) (j' : ∀ x y z, a' x y z → a2' x y z) (k : ∀ v, p v → p2 v) (k' : ∀ x y z, p' x y z → p2' x y z) : (∃ v, a2 v ∧ b v ∧ c v ∧ d v ∧ p2 v ∧ q v) ∨ ∃ x y z, a2' x y z ∧ b' x y z ∧ c' x y z ∧ d' x y z ∧ e' x y z ∧ p2' x y z := by
  rcases h with ⟨v, h1, h2, h3, h4, h5, h6⟩ | ⟨x, y, z, h1, h2, h3, h4, h5, h6⟩
  · exact .inl ⟨v, j v h1, h2, h3, h4, k v h5, h6⟩
  · exact .inr ⟨x, y, z, j' x y z h1, h2, h3, h4, h5, k' x y z h6⟩
theorem callC {r : RowW} {q : Program} {loose defs kps : List Str} {writes : Bool} {Xt : Shared → Bool} {XP : (Str → Option Value) → Heap → Prop} {α : Type} {Yf : Shared → α} {Ya : World → α} {YP : World → Heap → Prop} {d : DefRec} {kwd : List (Str × Expr)} {N : Nat}
    (left : LeftO r.prog q loose Xt Yf Ya N) (hY : ∀ w s, Yf s = Ya w → YP w s.heap) (hYk : ∀ w h h', YP w h → (∀ b o, h.get? b = some o → h'.get? b = some o) → YP w h')
    (hX : ∀ s, Xt s = true → XP (s.heap.nsMap mainGlobals) s.heap) (hXk : ∀ mg h h', XP mg h → (∀ b o, h.get? b = some o → h'.get? b = some o) → XP mg h')
    (hdef : defOf q r.name = some (d, kwd)) (hRf : ∀ s, Xt s = true → RecFacts r.records s.heap) (hwr : (!writes || r.records.isEmpty) = true)
    (ok : (chainsOk q && opensWell r.prog && (frees r && r.within.isEmpty)) = true) (hb : r.prog.bare) (hw : r.promised)
    (pin : ∀ w s, s.heap.isNs mainGlobals = true → Ground q loose [] XP w s (s.heap.nsMap mainGlobals) (s.heap.nsMap builtinsNs) s.heap → ∀ n ∈ defs, isTheDefsW r.prog s.heap n)
    (call : WalkC q loose XP YP r d kwd) :
    r.claim.HoldsOpenBy (fun vs => ⟨(do match ← nsGet mainNs r.name with
      | some f => do ret (← PySem.call f vs)
      | none => unsupported "claim.caller:no-such-global" : Sem Fin), .builtin "claim.caller" {}, default, []⟩) defs kps writes := by
  obtain ⟨ok, kf⟩ := Bool.and_eq_true_iff.mp ok
  obtain ⟨hch, ow⟩ := Bool.and_eq_true_iff.mp ok
  obtain ⟨kf, kw⟩ := Bool.and_eq_true_iff.mp kf
  obtain ⟨hsame, hu, ha, hap, hm⟩ := frees_parts kf
  have hi := ident_freeW hu ha hap
  have hwi : r.claim.within = [] := List.isEmpty_iff.mp kw
  refine ⟨⟨hb, ow, by show r.makers.map _ = []; rw [hm]; rfl⟩, hw.witness, fun w => ⟨(left.behind hX hch w).1, fun s' hs' => ?_⟩⟩
  refine hide fun QQ dn => ?_
  obtain ⟨s₀, hf, hg0, s, hT, hz, hgens, hg, G00, y⟩ := (left.behind (XP := fun mg h => XP mg h ∧ RecFacts r.records h) (fun s hs => ⟨hX s hs, hRf s hs⟩) hch w).2 s' hs'
  have G0 : Ground q loose [] XP w s (s.heap.nsMap mainGlobals) (s.heap.nsMap builtinsNs) s.heap := ⟨G00.T, G00.B, G00.D, G00.TE, G00.TD, G00.W, G00.X.1, G00.cls, G00.has, G00.apart, G00.once, G00.K⟩
  have RF := G00.X.2
  refine dn ⟨s₀, hf, hg0, s, hT, pin w s hg G0, RF.1, RF.2.1, ?_⟩
  clear dn QQ
  have hgens : s.gens = #[] := Array.eq_empty_of_size_eq_zero (beq_iff_eq.mp hgens)
  have G : Ground q loose r.records XP w s _ _ s.heap := RF.ground G0
  intro args hpre hlay ord hord
  refine hide fun QQ dn => ?_
  obtain ⟨⟨vs, s₁⟩, hlaid⟩ := Option.isSome_iff_exists.mp (layAllW_isSome (P := w.params) (ord := ord) G.has args r.args s (pre_splitW hpre).1)
  have keeps := layAllW_keeps _ _ _ hlaid
  have hal := layAllW_rest _ _ _ hlaid
  obtain ⟨as, hrd, hin, hold⟩ := reads_layAllW hord _ _ _ hlaid hlay s₁.heap (fun _ _ e => e)
  have L : Laid r.records w s s₁ args vs as := ⟨⟨ord, hord, hlaid⟩, hrd, hin, hold, keeps, hal.1.trans hgens, hal.2.2.1⟩
  have G₁ := G.keeps hXk keeps
  obtain ⟨a, o, pm, cd, doc, dV, kV, h1, h2, h3, h4, h5⟩ := G₁.fn hdef
  have go := call w s s₁ _ _ G₁ (hYk _ _ _ (hY w s y) keeps) a o pm cd doc dV kV h2 h3 h4 h5 (defOf_name hdef ▸ h1) L.gens args vs as hpre hlay L.reads L.well (L.low G.low)
  have prem : wpC (model r.prog w) callerA (do match ← nsGet mainNs r.name with
      | some f => do ret (← PySem.call f vs)
      | none => unsupported "claim.caller:no-such-global" : Sem Fin)
      (fun fin s' => ∃ f, fin = .done f ∧ ((r.claim.Ends s args vs s₁ (.ok f) s' ∧ s'.os = s.os ∧ ∀ b o, s₁.heap.get? b = some o → asItWas s₁.heap s'.heap b o) ∧ leftWithCleanup s'.gens = false))
      (fun e s' => (r.claim.Ends s args vs s₁ (.error e) s' ∧ s'.os = s.os ∧ ∀ b o, s₁.heap.get? b = some o → asItWas s₁.heap s'.heap b o) ∧ leftWithCleanup s'.gens = false) s₁ := by
    refine wpC_leaf (wpAny_nsGet (G₁.T.g : s₁.heap.Ns mainNs _) ?_)
    rw [show s.heap.nsMap mainGlobals r.name = some (.ref a) from defOf_name hdef ▸ h1]
    refine wpC_bind (wpC_mono go (fun v s' g => wpC_pure ⟨_, rfl, ?_⟩) fun e s' g => ?_)
    · have z := g.laid (c := r.claim) hsame hwi hi L
      exact ⟨⟨z.1, z.2.1, g.2.1.old⟩, leftWithCleanup_false_of_bare z.2.2⟩
    · have z := g.laid (c := r.claim) hsame hwi hi L
      exact ⟨⟨z.1, z.2.1, g.2.1.old⟩, leftWithCleanup_false_of_bare z.2.2⟩
  obtain ⟨k, res, sr, sp, hrun, hsched, hfo, hcase, hos, hkp⟩ := thread_endsC
    (R := fun res s' => r.claim.Ends s args vs s₁ res s' ∧ s'.os = s.os ∧ ∀ b o, s₁.heap.get? b = some o → asItWas s₁.heap s'.heap b o)
    (Shared.asleep_of_life hal.2.2.2 hz) prem
  obtain ⟨eh, _, _, eo, _⟩ := Shared.forget_eq hfo
  have hcase := hcase.congr eh
  have hkp : ∀ b o, s₁.heap.get? b = some o → asItWas s₁.heap sr.heap b o := fun b o e => by rw [eh]; exact hkp b o e
  rw [← eo] at hos
  have hlife : sr.heap.life = s.heap.life := (runN_life _ _ _ hrun).trans hal.2.2.2
  refine dn ⟨vs, s₁, hlaid, k, _, sr, hsched, ?_, (fun _ i x hx => by rw [hgens] at hx; simp at hx), (fun q => ⟨namesKept_of hT hg kps keeps hkp, noTable hwr q⟩), by rw [hlife], Shared.rest_eq hos⟩
  exact case_k hcase (fun _ e => congrArg outcomeOf e) (fun _ _ _ e => congrArg outcomeOf e) (fun v d b o y _ => d b o y) fun _ _ _ d b o y _ => d b o y
theorem holdsC {r : OpenRow} {q : Program} {loose : List Str} {Xt : Shared → Bool} {XP : (Str → Option Value) → Heap → Prop} {α : Type} {Yf : Shared → α} {Ya : World → α} {YP : World → Heap → Prop} {d : DefRec} {kwd : List (Str × Expr)} {N : Nat}
    (left : LeftO r.prog q loose Xt Yf Ya N) (hY : ∀ w s, Yf s = Ya w → YP w s.heap) (hYk : ∀ w h h', YP w h → (∀ b o, h.get? b = some o → h'.get? b = some o) → YP w h')
    (hX : ∀ s, Xt s = true → XP (s.heap.nsMap mainGlobals) s.heap) (hXk : ∀ mg h h', XP mg h → (∀ b o, h.get? b = some o → h'.get? b = some o) → XP mg h')
    (hdef : defOf q r.name = some (d, kwd)) (hp : r.prog.theDef r.name = some (d.params, d.body, d.scope)) (hk : kwWritten? d.params.kwonlyargs d.params.kw_defaults = some kwd) (hRf : ∀ s, Xt s = true → RecFacts r.records s.heap) (hwr : (!r.writes || r.records.isEmpty) = true)
    (k1 : r.wellSaid = true) (ok : (chainsOk q && opensWell r.prog && (frees r.toRowW && r.within.isEmpty)) = true) (hb : r.prog.bare) (hw : r.toRowW.promised)
    (call : WalkC q loose XP YP r.toRowW d kwd) : r.Holds :=
  ⟨k1, hw, callC left hY hYk hX hXk hdef hRf hwr ok hb hw (fun w s hg G n hn => by
    obtain rfl : n = r.name := by split at hn <;> simp_all
    exact pinned_of_view hg G hdef hp hk) call⟩
end Rk
end

section
open PySem PySem.W PySem.Calls PyProof.Rows
set_option maxRecDepth 100000
set_option maxHeartbeats 0
namespace Rk
noncomputable abbrev pw : Program := PySem.Challenge.pw_xw0265_01
theorem said_row : PySem.Challenge.rw_xw0265_01.row.wellSaid = true := by kernel_rfl
theorem said : PySem.Challenge.rw_xw0265_01.wellSaid = true := by
  unfold OpenLaw.wellSaid
  rw [said_row]
  kernel_rfl
noncomputable def hObjs (P : Params) : List Obj := [boot_o_0 P, boot_o_1 P, boot_o_2 P, boot_o_3 P, boot_o_4 P, boot_o_5 P, boot_o_6 P, boot_o_7 P, boot_o_8 P, boot_o_9 P, boot_o_10 P,
  { cls := .type "tuple", data := .seq #[] }, { cls := .none, data := .fields #[] },
  { cls := .type "code", data := .fields #[.str (Str.ofString "<module>") 182, .str (Str.ofString "<module>") 183, .str (Str.ofString "/claim/cut.py") 184, .int 1 0, .int 0 0, .int 0 0, .int 0 0, .int 0 0, .ref 11, .bool false, .int 181 0, .ref 12, .none, .none, .none, .none, .int 185 0, .int 1 0, .str (Str.ofString "/claim/cut.py") 186] },
  { cls := .type "frame", slots := #[some (.ref 13), some (.ref 3), some (.ref 3), none, some (.str (Str.ofString "__main__") 164), none, some (.ref 0)] }]
noncomputable def hHeap (P : Params) : Heap := { objs := (hObjs P).toArray }
noncomputable def hTree (P : Params) : BT :=
  let o (i : Nat) : Obj := (hObjs P).getD i default
  .node (o 0) (.node (o 1) (.node (o 3) (.node (o 7) .nil .nil) (.node (o 11) .nil .nil)) (.node (o 5) (.node (o 9) .nil .nil) (.node (o 13) .nil .nil)))
    (.node (o 2) (.node (o 4) (.node (o 8) .nil .nil) (.node (o 12) .nil .nil)) (.node (o 6) (.node (o 10) .nil .nil) (.node (o 14) .nil .nil)))
noncomputable def hEnv : Env := { scope := pw.main.scope, locals := mainNs, globals := mainNs, cells := [], code := .ref 13, frame := some 14 }
noncomputable abbrev hBody : List Stmt := behindTheImports pw
noncomputable abbrev hCode : Code := .body hBody hEnv
noncomputable abbrev q0 : Pos := ⟨0, 0, 0, 0⟩
noncomputable abbrev hS (w : World) (os : OsState) : SharedT := ⟨hTree w.params, 15, {}, #[], {}, 187, os⟩
noncomputable abbrev hRun (w : World) (os : OsState) : Option (Flow × SharedT × Code × Pos) := segRunT treeTable pw w 11 (some (.ref 6)) 1 7000 (hS w os) (piecesOf hBody hEnv hCode q0 [topFrame q0])
theorem hpre (w : World) (os : OsState) : topGo treeTable pw w 11 (some (.ref 6)) 12 ⟨boot_heap w.params, #[], boot_drawn, boot_toks, os⟩ (topStub pw) =
    some (⟨hHeap w.params, #[], {}, 187, os⟩, ⟨denote treeTable hCode, hCode, q0, [topFrame q0]⟩) := by kernel_rfl
theorem hblock (w : World) (os : OsState) : segRun treeTable pw w 11 (some (.ref 6)) 1 1 ⟨hHeap w.params, #[], {}, 187, os⟩ (blockOf hBody hEnv hCode q0 [topFrame q0]) =
    some (.next, (hS w os).abs, hCode, q0) := by kernel_rfl
theorem hfin (w : World) (s : Shared) (p : Pos) : topRun treeTable pw w 11 (some (.ref 6)) 10 s (restOf [] hEnv hCode p [topFrame q0]) = some s := by
  show topRun treeTable pw w 11 (some (.ref 6)) 10 s ⟨doneF .next, hCode, p, [topFrame q0]⟩ = some s
  rw [PySem.W.Fast.te14082659384304107361, PySem.W.Fast.te14364793385576792824]
  unfold hCode hBody hEnv pw
  kernel_rfl
theorem hopen1 : opening pw = plainProg pw.main.scope.names := Eq.refl (opening pw)
theorem hopen2 : ∀ s, fenceModules? pw s = some s := fun s => Eq.refl (some s)
theorem hopen : ∀ w : World, (fencedOpening treeTable pw w 8000).map (fun s => (s.heap, s.gens, s.drawn, s.toks)) = some (boot_heap w.params, Array.mk [], boot_drawn, boot_toks) :=
  boot_open hopen1 rfl hopen2
theorem hsize (w : World) : ((boot_heap w.params).isNs mainGlobals && (#[] : Array GenState).size == 0, (boot_heap w.params).objs.size, (boot_heap w.params).nsMap mainGlobals "__annotations__") = (true, 11, some (.ref 6)) := by kernel_rfl
theorem left_gen {p q : Program} {loose : List Str} {Xt : Shared → Bool} {α : Type} {Yf : Shared → α} {Ya : World → α} {H₀ : Params → Heap} {gs₀ : Array GenState} {d₀ : Drawn} {k₀ m₀ N n₁ n₂ n₃ n₄ : Nat} {ann : Option Value}
    {env : Env} {body : List Stmt} {c : Code} {q₀ : Pos} {s₁ : World → OsState → Shared} {S : World → OsState → SharedT}
    (open_ : ∀ w : World, (fencedOpening treeTable p w N).map (fun s => (s.heap, s.gens, s.drawn, s.toks)) = some (H₀ w.params, gs₀, d₀, k₀))
    (size : ∀ w : World, ((H₀ w.params).isNs mainGlobals && gs₀.size == 0, (H₀ w.params).objs.size, (H₀ w.params).nsMap mainGlobals "__annotations__") = (true, m₀, ann))
    (pre : ∀ w os, topGo treeTable p w m₀ ann n₁ ⟨H₀ w.params, gs₀, d₀, k₀, os⟩ (topStub p) = some (s₁ w os, ⟨denote treeTable (.body body env), c, q₀, [topFrame q₀]⟩))
    (block : ∀ w os, segRun treeTable p w m₀ ann 1 n₂ (s₁ w os) (blockOf body env c q₀ [topFrame q₀]) = some (.next, (S w os).abs, c, q₀))
    (fin : ∀ (w : World) (s : Shared) (x : Pos), topRun treeTable p w m₀ ann n₄ s (restOf [] env c x [topFrame q₀]) = some s)
    (le : n₁ + (n₂ + (n₃ + n₄)) ≤ N)
    (h : ∀ (w : World) (os : OsState), ∃ s x, segRunT treeTable p w m₀ ann 1 n₃ (S w os) (piecesOf body env c q₀ [topFrame q₀]) = some (.next, s, c, x) ∧
      (staticsOk (importedModules p.main.body) (H₀ w.params) s.abs.heap && namesBound p s.abs.heap && gensDone s.abs && laidKept (H₀ w.params) s.abs.heap) = true ∧
      openSeen q loose (importedModules p.main.body) Xt true s.abs = openGood q loose ∧ Yf s.abs = Ya w) : LeftO p q loose Xt Yf Ya N := fun w => by
  obtain ⟨⟨h0, gs, d, k, os⟩, e, e'⟩ := Option.map_eq_some_iff.mp (open_ w)
  obtain ⟨rfl, rfl, rfl, rfl⟩ : h0 = H₀ w.params ∧ gs = gs₀ ∧ d = d₀ ∧ k = k₀ := by simpa using e'
  obtain ⟨z1, z2, z3⟩ : _ ∧ _ ∧ _ := by simpa only [Prod.mk.injEq] using size w
  obtain ⟨s, x, hr, l1, l2, l3⟩ := h w os
  have r2 := piece_app (segRun_of hr) (rest := []) (fin w s.abs x)
  rw [List.append_nil] at r2
  have r1 := piece_block (block w os) r2
  have r0 := go_top (pre w os) r1
  have r := topRun_mono (N - (n₁ + (n₂ + (n₃ + n₄)))) _ _ _ _ r0
  rw [show n₁ + (n₂ + (n₃ + n₄)) + (N - (n₁ + (n₂ + (n₃ + n₄)))) = N by omega] at r
  have t : topFrom treeTable p w N ⟨H₀ w.params, gs, d, k, os⟩ = some s.abs := by
    unfold topFrom
    dsimp only
    rw [z1, z2, z3, r]
    show (match staticsOk (importedModules p.main.body) (H₀ w.params) s.abs.heap && namesBound p s.abs.heap && gensDone s.abs && laidKept (H₀ w.params) s.abs.heap with | true => _ | false => _) = _
    rw [l1]
  unfold openEnds
  rw [e]
  show (topFrom treeTable p w N _).map _ = _
  rw [t]
  exact congrArg some (Prod.ext l2 l3)
theorem left_of {q : Program} {loose : List Str} {Xt : Shared → Bool} {α : Type} {Yf : Shared → α} {Ya : World → α}
    (h : ∀ (w : World) (os : OsState), ∃ s x, hRun w os = some (.next, s, hCode, x) ∧
      (staticsOk (importedModules pw.main.body) (boot_heap w.params) s.abs.heap && namesBound pw s.abs.heap && gensDone s.abs && laidKept (boot_heap w.params) s.abs.heap) = true ∧
      openSeen q loose (importedModules pw.main.body) Xt true s.abs = openGood q loose ∧ Yf s.abs = Ya w) : LeftO pw q loose Xt Yf Ya 8000 :=
  left_gen hopen hsize hpre hblock hfin (Nat.le_of_ble_eq_true rfl) h
end Rk
end

section
open PySem PySem.W PySem.Calls PyProof.Rows
set_option maxRecDepth 100000
set_option maxHeartbeats 0
namespace Rk
noncomputable def stD (i : Nat) : Stmt := pw.main.body.getD i (.Pass q0)
noncomputable def stM (i j : Nat) : Stmt := match stD i with
  | .ClassDef _ _ _ b _ _ _ _ _ _ _ => b.getD j (.Pass q0)
  | _ => .Pass q0
noncomputable def sParams : Stmt → Arguments
  | .FunctionDef _ a _ _ _ _ _ _ _ _ => a
  | _ => ⟨[], [], none, [], [], none, []⟩
noncomputable def sBody : Stmt → List Stmt
  | .FunctionDef _ _ b _ _ _ _ _ _ _ => b
  | _ => []
noncomputable def sScope : Stmt → Scope
  | .FunctionDef _ _ _ _ _ _ s _ _ _ => s
  | _ => pw.main.scope
noncomputable abbrev fnD (name qual : String) (st : Stmt) (dV pm : Value) (cd : Addr) : FuncData := fnOf (Str.ofString name) (Str.ofString qual) (sParams st) (sBody st) (sScope st) dV .none .none pm none (.ref cd) .none
noncomputable abbrev fnO (name qual : String) (st : Stmt) (dV pm : Value) (cd : Addr) : Obj := { cls := .type "function", data := .func (fnD name qual st dV pm cd) }
noncomputable abbrev en (P : Params) (x : String) (t : Tok) (v : Value) : DictEntry := ⟨PyData.keyHash P (Str.ofString x), .str (Str.ofString x) t, v⟩
noncomputable def kObjs (P : Params) : Frag := [
  (3, (Obj.mk (.type "dict") none (Data.dict #[en P "__name__" 165 (.str (Str.ofString "law_xw0265_01") 733), en P "__doc__" 166 .none, en P "__package__" 167 .none, en P "__loader__" 168 (.builtin "__main__.__loader__#opaque"), en P "__spec__" 169 .none, en P "__annotations__" 170 (.ref 6), en P "__builtins__" 171 (.ref 4), en P "__file__" 173 (.str (Str.ofString "/claim/cut.py") 172), en P "__cached__" 174 .none, en P "_wall" 193 (.ref 21), en P "KeepError" 215 (.ref 31), en P "StoreError" 231 (.ref 44), en P "Corrupt" 247 (.ref 56), en P "ShortOctets" 263 (.ref 68), en P "BadOption" 279 (.ref 80), en P "MAX_32" 283 (.int 4294967295 282), en P "MAX_64" 285 (.int 18446744073709551615 284), en P "CHECK_CRC" 287 (.int 1 286), en P "CHECK_SUM" 289 (.int 2 288), en P "CRC_POLY" 291 (.int 2197175160 290), en P "MASK_DELTA" 293 (.int 2726488792 292), en P "write_groups" 302 (.ref 89), en P "read_groups" 316 (.ref 96), en P "put_varint" 323 (.ref 103), en P "read_varint" 331 (.ref 110), en P "put_varint32" 338 (.ref 117), en P "read_varint32" 346 (.ref 124), en P "put_fixed32" 353 (.ref 131), en P "read_fixed32" 361 (.ref 138), en P "read_lengthed" 370 (.ref 145), en P "make_crc_table" 380 (.ref 152), en P "crc32c" 392 (.ref 160), en P "mask" 399 (.ref 167), en P "checksum" 407 (.ref 174), en P "Cursor" 509 (.ref 255), en P "Sink" 600 (.ref 332), en P "MAX_SEQ" 602 (.int 72057594037927935 601), en P "MOST_LEVELS" 604 (.int 12 603), en P "RunInfo" 658 (.ref 367), en P "Manifesto" 713 (.ref 402), en P "decode_manifesto" 732 (.ref 413), en P "_law_HEAD" 736 (.str (Str.ofString "nnotn") 735), en P "_law_RUN" 738 (.str (Str.ofString "lnxtt") 737), en P "_law_NUMBERS" 747 (.ref 414), en P "_law_ORDERS" 756 (.ref 415), en P "_law_LEVELS" 768 (.ref 416), en P "_law_number" 781 (.ref 423), en P "_law_field" 787 (.ref 428), en P "_law_fields" 800 (.ref 435), en P "_law_read" 812 (.ref 442), en P "_law_varint" 820 (.ref 449), en P "_law_part" 826 (.ref 454), en P "_law_write" 839 (.ref 461), en P "_law_sum" 848 (.ref 468), en P "_law_kin" 860 (.ref 475), en P "_law_fits" 872 (.ref 482), en P "_law_agrees" 888 (.ref 489), en P "_law_word" 897 (.ref 496), en P "_law_body" 904 (.ref 503), en P "_law_run" 915 (.ref 510), en P "_law_hurt" 932 (.ref 517), en P "_law_draw" 940 (.ref 524), en P "law" 946 (.ref 529)] 63) #[])),
  (30, (Obj.mk (.type "dict") none (Data.dict #[en P "__module__" 203 (.str (Str.ofString "raftkeep.errors") 194), en P "__firstlineno__" 207 (.int 5 206), en P "__static_attributes__" 208 (.ref 29), en P "__weakref__" 210 (.ref 32), en P "__doc__" 211 .none] 3) #[])),
  (31, (Obj.mk (.type "type") none (Data.cls (ClassData.mk (Str.ofString "KeepError") [(.type "Exception")] [(.ref 31), (.type "Exception"), (.type "BaseException"), (.type "object")] 30 (Str.ofString "KeepError") true [] [(.ref 44)] false none false)) #[(some (.ref 22)), none, (some (.str (Str.ofString "KeepError") 196)), (some (.str (Str.ofString "KeepError") 204)), (some (.builtin "Exception.__new__")), (some (.bool true))])),
  (43, (Obj.mk (.type "dict") none (Data.dict #[en P "__module__" 223 (.str (Str.ofString "raftkeep.errors") 194), en P "__firstlineno__" 227 (.int 7 226), en P "__static_attributes__" 228 (.ref 42), en P "__doc__" 229 .none] 2) #[])),
  (44, (Obj.mk (.type "type") none (Data.cls (ClassData.mk (Str.ofString "StoreError") [(.ref 31)] [(.ref 44), (.ref 31), (.type "Exception"), (.type "BaseException"), (.type "object")] 43 (Str.ofString "StoreError") true [] [(.ref 56), (.ref 80)] false none false)) #[(some (.ref 35)), none, (some (.str (Str.ofString "StoreError") 216)), (some (.str (Str.ofString "StoreError") 224)), (some (.builtin "Exception.__new__")), (some (.bool true))])),
  (55, (Obj.mk (.type "dict") none (Data.dict #[en P "__module__" 239 (.str (Str.ofString "raftkeep.errors") 194), en P "__firstlineno__" 243 (.int 9 242), en P "__static_attributes__" 244 (.ref 54), en P "__doc__" 245 .none] 2) #[])),
  (56, (Obj.mk (.type "type") none (Data.cls (ClassData.mk (Str.ofString "Corrupt") [(.ref 44)] [(.ref 56), (.ref 44), (.ref 31), (.type "Exception"), (.type "BaseException"), (.type "object")] 55 (Str.ofString "Corrupt") true [] [(.ref 68)] false none false)) #[(some (.ref 47)), none, (some (.str (Str.ofString "Corrupt") 232)), (some (.str (Str.ofString "Corrupt") 240)), (some (.builtin "Exception.__new__")), (some (.bool true))])),
  (67, (Obj.mk (.type "dict") none (Data.dict #[en P "__module__" 255 (.str (Str.ofString "raftkeep.errors") 194), en P "__firstlineno__" 259 (.int 11 258), en P "__static_attributes__" 260 (.ref 66), en P "__doc__" 261 .none] 2) #[])),
  (68, (Obj.mk (.type "type") none (Data.cls (ClassData.mk (Str.ofString "ShortOctets") [(.ref 56)] [(.ref 68), (.ref 56), (.ref 44), (.ref 31), (.type "Exception"), (.type "BaseException"), (.type "object")] 67 (Str.ofString "ShortOctets") true [] [] false none false)) #[(some (.ref 59)), none, (some (.str (Str.ofString "ShortOctets") 248)), (some (.str (Str.ofString "ShortOctets") 256)), (some (.builtin "Exception.__new__")), (some (.bool true))])),
  (79, (Obj.mk (.type "dict") none (Data.dict #[en P "__module__" 271 (.str (Str.ofString "raftkeep.errors") 194), en P "__firstlineno__" 275 (.int 13 274), en P "__static_attributes__" 276 (.ref 78), en P "__doc__" 277 .none] 2) #[])),
  (80, (Obj.mk (.type "type") none (Data.cls (ClassData.mk (Str.ofString "BadOption") [(.ref 44)] [(.ref 80), (.ref 44), (.ref 31), (.type "Exception"), (.type "BaseException"), (.type "object")] 79 (Str.ofString "BadOption") true [] [] false none false)) #[(some (.ref 71)), none, (some (.str (Str.ofString "BadOption") 264)), (some (.str (Str.ofString "BadOption") 272)), (some (.builtin "Exception.__new__")), (some (.bool true))])),
  (88, (Obj.mk (.type "code") none (Data.fields #[(.str (Str.ofString "write_groups") 294), (.str (Str.ofString "write_groups") 295), (.str (Str.ofString "/claim/cut.py") 296), (.int 22 0), (.int 2 0), (.int 0 0), (.int 0 0), (.int 3 0), (.ref 83), (.bool true), (.int 181 0), (.ref 84), .none, (.ref 85), (.ref 86), (.ref 87), (.int 300 0), (.int 22 0), (.str (Str.ofString "/claim/cut.py") 301)]) #[])),
  (89, fnO "write_groups" "write_groups" (stD 14) .none (.str (Str.ofString "raftkeep.octets") 280) 88),
  (95, (Obj.mk (.type "code") none (Data.fields #[(.str (Str.ofString "read_groups") 303), (.str (Str.ofString "read_groups") 304), (.str (Str.ofString "/claim/cut.py") 305), (.int 31 0), (.int 4 0), (.int 0 0), (.int 0 0), (.int 3 0), (.ref 90), (.bool true), (.int 181 0), (.ref 91), .none, (.ref 92), (.ref 93), (.ref 94), (.int 314 0), (.int 31 0), (.str (Str.ofString "/claim/cut.py") 315)]) #[])),
  (96, fnO "read_groups" "read_groups" (stD 15) .none (.str (Str.ofString "raftkeep.octets") 280) 95),
  (102, (Obj.mk (.type "code") none (Data.fields #[(.str (Str.ofString "put_varint") 317), (.str (Str.ofString "put_varint") 318), (.str (Str.ofString "/claim/cut.py") 319), (.int 48 0), (.int 1 0), (.int 0 0), (.int 0 0), (.int 3 0), (.ref 97), (.bool true), (.int 181 0), (.ref 98), .none, (.ref 99), (.ref 100), (.ref 101), (.int 321 0), (.int 48 0), (.str (Str.ofString "/claim/cut.py") 322)]) #[])),
  (103, fnO "put_varint" "put_varint" (stD 16) .none (.str (Str.ofString "raftkeep.octets") 280) 102),
  (109, (Obj.mk (.type "code") none (Data.fields #[(.str (Str.ofString "read_varint") 324), (.str (Str.ofString "read_varint") 325), (.str (Str.ofString "/claim/cut.py") 326), (.int 52 0), (.int 2 0), (.int 0 0), (.int 0 0), (.int 3 0), (.ref 104), (.bool true), (.int 181 0), (.ref 105), .none, (.ref 106), (.ref 107), (.ref 108), (.int 329 0), (.int 52 0), (.str (Str.ofString "/claim/cut.py") 330)]) #[])),
  (110, fnO "read_varint" "read_varint" (stD 17) .none (.str (Str.ofString "raftkeep.octets") 280) 109),
  (116, (Obj.mk (.type "code") none (Data.fields #[(.str (Str.ofString "put_varint32") 332), (.str (Str.ofString "put_varint32") 333), (.str (Str.ofString "/claim/cut.py") 334), (.int 56 0), (.int 1 0), (.int 0 0), (.int 0 0), (.int 3 0), (.ref 111), (.bool true), (.int 181 0), (.ref 112), .none, (.ref 113), (.ref 114), (.ref 115), (.int 336 0), (.int 56 0), (.str (Str.ofString "/claim/cut.py") 337)]) #[])),
  (117, fnO "put_varint32" "put_varint32" (stD 18) .none (.str (Str.ofString "raftkeep.octets") 280) 116),
  (123, (Obj.mk (.type "code") none (Data.fields #[(.str (Str.ofString "read_varint32") 339), (.str (Str.ofString "read_varint32") 340), (.str (Str.ofString "/claim/cut.py") 341), (.int 60 0), (.int 2 0), (.int 0 0), (.int 0 0), (.int 3 0), (.ref 118), (.bool true), (.int 181 0), (.ref 119), .none, (.ref 120), (.ref 121), (.ref 122), (.int 344 0), (.int 60 0), (.str (Str.ofString "/claim/cut.py") 345)]) #[])),
  (124, fnO "read_varint32" "read_varint32" (stD 19) .none (.str (Str.ofString "raftkeep.octets") 280) 123),
  (130, (Obj.mk (.type "code") none (Data.fields #[(.str (Str.ofString "put_fixed32") 347), (.str (Str.ofString "put_fixed32") 348), (.str (Str.ofString "/claim/cut.py") 349), (.int 64 0), (.int 1 0), (.int 0 0), (.int 0 0), (.int 3 0), (.ref 125), (.bool true), (.int 181 0), (.ref 126), .none, (.ref 127), (.ref 128), (.ref 129), (.int 351 0), (.int 64 0), (.str (Str.ofString "/claim/cut.py") 352)]) #[])),
  (131, fnO "put_fixed32" "put_fixed32" (stD 20) .none (.str (Str.ofString "raftkeep.octets") 280) 130),
  (137, (Obj.mk (.type "code") none (Data.fields #[(.str (Str.ofString "read_fixed32") 354), (.str (Str.ofString "read_fixed32") 355), (.str (Str.ofString "/claim/cut.py") 356), (.int 68 0), (.int 2 0), (.int 0 0), (.int 0 0), (.int 3 0), (.ref 132), (.bool true), (.int 181 0), (.ref 133), .none, (.ref 134), (.ref 135), (.ref 136), (.int 359 0), (.int 68 0), (.str (Str.ofString "/claim/cut.py") 360)]) #[])),
  (138, fnO "read_fixed32" "read_fixed32" (stD 21) .none (.str (Str.ofString "raftkeep.octets") 280) 137),
  (144, (Obj.mk (.type "code") none (Data.fields #[(.str (Str.ofString "read_lengthed") 362), (.str (Str.ofString "read_lengthed") 363), (.str (Str.ofString "/claim/cut.py") 364), (.int 72 0), (.int 2 0), (.int 0 0), (.int 0 0), (.int 3 0), (.ref 139), (.bool true), (.int 181 0), (.ref 140), .none, (.ref 141), (.ref 142), (.ref 143), (.int 368 0), (.int 72 0), (.str (Str.ofString "/claim/cut.py") 369)]) #[])),
  (145, fnO "read_lengthed" "read_lengthed" (stD 22) .none (.str (Str.ofString "raftkeep.octets") 280) 144),
  (173, (Obj.mk (.type "code") none (Data.fields #[(.str (Str.ofString "checksum") 400), (.str (Str.ofString "checksum") 401), (.str (Str.ofString "/claim/cut.py") 402), (.int 100 0), (.int 2 0), (.int 0 0), (.int 0 0), (.int 3 0), (.ref 168), (.bool true), (.int 181 0), (.ref 169), .none, (.ref 170), (.ref 171), (.ref 172), (.int 405 0), (.int 100 0), (.str (Str.ofString "/claim/cut.py") 406)]) #[])),
  (174, fnO "checksum" "checksum" (stD 26) .none (.str (Str.ofString "raftkeep.octets") 280) 173),
  (182, (Obj.mk (.type "tuple") none (Data.seq #[(.int 0 420)] 0) #[])),
  (188, (Obj.mk (.type "code") none (Data.fields #[(.str (Str.ofString "__init__") 421), (.str (Str.ofString "Cursor.__init__") 422), (.str (Str.ofString "/claim/cut.py") 423), (.int 108 0), (.int 3 0), (.int 0 0), (.int 0 0), (.int 3 0), (.ref 183), (.bool true), (.int 181 0), (.ref 184), .none, (.ref 185), (.ref 186), (.ref 187), (.int 427 0), (.int 108 0), (.str (Str.ofString "/claim/cut.py") 428)]) #[])),
  (189, fnO "__init__" "Cursor.__init__" (stM 27 0) (.ref 182) (.str (Str.ofString "raftkeep.octets") 280) 188),
  (195, (Obj.mk (.type "code") none (Data.fields #[(.str (Str.ofString "left") 430), (.str (Str.ofString "Cursor.left") 431), (.str (Str.ofString "/claim/cut.py") 432), (.int 114 0), (.int 1 0), (.int 0 0), (.int 0 0), (.int 3 0), (.ref 190), (.bool true), (.int 181 0), (.ref 191), .none, (.ref 192), (.ref 193), (.ref 194), (.int 434 0), (.int 114 0), (.str (Str.ofString "/claim/cut.py") 435)]) #[])),
  (196, fnO "left" "Cursor.left" (stM 27 1) .none (.str (Str.ofString "raftkeep.octets") 280) 195),
  (202, (Obj.mk (.type "code") none (Data.fields #[(.str (Str.ofString "varint") 437), (.str (Str.ofString "Cursor.varint") 438), (.str (Str.ofString "/claim/cut.py") 439), (.int 117 0), (.int 1 0), (.int 0 0), (.int 0 0), (.int 3 0), (.ref 197), (.bool true), (.int 181 0), (.ref 198), .none, (.ref 199), (.ref 200), (.ref 201), (.int 443 0), (.int 117 0), (.str (Str.ofString "/claim/cut.py") 444)]) #[])),
  (203, fnO "varint" "Cursor.varint" (stM 27 2) .none (.str (Str.ofString "raftkeep.octets") 280) 202),
  (209, (Obj.mk (.type "code") none (Data.fields #[(.str (Str.ofString "fixed32") 446), (.str (Str.ofString "Cursor.fixed32") 447), (.str (Str.ofString "/claim/cut.py") 448), (.int 126 0), (.int 1 0), (.int 0 0), (.int 0 0), (.int 3 0), (.ref 204), (.bool true), (.int 181 0), (.ref 205), .none, (.ref 206), (.ref 207), (.ref 208), (.int 451 0), (.int 126 0), (.str (Str.ofString "/claim/cut.py") 452)]) #[])),
  (210, fnO "fixed32" "Cursor.fixed32" (stM 27 3) .none (.str (Str.ofString "raftkeep.octets") 280) 209),
  (223, (Obj.mk (.type "code") none (Data.fields #[(.str (Str.ofString "lengthed") 461), (.str (Str.ofString "Cursor.lengthed") 462), (.str (Str.ofString "/claim/cut.py") 463), (.int 134 0), (.int 1 0), (.int 0 0), (.int 0 0), (.int 3 0), (.ref 218), (.bool true), (.int 181 0), (.ref 219), .none, (.ref 220), (.ref 221), (.ref 222), (.int 467 0), (.int 134 0), (.str (Str.ofString "/claim/cut.py") 468)]) #[])),
  (224, fnO "lengthed" "Cursor.lengthed" (stM 27 5) .none (.str (Str.ofString "raftkeep.octets") 280) 223),
  (251, (Obj.mk (.type "code") none (Data.fields #[(.str (Str.ofString "done") 493), (.str (Str.ofString "Cursor.done") 494), (.str (Str.ofString "/claim/cut.py") 495), (.int 152 0), (.int 1 0), (.int 0 0), (.int 0 0), (.int 3 0), (.ref 246), (.bool true), (.int 181 0), (.ref 247), .none, (.ref 248), (.ref 249), (.ref 250), (.int 497 0), (.int 152 0), (.str (Str.ofString "/claim/cut.py") 498)]) #[])),
  (252, fnO "done" "Cursor.done" (stM 27 9) .none (.str (Str.ofString "raftkeep.octets") 280) 251),
  (254, (Obj.mk (.type "dict") none (Data.dict #[en P "__module__" 415 (.str (Str.ofString "raftkeep.octets") 280), en P "__firstlineno__" 419 (.int 106 418), en P "__init__" 429 (.ref 189), en P "left" 436 (.ref 196), en P "varint" 445 (.ref 203), en P "fixed32" 453 (.ref 210), en P "fixed64" 460 (.ref 217), en P "lengthed" 469 (.ref 224), en P "octet" 477 (.ref 231), en P "flag" 484 (.ref 238), en P "take" 492 (.ref 245), en P "done" 499 (.ref 252), en P "__static_attributes__" 502 (.ref 253), en P "__dict__" 504 (.ref 256), en P "__weakref__" 506 (.ref 257), en P "__doc__" 507 .none] 4) #[])),
  (255, (Obj.mk (.type "type") none (Data.cls (ClassData.mk (Str.ofString "Cursor") [(.type "object")] [(.ref 255), (.type "object")] 254 (Str.ofString "Cursor") true [] [] false none false)) #[none, none, (some (.str (Str.ofString "Cursor") 408)), (some (.str (Str.ofString "Cursor") 416)), (some (.builtin "object.__new__")), (some (.bool true))])),
  (272, (Obj.mk (.type "code") none (Data.fields #[(.str (Str.ofString "__init__") 522), (.str (Str.ofString "Sink.__init__") 523), (.str (Str.ofString "/claim/cut.py") 524), (.int 157 0), (.int 1 0), (.int 0 0), (.int 0 0), (.int 3 0), (.ref 267), (.bool true), (.int 181 0), (.ref 268), .none, (.ref 269), (.ref 270), (.ref 271), (.int 526 0), (.int 157 0), (.str (Str.ofString "/claim/cut.py") 527)]) #[])),
  (273, fnO "__init__" "Sink.__init__" (stM 28 0) .none (.str (Str.ofString "raftkeep.octets") 280) 272),
  (279, (Obj.mk (.type "code") none (Data.fields #[(.str (Str.ofString "varint") 529), (.str (Str.ofString "Sink.varint") 530), (.str (Str.ofString "/claim/cut.py") 531), (.int 160 0), (.int 2 0), (.int 0 0), (.int 0 0), (.int 3 0), (.ref 274), (.bool true), (.int 181 0), (.ref 275), .none, (.ref 276), (.ref 277), (.ref 278), (.int 534 0), (.int 160 0), (.str (Str.ofString "/claim/cut.py") 535)]) #[])),
  (280, fnO "varint" "Sink.varint" (stM 28 1) .none (.str (Str.ofString "raftkeep.octets") 280) 279),
  (286, (Obj.mk (.type "code") none (Data.fields #[(.str (Str.ofString "fixed32") 537), (.str (Str.ofString "Sink.fixed32") 538), (.str (Str.ofString "/claim/cut.py") 539), (.int 166 0), (.int 2 0), (.int 0 0), (.int 0 0), (.int 3 0), (.ref 281), (.bool true), (.int 181 0), (.ref 282), .none, (.ref 283), (.ref 284), (.ref 285), (.int 542 0), (.int 166 0), (.str (Str.ofString "/claim/cut.py") 543)]) #[])),
  (287, fnO "fixed32" "Sink.fixed32" (stM 28 2) .none (.str (Str.ofString "raftkeep.octets") 280) 286),
  (300, (Obj.mk (.type "code") none (Data.fields #[(.str (Str.ofString "lengthed") 553), (.str (Str.ofString "Sink.lengthed") 554), (.str (Str.ofString "/claim/cut.py") 555), (.int 172 0), (.int 2 0), (.int 0 0), (.int 0 0), (.int 3 0), (.ref 295), (.bool true), (.int 181 0), (.ref 296), .none, (.ref 297), (.ref 298), (.ref 299), (.int 558 0), (.int 172 0), (.str (Str.ofString "/claim/cut.py") 559)]) #[])),
  (301, fnO "lengthed" "Sink.lengthed" (stM 28 4) .none (.str (Str.ofString "raftkeep.octets") 280) 300),
  (328, (Obj.mk (.type "code") none (Data.fields #[(.str (Str.ofString "done") 585), (.str (Str.ofString "Sink.done") 586), (.str (Str.ofString "/claim/cut.py") 587), (.int 187 0), (.int 1 0), (.int 0 0), (.int 0 0), (.int 3 0), (.ref 323), (.bool true), (.int 181 0), (.ref 324), .none, (.ref 325), (.ref 326), (.ref 327), (.int 589 0), (.int 187 0), (.str (Str.ofString "/claim/cut.py") 590)]) #[])),
  (329, fnO "done" "Sink.done" (stM 28 8) .none (.str (Str.ofString "raftkeep.octets") 280) 328),
  (331, (Obj.mk (.type "dict") none (Data.dict #[en P "__module__" 517 (.str (Str.ofString "raftkeep.octets") 280), en P "__firstlineno__" 521 (.int 155 520), en P "__init__" 528 (.ref 273), en P "varint" 536 (.ref 280), en P "fixed32" 544 (.ref 287), en P "fixed64" 552 (.ref 294), en P "lengthed" 560 (.ref 301), en P "octet" 568 (.ref 308), en P "flag" 576 (.ref 315), en P "raw" 584 (.ref 322), en P "done" 591 (.ref 329), en P "__static_attributes__" 593 (.ref 330), en P "__dict__" 595 (.ref 333), en P "__weakref__" 597 (.ref 334), en P "__doc__" 598 .none] 4) #[])),
  (332, (Obj.mk (.type "type") none (Data.cls (ClassData.mk (Str.ofString "Sink") [(.type "object")] [(.ref 332), (.type "object")] 331 (Str.ofString "Sink") true [] [] false none false)) #[none, none, (some (.str (Str.ofString "Sink") 510)), (some (.str (Str.ofString "Sink") 518)), (some (.builtin "object.__new__")), (some (.bool true))])),
  (349, (Obj.mk (.type "code") none (Data.fields #[(.str (Str.ofString "__init__") 619), (.str (Str.ofString "RunInfo.__init__") 620), (.str (Str.ofString "/claim/cut.py") 621), (.int 194 0), (.int 6 0), (.int 0 0), (.int 0 0), (.int 3 0), (.ref 344), (.bool true), (.int 181 0), (.ref 345), .none, (.ref 346), (.ref 347), (.ref 348), (.int 628 0), (.int 194 0), (.str (Str.ofString "/claim/cut.py") 629)]) #[])),
  (350, fnO "__init__" "RunInfo.__init__" (stM 32 0) .none (.str (Str.ofString "raftkeep.checkpoint") 605) 349),
  (356, (Obj.mk (.type "code") none (Data.fields #[(.str (Str.ofString "row") 631), (.str (Str.ofString "RunInfo.row") 632), (.str (Str.ofString "/claim/cut.py") 633), (.int 201 0), (.int 1 0), (.int 0 0), (.int 0 0), (.int 3 0), (.ref 351), (.bool true), (.int 181 0), (.ref 352), .none, (.ref 353), (.ref 354), (.ref 355), (.int 635 0), (.int 201 0), (.str (Str.ofString "/claim/cut.py") 636)]) #[])),
  (357, fnO "row" "RunInfo.row" (stM 32 1) .none (.str (Str.ofString "raftkeep.checkpoint") 605) 356),
  (363, (Obj.mk (.type "code") none (Data.fields #[(.str (Str.ofString "fits") 638), (.str (Str.ofString "RunInfo.fits") 639), (.str (Str.ofString "/claim/cut.py") 640), (.int 204 0), (.int 2 0), (.int 0 0), (.int 0 0), (.int 3 0), (.ref 358), (.bool true), (.int 181 0), (.ref 359), .none, (.ref 360), (.ref 361), (.ref 362), (.int 643 0), (.int 204 0), (.str (Str.ofString "/claim/cut.py") 644)]) #[])),
  (364, fnO "fits" "RunInfo.fits" (stM 32 2) .none (.str (Str.ofString "raftkeep.checkpoint") 605) 363),
  (366, (Obj.mk (.type "dict") none (Data.dict #[en P "__module__" 614 (.str (Str.ofString "raftkeep.checkpoint") 605), en P "__firstlineno__" 618 (.int 192 617), en P "__init__" 630 (.ref 350), en P "row" 637 (.ref 357), en P "fits" 645 (.ref 364), en P "__static_attributes__" 651 (.ref 365), en P "__dict__" 653 (.ref 368), en P "__weakref__" 655 (.ref 369), en P "__doc__" 656 .none] 4) #[])),
  (367, (Obj.mk (.type "type") none (Data.cls (ClassData.mk (Str.ofString "RunInfo") [(.type "object")] [(.ref 367), (.type "object")] 366 (Str.ofString "RunInfo") true [] [] false none false)) #[none, none, (some (.str (Str.ofString "RunInfo") 607)), (some (.str (Str.ofString "RunInfo") 615)), (some (.builtin "object.__new__")), (some (.bool true))])),
  (384, (Obj.mk (.type "code") none (Data.fields #[(.str (Str.ofString "__init__") 671), (.str (Str.ofString "Manifesto.__init__") 672), (.str (Str.ofString "/claim/cut.py") 673), (.int 208 0), (.int 6 0), (.int 0 0), (.int 0 0), (.int 3 0), (.ref 379), (.bool true), (.int 181 0), (.ref 380), .none, (.ref 381), (.ref 382), (.ref 383), (.int 680 0), (.int 208 0), (.str (Str.ofString "/claim/cut.py") 681)]) #[])),
  (385, fnO "__init__" "Manifesto.__init__" (stM 33 0) .none (.str (Str.ofString "raftkeep.checkpoint") 605) 384),
  (391, (Obj.mk (.type "code") none (Data.fields #[(.str (Str.ofString "row") 683), (.str (Str.ofString "Manifesto.row") 684), (.str (Str.ofString "/claim/cut.py") 685), (.int 215 0), (.int 1 0), (.int 0 0), (.int 0 0), (.int 3 0), (.ref 386), (.bool true), (.int 181 0), (.ref 387), .none, (.ref 388), (.ref 389), (.ref 390), (.int 689 0), (.int 215 0), (.str (Str.ofString "/claim/cut.py") 690)]) #[])),
  (392, fnO "row" "Manifesto.row" (stM 33 1) .none (.str (Str.ofString "raftkeep.checkpoint") 605) 391),
  (398, (Obj.mk (.type "code") none (Data.fields #[(.str (Str.ofString "encode") 692), (.str (Str.ofString "Manifesto.encode") 693), (.str (Str.ofString "/claim/cut.py") 694), (.int 221 0), (.int 1 0), (.int 0 0), (.int 0 0), (.int 3 0), (.ref 393), (.bool true), (.int 181 0), (.ref 394), .none, (.ref 395), (.ref 396), (.ref 397), (.int 698 0), (.int 221 0), (.str (Str.ofString "/claim/cut.py") 699)]) #[])),
  (399, fnO "encode" "Manifesto.encode" (stM 33 2) .none (.str (Str.ofString "raftkeep.checkpoint") 605) 398),
  (401, (Obj.mk (.type "dict") none (Data.dict #[en P "__module__" 666 (.str (Str.ofString "raftkeep.checkpoint") 605), en P "__firstlineno__" 670 (.int 206 669), en P "__init__" 682 (.ref 385), en P "row" 691 (.ref 392), en P "encode" 700 (.ref 399), en P "__static_attributes__" 706 (.ref 400), en P "__dict__" 708 (.ref 403), en P "__weakref__" 710 (.ref 404), en P "__doc__" 711 .none] 4) #[])),
  (402, (Obj.mk (.type "type") none (Data.cls (ClassData.mk (Str.ofString "Manifesto") [(.type "object")] [(.ref 402), (.type "object")] 401 (Str.ofString "Manifesto") true [] [] false none false)) #[none, none, (some (.str (Str.ofString "Manifesto") 659)), (some (.str (Str.ofString "Manifesto") 667)), (some (.builtin "object.__new__")), (some (.bool true))])),
  (412, (Obj.mk (.type "code") none (Data.fields #[(.str (Str.ofString "decode_manifesto") 714), (.str (Str.ofString "decode_manifesto") 715), (.str (Str.ofString "/claim/cut.py") 716), (.int 235 0), (.int 1 0), (.int 0 0), (.int 0 0), (.int 3 0), (.ref 407), (.bool true), (.int 181 0), (.ref 408), .none, (.ref 409), (.ref 410), (.ref 411), (.int 730 0), (.int 235 0), (.str (Str.ofString "/claim/cut.py") 731)]) #[])),
  (413, fnO "decode_manifesto" "decode_manifesto" (stD 34) .none (.str (Str.ofString "raftkeep.checkpoint") 605) 412),
  (414, (Obj.mk (.type "tuple") none (Data.seq #[(.int 0 739), (.int 1 740), (.int 127 741), (.int 128 742), (.int 300 743), (.int 16384 744), (.int 4294967296 745), (.int 18446744073709551615 746)] 0) #[])),
  (415, (Obj.mk (.type "tuple") none (Data.seq #[(.int 0 748), (.int 1 749), (.int 255 750), (.int 72057594037927935 751), (.int 72057594037927936 752), (.int 128 753), (.int 65536 754), (.int 4294967296 755)] 0) #[])),
  (416, (Obj.mk (.type "tuple") none (Data.seq #[(.int 0 757), (.int 1 758), (.int 5 759), (.int 11 760), (.int 2 761), (.int 7 762), (.int 10 763), (.int 0 764), (.int 1 765), (.int 2 766), (.int 12 767)] 0) #[])),
  (422, (Obj.mk (.type "code") none (Data.fields #[(.str (Str.ofString "_law_number") 769), (.str (Str.ofString "_law_number") 770), (.str (Str.ofString "/claim/cut.py") 771), (.int 262 0), (.int 4 0), (.int 0 0), (.int 0 0), (.int 3 0), (.ref 417), (.bool true), (.int 181 0), (.ref 418), .none, (.ref 419), (.ref 420), (.ref 421), (.int 779 0), (.int 262 0), (.str (Str.ofString "/claim/cut.py") 780)]) #[])),
  (423, fnO "_law_number" "_law_number" (stD 41) .none (.str (Str.ofString "law_xw0265_01") 733) 422),
  (427, (Obj.mk (.type "code") none (Data.fields #[(.str (Str.ofString "_law_field") 782), (.str (Str.ofString "_law_field") 783), (.str (Str.ofString "/claim/cut.py") 784), (.int 276 0), (.int 3 0), (.int 0 0), (.int 0 0), (.int 3 0), (.ref 424), (.bool true), (.int 181 0), (.ref 425), .none, .none, .none, (.ref 426), (.int 785 0), (.int 276 0), (.str (Str.ofString "/claim/cut.py") 786)]) #[])),
  (428, fnO "_law_field" "_law_field" (stD 42) .none (.str (Str.ofString "law_xw0265_01") 733) 427),
  (434, (Obj.mk (.type "code") none (Data.fields #[(.str (Str.ofString "_law_fields") 788), (.str (Str.ofString "_law_fields") 789), (.str (Str.ofString "/claim/cut.py") 790), (.int 292 0), (.int 3 0), (.int 0 0), (.int 0 0), (.int 3 0), (.ref 429), (.bool true), (.int 181 0), (.ref 430), .none, (.ref 431), (.ref 432), (.ref 433), (.int 798 0), (.int 292 0), (.str (Str.ofString "/claim/cut.py") 799)]) #[])),
  (435, fnO "_law_fields" "_law_fields" (stD 43) .none (.str (Str.ofString "law_xw0265_01") 733) 434),
  (441, (Obj.mk (.type "code") none (Data.fields #[(.str (Str.ofString "_law_read") 801), (.str (Str.ofString "_law_read") 802), (.str (Str.ofString "/claim/cut.py") 803), (.int 300 0), (.int 1 0), (.int 0 0), (.int 0 0), (.int 3 0), (.ref 436), (.bool true), (.int 181 0), (.ref 437), .none, (.ref 438), (.ref 439), (.ref 440), (.int 810 0), (.int 300 0), (.str (Str.ofString "/claim/cut.py") 811)]) #[])),
  (442, fnO "_law_read" "_law_read" (stD 44) .none (.str (Str.ofString "law_xw0265_01") 733) 441),
  (448, (Obj.mk (.type "code") none (Data.fields #[(.str (Str.ofString "_law_varint") 813), (.str (Str.ofString "_law_varint") 814), (.str (Str.ofString "/claim/cut.py") 815), (.int 313 0), (.int 1 0), (.int 0 0), (.int 0 0), (.int 3 0), (.ref 443), (.bool true), (.int 181 0), (.ref 444), .none, (.ref 445), (.ref 446), (.ref 447), (.int 818 0), (.int 313 0), (.str (Str.ofString "/claim/cut.py") 819)]) #[])),
  (449, fnO "_law_varint" "_law_varint" (stD 45) .none (.str (Str.ofString "law_xw0265_01") 733) 448),
  (453, (Obj.mk (.type "code") none (Data.fields #[(.str (Str.ofString "_law_part") 821), (.str (Str.ofString "_law_part") 822), (.str (Str.ofString "/claim/cut.py") 823), (.int 319 0), (.int 2 0), (.int 0 0), (.int 0 0), (.int 3 0), (.ref 450), (.bool true), (.int 181 0), (.ref 451), .none, .none, .none, (.ref 452), (.int 824 0), (.int 319 0), (.str (Str.ofString "/claim/cut.py") 825)]) #[])),
  (454, fnO "_law_part" "_law_part" (stD 46) .none (.str (Str.ofString "law_xw0265_01") 733) 453),
  (460, (Obj.mk (.type "code") none (Data.fields #[(.str (Str.ofString "_law_write") 827), (.str (Str.ofString "_law_write") 828), (.str (Str.ofString "/claim/cut.py") 829), (.int 325 0), (.int 1 0), (.int 0 0), (.int 0 0), (.int 3 0), (.ref 455), (.bool true), (.int 181 0), (.ref 456), .none, (.ref 457), (.ref 458), (.ref 459), (.int 837 0), (.int 325 0), (.str (Str.ofString "/claim/cut.py") 838)]) #[])),
  (461, fnO "_law_write" "_law_write" (stD 47) .none (.str (Str.ofString "law_xw0265_01") 733) 460),
  (467, (Obj.mk (.type "code") none (Data.fields #[(.str (Str.ofString "_law_sum") 840), (.str (Str.ofString "_law_sum") 841), (.str (Str.ofString "/claim/cut.py") 842), (.int 337 0), (.int 1 0), (.int 0 0), (.int 0 0), (.int 3 0), (.ref 462), (.bool true), (.int 181 0), (.ref 463), .none, (.ref 464), (.ref 465), (.ref 466), (.int 846 0), (.int 337 0), (.str (Str.ofString "/claim/cut.py") 847)]) #[])),
  (468, fnO "_law_sum" "_law_sum" (stD 48) .none (.str (Str.ofString "law_xw0265_01") 733) 467),
  (474, (Obj.mk (.type "code") none (Data.fields #[(.str (Str.ofString "_law_kin") 849), (.str (Str.ofString "_law_kin") 850), (.str (Str.ofString "/claim/cut.py") 851), (.int 342 0), (.int 2 0), (.int 0 0), (.int 0 0), (.int 3 0), (.ref 469), (.bool true), (.int 181 0), (.ref 470), .none, (.ref 471), (.ref 472), (.ref 473), (.int 858 0), (.int 342 0), (.str (Str.ofString "/claim/cut.py") 859)]) #[])),
  (475, fnO "_law_kin" "_law_kin" (stD 49) .none (.str (Str.ofString "law_xw0265_01") 733) 474),
  (481, (Obj.mk (.type "code") none (Data.fields #[(.str (Str.ofString "_law_fits") 861), (.str (Str.ofString "_law_fits") 862), (.str (Str.ofString "/claim/cut.py") 863), (.int 352 0), (.int 4 0), (.int 0 0), (.int 0 0), (.int 3 0), (.ref 476), (.bool true), (.int 181 0), (.ref 477), .none, (.ref 478), (.ref 479), (.ref 480), (.int 870 0), (.int 352 0), (.str (Str.ofString "/claim/cut.py") 871)]) #[])),
  (482, fnO "_law_fits" "_law_fits" (stD 50) .none (.str (Str.ofString "law_xw0265_01") 733) 481),
  (488, (Obj.mk (.type "code") none (Data.fields #[(.str (Str.ofString "_law_agrees") 873), (.str (Str.ofString "_law_agrees") 874), (.str (Str.ofString "/claim/cut.py") 875), (.int 358 0), (.int 3 0), (.int 0 0), (.int 0 0), (.int 3 0), (.ref 483), (.bool true), (.int 181 0), (.ref 484), .none, (.ref 485), (.ref 486), (.ref 487), (.int 886 0), (.int 358 0), (.str (Str.ofString "/claim/cut.py") 887)]) #[])),
  (489, fnO "_law_agrees" "_law_agrees" (stD 51) .none (.str (Str.ofString "law_xw0265_01") 733) 488),
  (495, (Obj.mk (.type "code") none (Data.fields #[(.str (Str.ofString "_law_word") 889), (.str (Str.ofString "_law_word") 890), (.str (Str.ofString "/claim/cut.py") 891), (.int 383 0), (.int 2 0), (.int 0 0), (.int 0 0), (.int 3 0), (.ref 490), (.bool true), (.int 181 0), (.ref 491), .none, (.ref 492), (.ref 493), (.ref 494), (.int 895 0), (.int 383 0), (.str (Str.ofString "/claim/cut.py") 896)]) #[])),
  (496, fnO "_law_word" "_law_word" (stD 52) .none (.str (Str.ofString "law_xw0265_01") 733) 495),
  (502, (Obj.mk (.type "code") none (Data.fields #[(.str (Str.ofString "_law_body") 898), (.str (Str.ofString "_law_body") 899), (.str (Str.ofString "/claim/cut.py") 900), (.int 386 0), (.int 1 0), (.int 0 0), (.int 0 0), (.int 3 0), (.ref 497), (.bool true), (.int 181 0), (.ref 498), .none, (.ref 499), (.ref 500), (.ref 501), (.int 902 0), (.int 386 0), (.str (Str.ofString "/claim/cut.py") 903)]) #[])),
  (503, fnO "_law_body" "_law_body" (stD 53) .none (.str (Str.ofString "law_xw0265_01") 733) 502),
  (509, (Obj.mk (.type "code") none (Data.fields #[(.str (Str.ofString "_law_run") 905), (.str (Str.ofString "_law_run") 906), (.str (Str.ofString "/claim/cut.py") 907), (.int 388 0), (.int 2 0), (.int 0 0), (.int 0 0), (.int 3 0), (.ref 504), (.bool true), (.int 181 0), (.ref 505), .none, (.ref 506), (.ref 507), (.ref 508), (.int 913 0), (.int 388 0), (.str (Str.ofString "/claim/cut.py") 914)]) #[])),
  (510, fnO "_law_run" "_law_run" (stD 54) .none (.str (Str.ofString "law_xw0265_01") 733) 509),
  (516, (Obj.mk (.type "code") none (Data.fields #[(.str (Str.ofString "_law_hurt") 916), (.str (Str.ofString "_law_hurt") 917), (.str (Str.ofString "/claim/cut.py") 918), (.int 397 0), (.int 3 0), (.int 0 0), (.int 0 0), (.int 3 0), (.ref 511), (.bool true), (.int 181 0), (.ref 512), .none, (.ref 513), (.ref 514), (.ref 515), (.int 930 0), (.int 397 0), (.str (Str.ofString "/claim/cut.py") 931)]) #[])),
  (517, fnO "_law_hurt" "_law_hurt" (stD 55) .none (.str (Str.ofString "law_xw0265_01") 733) 516),
  (523, (Obj.mk (.type "code") none (Data.fields #[(.str (Str.ofString "_law_draw") 933), (.str (Str.ofString "_law_draw") 934), (.str (Str.ofString "/claim/cut.py") 935), (.int 433 0), (.int 2 0), (.int 0 0), (.int 0 0), (.int 3 0), (.ref 518), (.bool true), (.int 181 0), (.ref 519), .none, (.ref 520), (.ref 521), (.ref 522), (.int 938 0), (.int 433 0), (.str (Str.ofString "/claim/cut.py") 939)]) #[])),
  (524, fnO "_law_draw" "_law_draw" (stD 56) .none (.str (Str.ofString "law_xw0265_01") 733) 523),
  (528, (Obj.mk (.type "code") none (Data.fields #[(.str (Str.ofString "law") 941), (.str (Str.ofString "law") 942), (.str (Str.ofString "/claim/cut.py") 943), (.int 435 0), (.int 1 0), (.int 0 0), (.int 0 0), (.int 3 0), (.ref 525), (.bool true), (.int 181 0), (.ref 526), .none, .none, .none, (.ref 527), (.int 944 0), (.int 435 0), (.str (Str.ofString "/claim/cut.py") 945)]) #[])),
  (529, fnO "law" "law" (stD 57) .none (.str (Str.ofString "law_xw0265_01") 733) 528)]
noncomputable def kAddrs : List Addr := [3, 30, 31, 43, 44, 55, 56, 67, 68, 79, 80, 88, 89, 95, 96, 102, 103, 109, 110, 116, 117, 123, 124, 130, 131, 137, 138, 144, 145, 173, 174, 182, 188, 189, 195, 196, 202, 203, 209, 210, 223, 224, 251, 252, 254, 255, 272, 273, 279, 280, 286, 287, 300, 301, 328, 329, 331, 332, 349, 350, 356, 357, 363, 364, 366, 367, 384, 385, 391, 392, 398, 399, 401, 402, 412, 413, 414, 415, 416, 422, 423, 427, 428, 434, 435, 441, 442, 448, 449, 453, 454, 460, 461, 467, 468, 474, 475, 481, 482, 488, 489, 495, 496, 502, 503, 509, 510, 516, 517, 523, 524, 528, 529]
noncomputable abbrev kHk : Hook := kHook kObjs kAddrs (fun _ => by kernel_rfl)
noncomputable def kView : Program := view pw [57]
noncomputable def kLoose : List Str := pw.boundNames.filter (fun n => n != Str.ofString "law")
end Rk
end

section
open PySem PySem.W PySem.Calls PyProof.Rows
set_option maxRecDepth 100000
set_option maxHeartbeats 0
namespace Rk
noncomputable abbrev kXt : Shared → Bool := fun s => xlAt kView [] s && recOk (RowW.records PySem.Challenge.rw_xw0265_01.row.toRowW) s
theorem krun (w : World) (os : OsState) : (hRun w os).map (fun r => ((r.1, r.2.2.1,
      staticsOk (importedModules pw.main.body) (boot_heap w.params) r.2.1.abs.heap && namesBound pw r.2.1.abs.heap && gensDone r.2.1.abs && laidKept (boot_heap w.params) r.2.1.abs.heap),
      openSeen kView kLoose (importedModules pw.main.body) kXt true r.2.1.abs, kAddrs.map r.2.1.abs.heap.get?)) = some ((.next, hCode, true), openGood kView kLoose, (kObjs w.params).map fun p => some p.2) := by
  unfold hRun
  rw [PySem.W.Fast.te10110043849684766642, PySem.W.Fast.te14364793385576792824, PySem.W.Fast.te4187177175401517315]
  unfold hCode hBody hEnv kView kLoose pw
  kernel_rfl
end Rk
end

section
open PySem PySem.W PySem.Calls PyProof.Rows
set_option maxRecDepth 100000
set_option maxHeartbeats 0
namespace Rk
theorem kleft : LeftO pw kView kLoose kXt kHk.obs kHk.val 8000 := left_of fun w os => by
  obtain ⟨⟨f, s, c, x⟩, hr, e⟩ := Option.map_eq_some_iff.mp (krun w os)
  have e1 := (Prod.mk.inj e).1
  have e2 := Prod.mk.inj (Prod.mk.inj e).2
  have e3 := Prod.mk.inj e1
  have e4 := Prod.mk.inj e3.2
  obtain rfl : f = .next := e3.1
  obtain rfl : c = hCode := e4.1
  exact ⟨s, x, hr, e4.2, e2.1, e2.2⟩
noncomputable def kDef : DefRec := ((defOf kView (Str.ofString "law")).getD (⟨Str.ofString "law", sParams (stD 57), sBody (stD 57), sScope (stD 57), q0⟩, [])).1
theorem kdef_eq : defOf kView (Str.ofString "law") = some (kDef, []) := by kernel_rfl
theorem kpromised : PySem.Challenge.rw_xw0265_01.row.toRowW.promised := by w_witness2
theorem kok : (chainsOk kView && opensWell PySem.Challenge.rw_xw0265_01.row.prog && (frees PySem.Challenge.rw_xw0265_01.row.toRowW && PySem.Challenge.rw_xw0265_01.row.toRowW.within.isEmpty)) = true := by kernel_rfl
theorem ktop (call : WalkC kView kLoose (XL kView []) kHk.says PySem.Challenge.rw_xw0265_01.row.toRowW kDef []) : PySem.Challenge.rw_xw0265_01.Holds :=
  holds_law said fun k1 => holdsC (r := PySem.Challenge.rw_xw0265_01.row) (q := kView) (loose := kLoose) (Xt := kXt) (XP := XL kView []) (Yf := kHk.obs) (Ya := kHk.val) (YP := kHk.says) (N := 8000)
    kleft (Hook.of kHk) (Hook.keeps kHk) (fun s e => xl_of s (Bool.and_eq_true_iff.mp e).1) XL.keeps kdef_eq (by kernel_rfl) (by kernel_rfl) (fun s e => recFacts_of (Bool.and_eq_true_iff.mp e).2) rfl k1 kok
    ⟨rfl, rfl, rfl, rfl, rfl, by decide +kernel⟩ kpromised call
end Rk
end

section
set_option genSizeOf false
set_option genCtorIdx false
open PySem PySem.W PySem.Calls PyProof.Rows
set_option maxRecDepth 100000
namespace Rk
theorem nn {α : Type} {x : α} {P : Prop} (h : (none : Option α) = some x) : P := nomatch h
theorem tf {P : Prop} (h : true = false) : P := nomatch h
theorem i2 {α : Type} {c : Prop} [Decidable c] {o : Option α} {y : α} (h : (if c then o else .none) = some y) : c ∧ o = some y := by
  by_cases q : c
  · rw [if_pos q] at h; exact ⟨q, h⟩
  · rw [if_neg q] at h; exact nn h
theorem ff {P : Prop} (h : false = true) : P := nomatch h
inductive V where
  | none
  | bool (b : Bool)
  | int (i : Int)
  | str (s : Str)
  | text                       -- some text that nobody reads
  | bytes (b : List UInt8)
  | bar (b : List UInt8)       -- a bytearray that nobody stores into any more
  | tuple (l : List V)
  | list (l : List V)          -- a list that nobody stores into any more
  | inst (C : Addr) (at_ : List (Str × V))
  | rng (a b c : Int)
  | ref (i : Nat)              -- the i-th object that may still be stored into
  | fn (v : Value)             -- a def, a class, a built-in
  deriving Inhabited
inductive O where
  | list (l : List V)
  | barr (b : List UInt8)
  | inst (C : Addr) (at_ : List (Str × V))
  | frozen (v : V)
  deriving Inhabited
noncomputable def V.ctorIdx (x : V) : Nat := @V.casesOn (fun _ => Nat) x 0 (fun _ => 1) (fun _ => 2) (fun _ => 3) 4 (fun _ => 5) (fun _ => 6) (fun _ => 7) (fun _ => 8) (fun _ _ => 9) (fun _ _ _ => 10) (fun _ => 11) (fun _ => 12)
noncomputable def O.ctorIdx (x : O) : Nat := @O.casesOn (fun _ => Nat) x (fun _ => 0) (fun _ => 1) (fun _ _ => 2) (fun _ => 3)
inductive X where
  | val (v : V)
  | loc (i : Nat)
  | bin (op : Operator) (a b : X)
  | neg (a : X)
  | bool (op : BoolOp) (a b : X)
  | cmp (op : CmpOp) (a b : X)
  | call (f : Value) (args : List X)
  | meth (o : X) (m : Str) (args : List X)
  | attr (o : X) (a : Str)
  | item (o i : X)
  | slice (o : X) (lo hi : Option X)
  | list (xs : List X)
  | tup (xs : List X)
  | comp (elt : X) (i : Nat) (it : X)
  | fstr (xs : List X)
  deriving Inhabited
inductive T where
  | ex (e : X)
  | cmp (op : CmpOp) (a b : X)
  | not (t : T)
  | bool (op : BoolOp) (ts : List T)
  deriving Inhabited
inductive Y where
  | expr (e : X)
  | ret (e : X)
  | set (i : Nat) (e : X)
  | newl (i : Nat) (xs : List X)
  | unp (is : List Nat) (e : X)
  | seta (o : X) (a : Str) (e : X)
  | seti (o i e : X)
  | aug (i : Nat) (op : Operator) (e : X)
  | auga (o : X) (a : Str) (op : Operator) (e : X)
  | ifs (t : T) (b e : List Y)
  | whl (t : T) (b : List Y)
  | fors (i : Nat) (it : X) (b : List Y)
  | raise (c : Addr) (args : List X)
  | tries (b : List Y) (hs : List (Addr × X))
  | dead                       -- what is never come to
  deriving Inhabited
noncomputable def X.ctorIdx (x : X) : Nat := @X.casesOn (fun _ => Nat) x (fun _ => 0) (fun _ => 1) (fun _ _ _ => 2) (fun _ => 3) (fun _ _ _ => 4) (fun _ _ _ => 5) (fun _ _ => 6) (fun _ _ _ => 7) (fun _ _ => 8) (fun _ _ => 9) (fun _ _ _ => 10) (fun _ => 11) (fun _ => 12) (fun _ _ _ => 13) (fun _ => 14)
noncomputable def T.ctorIdx (x : T) : Nat := @T.casesOn (fun _ => Nat) x (fun _ => 0) (fun _ _ _ => 1) (fun _ => 2) (fun _ _ => 3)
noncomputable def Y.ctorIdx (x : Y) : Nat := @Y.casesOn (fun _ => Nat) x (fun _ => 0) (fun _ => 1) (fun _ _ => 2) (fun _ _ => 3) (fun _ _ => 4) (fun _ _ _ => 5) (fun _ _ _ => 6) (fun _ _ _ => 7) (fun _ _ _ _ => 8) (fun _ _ _ => 9) (fun _ _ => 10) (fun _ _ _ => 11) (fun _ _ => 12) (fun _ _ => 13) 14
structure St where
  σ : Nat → Option V
  H : List O
inductive Out (β : Type) where
  | ok (b : β) (s : St)
  | exc (k : Addr) (s : St)
noncomputable def Out.ctorIdx {β : Type} (x : Out β) : Nat := @Out.casesOn β (fun _ => Nat) x (fun _ _ => 0) (fun _ _ => 1)
noncomputable abbrev AM (β : Type) := St → Option (Out β)
noncomputable def AM.pure {β : Type} (b : β) : AM β := fun s => some (.ok b s)
noncomputable def AM.bind {α β : Type} (m : AM α) (f : α → AM β) : AM β := fun s => match m s with
  | some (.ok a s') => f a s'
  | some (.exc k s') => some (.exc k s')
  | .none => .none
noncomputable def AM.look {β : Type} (f : List O → Option β) : AM β := fun s => (f s.H).map fun b => .ok b s
noncomputable def AM.alloc (o : O) : AM Nat := fun s => some (.ok s.H.length { s with H := s.H ++ [o] })
noncomputable def AM.put (i : Nat) (o : O) : AM Unit := fun s => some (.ok () { s with H := s.H.set i o })
noncomputable def AM.setl (i : Nat) (v : V) : AM Unit := fun s => some (.ok () { s with σ := fun j => if j = i then some v else s.σ j })
inductive Res where
  | ok (v : V) (H : List O)
  | exc (k : Addr) (H : List O)
noncomputable def Res.ctorIdx (x : Res) : Nat := @Res.casesOn (fun _ => Nat) x (fun _ _ => 0) (fun _ _ => 1)
noncomputable abbrev Ct := List V → List O → Option Res
noncomputable abbrev Tab := List (Addr × Ct)
noncomputable def listIn (H : List O) : V → Option (List V)
  | .list l => some l
  | .ref i => match H[i]? with
    | some (.list l) => some l
    | some (.frozen (.list l)) => some l
    | _ => .none
  | _ => .none
noncomputable def bytesIn (H : List O) : V → Option (List UInt8)
  | .bytes b => some b
  | .bar b => some b
  | .ref i => match H[i]? with
    | some (.barr b) => some b
    | _ => .none
  | _ => .none
noncomputable def instIn' (H : List O) : V → Option (Addr × List (Str × V))
  | .inst C at_ => some (C, at_)
  | .ref i => match H[i]? with
    | some (.inst C at_) => some (C, at_)
    | _ => .none
  | _ => .none
noncomputable def intOf : V → Option Int
  | .int i => some i
  | _ => .none
theorem intOf_inv {x : V} {i : Int} (h : intOf x = some i) : x = .int i := by
  induction x using V.casesOn with
  | int j => exact Option.some.inj h ▸ rfl
  | _ => exact nn h
noncomputable def intsOf : List V → Option (List Int)
  | [] => some []
  | v :: r => match intOf v, intsOf r with
    | some i, some is => some (i :: is)
    | _, _ => .none
noncomputable def putAt (a : Str) (v : V) : List (Str × V) → List (Str × V)
  | [] => [(a, v)]
  | (b, u) :: r => if b = a then (b, v) :: r else (b, u) :: putAt a v r
noncomputable def getAt (a : Str) : List (Str × V) → Option V
  | [] => .none
  | (b, u) :: r => if b = a then some u else getAt a r
theorem putAt_e0 : putAt a v [] = [(a, v)] := rfl
theorem putAt_e1 : putAt a v ((b, u) :: r) = if b = a then (b, v) :: r else (b, u) :: putAt a v r := rfl
theorem getAt_e0 : getAt a [] = .none := rfl
theorem getAt_e1 : getAt a ((b, u) :: r) = if b = a then some u else getAt a r := rfl
theorem intsOf_e0 : intsOf [] = some [] := rfl
theorem intsOf_c {v : V} {r : List V} {m : List Int} (e : intsOf (v :: r) = some m) : ∃ i is, intOf v = some i ∧ intsOf r = some is ∧ m = i :: is := by
  rw [show intsOf (v :: r) = match intOf v, intsOf r with
    | some i, some is => some (i :: is)
    | _, _ => .none from rfl] at e
  cases h1 : intOf v with
  | none => rw [h1] at e; exact nn e
  | some i => cases h2 : intsOf r with
    | none => rw [h1, h2] at e; exact nn e
    | some is => rw [h1, h2] at e; exact ⟨i, is, rfl, rfl, (Option.some.inj e).symm⟩
theorem intsOf_e1 {i : Int} {r : List V} : intsOf (.int i :: r) = (intsOf r).map (i :: ·) := by
  rw [show intsOf (.int i :: r) = match intOf (.int i), intsOf r with
    | some i, some is => some (i :: is)
    | _, _ => .none from rfl]
  cases intsOf r <;> rfl
end Rk
end

section
set_option genSizeOf false
set_option genCtorIdx false
open PySem PySem.W PySem.Calls PyProof.Rows
set_option maxRecDepth 100000
namespace Rk
structure G where
  Z : Addr → Option Obj          -- what nobody stores into any more
  ρ : List (Addr × Addr)         -- an object's own address; the address that is stored into
noncomputable def G.le (g g' : G) : Prop := (∀ a o, g.Z a = some o → g'.Z a = some o) ∧ ∃ l, g'.ρ = g.ρ ++ l
theorem G.le.refl (g : G) : g.le g := ⟨fun _ _ e => e, [], by simp⟩
theorem G.le.trans {g g' g'' : G} (h : g.le g') (h' : g'.le g'') : g.le g'' :=
  ⟨fun a o e => h'.1 a o (h.1 a o e), let ⟨l, e⟩ := h.2; let ⟨l', e'⟩ := h'.2; ⟨l ++ l', by rw [e', e, List.append_assoc]⟩⟩
theorem G.le.at {g g' : G} (h : g.le g') {i : Nat} {p : Addr × Addr} (e : g.ρ[i]? = some p) : g'.ρ[i]? = some p := by
  obtain ⟨l, q⟩ := h.2
  rw [q, List.getElem?_append_left (List.getElem?_eq_some_iff.mp e).1]; exact e
mutual
inductive Rep (g : G) : Value → V → Prop
  | none : Rep g .none .none
  | bool (b) : Rep g (.bool b) (.bool b)
  | int (i t) : Rep g (.int i t) (.int i)
  | str (s t) : Rep g (.str s t) (.str s)
  | text (s t) : s.length ≤ 100000 → Rep g (.str s t) .text
  | bytes (b : List UInt8) (t) : Rep g (.bytes b.toArray t) (.bytes b)
  | bar {a : Addr} {o : Obj} (b : List UInt8) : g.Z a = some o → o.cls = .type "bytearray" → o.data = .bytearray b.toArray 0 → Rep g (.ref a) (.bar b)
  | fn (v) : Rep g v (.fn v)
  | ref {i x d} : g.ρ[i]? = some (x, d) → Rep g (.ref x) (.ref i)
  | tuple {a o n} {items : List Value} {l : List V} : g.Z a = some o → o.cls = .type "tuple" → o.data = .seq items.toArray n → RepL g items l → Rep g (.ref a) (.tuple l)
  | list {a o n} {items : List Value} {l : List V} : g.Z a = some o → o.cls = .type "list" → o.data = .seq items.toArray n → RepL g items l → Rep g (.ref a) (.list l)
  | inst {x C d n} {es : List DictEntry} {at_ : List (Str × V)} : g.Z x = some (instObj C d) → g.Z d = some (dictOf es n) → RepA g es at_ → Rep g (.ref x) (.inst C at_)
  | rng {a} {i j k : Int} {t u v : Tok} : g.Z a = some { cls := .type "range", data := .fields #[.int i t, .int j u, .int k v] } → Rep g (.ref a) (.rng i j k)
inductive RepL (g : G) : List Value → List V → Prop
  | nil : RepL g [] []
  | cons {v a vs as} : Rep g v a → RepL g vs as → RepL g (v :: vs) (a :: as)
inductive RepA (g : G) : List DictEntry → List (Str × V) → Prop
  | nil : RepA g [] []
  | cons {e : DictEntry} {x t a es as} : e.key = .str x t → Rep g e.val a → RepA g es as → RepA g (e :: es) ((x, a) :: as)
end
noncomputable def RepInv (g : G) (v : Value) : V → Prop
  | .none => v = .none
  | .bool b => v = .bool b
  | .int i => ∃ t, v = .int i t
  | .str s => ∃ t, v = .str s t
  | .text => ∃ s t, v = .str s t ∧ s.length ≤ 100000
  | .bytes b => ∃ t, v = .bytes b.toArray t
  | .bar b => ∃ a o, v = .ref a ∧ g.Z a = some o ∧ o.cls = .type "bytearray" ∧ o.data = .bytearray b.toArray 0
  | .fn f => v = f
  | .ref i => ∃ x d, v = .ref x ∧ g.ρ[i]? = some (x, d)
  | .tuple l => ∃ a o n items, v = .ref a ∧ g.Z a = some o ∧ o.cls = .type "tuple" ∧ o.data = .seq (List.toArray items) n ∧ RepL g items l
  | .list l => ∃ a o n items, v = .ref a ∧ g.Z a = some o ∧ o.cls = .type "list" ∧ o.data = .seq (List.toArray items) n ∧ RepL g items l
  | .inst C at_ => ∃ x d n es, v = .ref x ∧ g.Z x = some (instObj C d) ∧ g.Z d = some (dictOf es n) ∧ RepA g es at_
  | .rng i j k => ∃ a t u w, v = .ref a ∧ g.Z a = some { cls := .type "range", data := .fields #[.int i t, .int j u, .int k w] }
mutual
noncomputable def below (n : Nat) : V → Bool
  | .ref i => decide (i < n)
  | .tuple l => belowL n l
  | .list l => belowL n l
  | .inst _ at_ => belowA n at_
  | _ => true
noncomputable def belowL (n : Nat) : List V → Bool
  | [] => true
  | v :: r => below n v && belowL n r
noncomputable def belowA (n : Nat) : List (Str × V) → Bool
  | [] => true
  | p :: r => below n p.2 && belowA n r
end
section
variable {g g' : G} {n : Nat}
theorem Rep.blw (hn : g.ρ.length ≤ n) {v : Value} {a : V} (r : Rep g v a) : Rk.below n a = true :=
  Rep.rec (motive_1 := fun _ a _ => Rk.below n a = true) (motive_2 := fun _ as _ => belowL n as = true) (motive_3 := fun _ as _ => belowA n as = true)
    rfl (fun _ => rfl) (fun _ _ => rfl) (fun _ _ => rfl) (fun _ _ _ => rfl) (fun _ _ => rfl) (fun _ _ _ _ => rfl) (fun _ => rfl)
    (fun e => decide_eq_true (Nat.lt_of_lt_of_le (List.getElem?_eq_some_iff.mp e).1 hn)) (fun _ _ _ _ h => h) (fun _ _ _ _ h => h) (fun _ _ _ h => h) (fun _ => rfl)
    rfl (fun _ _ h k => Bool.and_eq_true_iff.mpr ⟨h, k⟩) rfl (fun _ _ _ h k => Bool.and_eq_true_iff.mpr ⟨h, k⟩) r
theorem RepL.blw (hn : g.ρ.length ≤ n) {vs : List Value} {as : List V} (r : RepL g vs as) : belowL n as = true := by
  induction vs generalizing as with
  | nil => cases r; rfl
  | cons v vs ih => cases r with | cons h k => exact Bool.and_eq_true_iff.mpr ⟨h.blw hn, ih k⟩
theorem RepA.blw (hn : g.ρ.length ≤ n) {vs : List DictEntry} {as : List (Str × V)} (r : RepA g vs as) : belowA n as = true := by
  induction vs generalizing as with
  | nil => cases r; rfl
  | cons v vs ih => cases r with | cons _ h k => exact Bool.and_eq_true_iff.mpr ⟨h.blw hn, ih k⟩
theorem Rep.map (hz : ∀ a o, g.Z a = some o → g'.Z a = some o) (hr : ∀ i p, i < n → g.ρ[i]? = some p → g'.ρ[i]? = some p) {v : Value} {a : V} (r : Rep g v a) : Rk.below n a = true → Rep g' v a :=
  Rep.rec (motive_1 := fun v a _ => Rk.below n a = true → Rep g' v a) (motive_2 := fun vs as _ => belowL n as = true → RepL g' vs as) (motive_3 := fun vs as _ => belowA n as = true → RepA g' vs as)
    (fun _ => .none) (fun b _ => .bool b) (fun i t _ => .int i t) (fun s t _ => .str s t) (fun s t h _ => .text s t h) (fun b t _ => .bytes b t) (fun b z c d _ => .bar b (hz _ _ z) c d) (fun v _ => .fn v)
    (fun e h => .ref (hr _ _ (of_decide_eq_true h) e)) (fun z c d _ k h => .tuple (hz _ _ z) c d (k h)) (fun z c d _ k h => .list (hz _ _ z) c d (k h)) (fun z y _ k h => .inst (hz _ _ z) (hz _ _ y) (k h)) (fun z _ => .rng (hz _ _ z))
    (fun _ => .nil) (fun _ _ k l h => .cons (k (Bool.and_eq_true_iff.mp h).1) (l (Bool.and_eq_true_iff.mp h).2)) (fun _ => .nil) (fun e _ _ k l h => .cons e (k (Bool.and_eq_true_iff.mp h).1) (l (Bool.and_eq_true_iff.mp h).2)) r
theorem RepL.map (hz : ∀ a o, g.Z a = some o → g'.Z a = some o) (hr : ∀ i p, i < n → g.ρ[i]? = some p → g'.ρ[i]? = some p) {vs : List Value} {as : List V} (r : RepL g vs as) (hb : belowL n as = true) : RepL g' vs as := by
  induction vs generalizing as with
  | nil => cases r; exact .nil
  | cons v vs ih => cases r with | cons h k => exact .cons (h.map hz hr (Bool.and_eq_true_iff.mp hb).1) (ih k (Bool.and_eq_true_iff.mp hb).2)
theorem RepA.map (hz : ∀ a o, g.Z a = some o → g'.Z a = some o) (hr : ∀ i p, i < n → g.ρ[i]? = some p → g'.ρ[i]? = some p) {vs : List DictEntry} {as : List (Str × V)} (r : RepA g vs as) (hb : belowA n as = true) : RepA g' vs as := by
  induction vs generalizing as with
  | nil => cases r; exact .nil
  | cons v vs ih => cases r with | cons e h k => exact .cons e (h.map hz hr (Bool.and_eq_true_iff.mp hb).1) (ih k (Bool.and_eq_true_iff.mp hb).2)
theorem Rep.mono (h : g.le g') {v : Value} {a : V} (r : Rep g v a) : Rep g' v a := r.map h.1 (fun _ _ _ e => h.at e) (r.blw (Nat.le_refl _))
theorem RepL.mono (h : g.le g') {vs : List Value} {as : List V} (r : RepL g vs as) : RepL g' vs as := r.map h.1 (fun _ _ _ e => h.at e) (r.blw (Nat.le_refl _))
theorem RepA.mono (h : g.le g') {vs : List DictEntry} {as : List (Str × V)} (r : RepA g vs as) : RepA g' vs as := r.map h.1 (fun _ _ _ e => h.at e) (r.blw (Nat.le_refl _))
theorem Rep.inv {v : Value} {x : V} (h : Rep g v x) : RepInv g v x := by
  induction h using Rep.casesOn with
  | none => exact rfl
  | bool b => exact rfl
  | int i t => exact ⟨t, rfl⟩
  | str s t => exact ⟨t, rfl⟩
  | text s t h => exact ⟨s, t, rfl, h⟩
  | bytes b t => exact ⟨t, rfl⟩
  | bar b h1 h2 h3 => exact ⟨_, _, rfl, h1, h2, h3⟩
  | fn v => exact rfl
  | ref e => exact ⟨_, _, rfl, e⟩
  | tuple h1 h2 h3 h4 => exact ⟨_, _, _, _, rfl, h1, h2, h3, h4⟩
  | list h1 h2 h3 h4 => exact ⟨_, _, _, _, rfl, h1, h2, h3, h4⟩
  | inst h1 h2 h3 => exact ⟨_, _, _, _, rfl, h1, h2, h3⟩
  | rng h => exact ⟨_, _, _, _, rfl, h⟩
theorem Rep.none_inv {v : Value} (h : Rep g v .none) : v = .none := h.inv
theorem Rep.int_inv {v : Value} {i : Int} (h : Rep g v (.int i)) : ∃ t, v = .int i t := h.inv
theorem Rep.bool_inv {v : Value} {b : Bool} (h : Rep g v (.bool b)) : v = .bool b := h.inv
theorem Rep.str_inv {v : Value} {b : Str} (h : Rep g v (.str b)) : ∃ t, v = .str b t := h.inv
theorem Rep.bytes_inv {v : Value} {b : List UInt8} (h : Rep g v (.bytes b)) : ∃ t, v = .bytes b.toArray t := h.inv
theorem Rep.bar_inv {v : Value} {b : List UInt8} (h : Rep g v (.bar b)) : ∃ a o, v = .ref a ∧ g.Z a = some o ∧ o.cls = .type "bytearray" ∧ o.data = .bytearray b.toArray 0 := h.inv
theorem Rep.ref_inv {v : Value} {i : Nat} (h : Rep g v (.ref i)) : ∃ x d, v = .ref x ∧ g.ρ[i]? = some (x, d) := h.inv
theorem Rep.tuple_inv {v : Value} {l : List V} (h : Rep g v (.tuple l)) : ∃ a o n items, v = .ref a ∧ g.Z a = some o ∧ o.cls = .type "tuple" ∧ o.data = .seq (List.toArray items) n ∧ RepL g items l := h.inv
theorem Rep.list_inv {v : Value} {l : List V} (h : Rep g v (.list l)) : ∃ a o n items, v = .ref a ∧ g.Z a = some o ∧ o.cls = .type "list" ∧ o.data = .seq (List.toArray items) n ∧ RepL g items l := h.inv
theorem Rep.inst_inv {v : Value} {C : Addr} {at_ : List (Str × V)} (h : Rep g v (.inst C at_)) : ∃ x d n es, v = .ref x ∧ g.Z x = some (instObj C d) ∧ g.Z d = some (dictOf es n) ∧ RepA g es at_ := h.inv
theorem Rep.rng_inv {v : Value} {i j k : Int} (h : Rep g v (.rng i j k)) : ∃ a t u w, v = .ref a ∧ g.Z a = some { cls := .type "range", data := .fields #[.int i t, .int j u, .int k w] } := h.inv
theorem Rep.fn_inv {v u : Value} (h : Rep g v (.fn u)) : v = u := h.inv
noncomputable def RepLInv (g : G) (vs : List Value) : List V → Prop
  | [] => vs = []
  | a :: as => ∃ v r, vs = v :: r ∧ Rep g v a ∧ RepL g r as
noncomputable def RepLInv' (g : G) (as : List V) : List Value → Prop
  | [] => as = []
  | v :: vs => ∃ a r, as = a :: r ∧ Rep g v a ∧ RepL g vs r
theorem RepL.inv {vs : List Value} {as : List V} (h : RepL g vs as) : RepLInv g vs as := by
  induction h using RepL.casesOn with
  | nil => exact rfl
  | cons h k => exact ⟨_, _, rfl, h, k⟩
theorem RepL.inv' {vs : List Value} {as : List V} (h : RepL g vs as) : RepLInv' g as vs := by
  induction h using RepL.casesOn with
  | nil => exact rfl
  | cons h k => exact ⟨_, _, rfl, h, k⟩
theorem RepL.nil_inv {vs : List Value} (h : RepL g vs []) : vs = [] := h.inv
theorem RepL.nil_inv' {as : List V} (h : RepL g [] as) : as = [] := h.inv'
theorem RepL.cons_inv {vs : List Value} {a : V} {as : List V} (h : RepL g vs (a :: as)) : ∃ v r, vs = v :: r ∧ Rep g v a ∧ RepL g r as := h.inv
theorem RepL.cons_inv' {v : Value} {vs : List Value} {as : List V} (h : RepL g (v :: vs) as) : ∃ a r, as = a :: r ∧ Rep g v a ∧ RepL g vs r := h.inv'
theorem RepL.one_inv {vs : List Value} {a : V} (h : RepL g vs [a]) : ∃ v, vs = [v] ∧ Rep g v a := by
  obtain ⟨v, r, rfl, h1, k⟩ := h.cons_inv; obtain rfl := k.nil_inv; exact ⟨v, rfl, h1⟩
theorem RepL.two_inv {vs : List Value} {a b : V} (h : RepL g vs [a, b]) : ∃ v u, vs = [v, u] ∧ Rep g v a ∧ Rep g u b := by
  obtain ⟨v, r, rfl, h1, k⟩ := h.cons_inv; obtain ⟨u, rfl, k1⟩ := k.one_inv; exact ⟨v, u, rfl, h1, k1⟩
theorem RepL.three_inv {vs : List Value} {a b c : V} (h : RepL g vs [a, b, c]) : ∃ v u w, vs = [v, u, w] ∧ Rep g v a ∧ Rep g u b ∧ Rep g w c := by
  obtain ⟨v, r, rfl, h1, k⟩ := h.cons_inv; obtain ⟨u, w, rfl, k1, l⟩ := k.two_inv; exact ⟨v, u, w, rfl, h1, k1, l⟩
end
theorem RepL.length {g : G} {vs : List Value} {as : List V} (h : RepL g vs as) : vs.length = as.length := by
  induction vs generalizing as with
  | nil => cases h; rfl
  | cons v vs ih => cases h with | cons _ h => simp [ih h]
theorem RepL.at {g : G} {vs : List Value} {as : List V} (h : RepL g vs as) {i : Nat} {a : V} (e : as[i]? = some a) : ∃ v, vs[i]? = some v ∧ Rep g v a := by
  induction vs generalizing as i with
  | nil => cases h; simp at e
  | cons v vs ih =>
    cases h with
    | cons h0 h =>
      induction i using Nat.casesOn with
      | zero => simp only [List.getElem?_cons_zero, Option.some.injEq] at e; subst e; exact ⟨v, rfl, h0⟩
      | succ i => simp only [List.getElem?_cons_succ] at e ⊢; exact ih h e
theorem RepL.append {g : G} {vs ws : List Value} {as bs : List V} (h : RepL g vs as) (k : RepL g ws bs) : RepL g (vs ++ ws) (as ++ bs) := by
  induction vs generalizing as with
  | nil => cases h; exact k
  | cons v vs ih => cases h with | cons h0 h => exact .cons h0 (ih h)
inductive ObjOk (g : G) (h : Heap) : Addr × Addr → O → Prop
  | list {d n} {items : List Value} {l : List V} : h.get? d = some { cls := .type "list", data := .seq items.toArray n } → RepL g items l → g.Z d = none → ObjOk g h (d, d) (.list l)
  | barr {d} {b : List UInt8} : h.get? d = some { cls := .type "bytearray", data := .bytearray b.toArray 0 } → g.Z d = none → ObjOk g h (d, d) (.barr b)
  | inst {x C d n} {es : List DictEntry} {at_ : List (Str × V)} : g.Z x = some (instObj C d) → h.get? d = some (dictOf es n) → RepA g es at_ → g.Z d = none → ObjOk g h (x, d) (.inst C at_)
  | frozen {x d v} : Rep g (.ref x) v → ObjOk g h (x, d) (.frozen v)
noncomputable def ObjInv (g : G) (h : Heap) (p : Addr × Addr) : O → Prop
  | .list l => ∃ d n items, p = (d, d) ∧ h.get? d = some { cls := .type "list", data := .seq (List.toArray items) n } ∧ RepL g items l ∧ g.Z d = none
  | .barr b => ∃ d, p = (d, d) ∧ h.get? d = some { cls := .type "bytearray", data := .bytearray b.toArray 0 } ∧ g.Z d = none
  | .inst C at_ => ∃ x d n es, p = (x, d) ∧ g.Z x = some (instObj C d) ∧ h.get? d = some (dictOf es n) ∧ RepA g es at_ ∧ g.Z d = none
  | .frozen v => ∃ x d, p = (x, d) ∧ Rep g (.ref x) v
theorem ObjOk.inv {g : G} {h : Heap} {p : Addr × Addr} {o : O} (k : ObjOk g h p o) : ObjInv g h p o := by
  induction k using ObjOk.casesOn with
  | list a b c => exact ⟨_, _, _, rfl, a, b, c⟩
  | barr a b => exact ⟨_, rfl, a, b⟩
  | inst a b c d => exact ⟨_, _, _, _, rfl, a, b, c, d⟩
  | frozen a => exact ⟨_, _, rfl, a⟩
theorem ObjOk.list_inv {g : G} {h : Heap} {p : Addr × Addr} {l : List V} (k : ObjOk g h p (.list l)) : ∃ d n items, p = (d, d) ∧ h.get? d = some { cls := .type "list", data := .seq (List.toArray items) n } ∧ RepL g items l ∧ g.Z d = none := k.inv
theorem ObjOk.barr_inv {g : G} {h : Heap} {p : Addr × Addr} {b : List UInt8} (k : ObjOk g h p (.barr b)) : ∃ d, p = (d, d) ∧ h.get? d = some { cls := .type "bytearray", data := .bytearray b.toArray 0 } ∧ g.Z d = none := k.inv
theorem ObjOk.inst_inv {g : G} {h : Heap} {p : Addr × Addr} {C : Addr} {at_ : List (Str × V)} (k : ObjOk g h p (.inst C at_)) : ∃ x d n es, p = (x, d) ∧ g.Z x = some (instObj C d) ∧ h.get? d = some (dictOf es n) ∧ RepA g es at_ ∧ g.Z d = none := k.inv
theorem ObjOk.frozen_inv {g : G} {h : Heap} {p : Addr × Addr} {v : V} (k : ObjOk g h p (.frozen v)) : Rep g (.ref p.1) v := by
  obtain ⟨x, d, rfl, r⟩ := (show ∃ x d, p = (x, d) ∧ Rep g (.ref x) v from k.inv); exact r
noncomputable def muts (g : G) : List Addr := g.ρ.map (·.2)
noncomputable def Keep (X F : List Addr) (h h' : Heap) : Prop := ∀ b o, h.get? b = some o → b ∉ X → ∃ sl, h'.get? b = some { o with slots := sl } ∧ (b ∉ F → sl = o.slots)
theorem Keep.refl (X F : List Addr) (h : Heap) : Keep X F h h := fun _ o e _ => ⟨o.slots, e, fun _ => rfl⟩
theorem Keep.of_keeps {X F : List Addr} {h h' : Heap} (k : ∀ b o, h.get? b = some o → h'.get? b = some o) : Keep X F h h' := fun _ o e _ => ⟨o.slots, k _ _ e, fun _ => rfl⟩
theorem Keep.trans {X Y F : List Addr} {h h' h'' : Heap} (k : Keep X F h h') (k' : Keep Y F h' h'') (hXY : ∀ b o, h.get? b = some o → b ∈ Y → b ∈ X) : Keep X F h h'' := fun b o e n => by
  obtain ⟨sl, e', f⟩ := k b o e n
  obtain ⟨sl', e'', f'⟩ := k' b _ e' fun q => n (hXY b o e q)
  exact ⟨sl', e'', fun q => (f' q).trans (f q)⟩
structure HInv (B : Heap) (X : List Addr) (H : List O) (g : G) (h : Heap) : Prop where
  base : ∀ b o, B.get? b = some o → g.Z b = some o
  zin : ∀ b o, g.Z b = some o → h.get? b = some o
  zx : ∀ b ∈ X, g.Z b = none
  rx : ∀ b ∈ muts g, b ∉ X
  nd : (muts g).Nodup
  len : H.length = g.ρ.length
  objs : ∀ (i : Nat) (p : Addr × Addr) (o : O), g.ρ[i]? = some p → H[i]? = some o → ObjOk g h p o
  inh : ∀ b ∈ muts g, ∃ o, h.get? b = some o
  xin : ∀ b ∈ X, ∃ o, h.get? b = some o
theorem HInv.keeps {B : Heap} {X : List Addr} {H : List O} {g : G} {h h' : Heap} (I : HInv B X H g h) (k : ∀ b o, h.get? b = some o → h'.get? b = some o) : HInv B X H g h' where
  base := I.base
  zin := fun b o e => k _ _ (I.zin b o e)
  zx := I.zx
  rx := I.rx
  nd := I.nd
  len := I.len
  objs := fun i p o e e' => ObjOk.casesOn (motive := fun p o _ => ObjOk g h' p o) (I.objs i p o e e') (fun a d f => .list (k _ _ a) d f) (fun a f => .barr (k _ _ a) f) (fun a b c f => .inst a (k _ _ b) c f) fun a => .frozen a
  inh := fun b e => let ⟨o, q⟩ := I.inh b e; ⟨o, k _ _ q⟩
  xin := fun b e => let ⟨o, q⟩ := I.xin b e; ⟨o, k _ _ q⟩
noncomputable def G.add (g : G) (a : Addr) (o : Obj) : G := { g with Z := fun b => if b = a then some o else g.Z b }
theorem G.le_add {g : G} {a : Addr} {o : Obj} (h : g.Z a = none) : g.le (g.add a o) := ⟨fun b o' e => by
  show (if b = a then some o else g.Z b) = some o'
  rw [if_neg (fun q => by rw [q, h] at e; cases e)]; exact e, [], by simp [G.add]⟩
theorem HInv.add {B : Heap} {X : List Addr} {H : List O} {g : G} {h h' : Heap} {a : Addr} {o : Obj} (I : HInv B X H g h) (k : ∀ b o, h.get? b = some o → h'.get? b = some o)
    (hn : h.get? a = none) (ha : h'.get? a = some o) : HInv B X H (g.add a o) h' := by
  have hX : a ∉ X := fun q => by obtain ⟨o', e⟩ := I.xin a q; rw [hn] at e; cases e
  have hz : g.Z a = none := by
    cases q : g.Z a with
    | none => rfl
    | some o' => rw [I.zin a o' q] at hn; cases hn
  have le := G.le_add (o := o) hz
  have I' := I.keeps k
  refine ⟨fun b ob e => le.1 _ _ (I.base b ob e), fun b ob e => ?_, fun b hb => ?_, I.rx, I.nd, I.len, fun i p ob e e' => ?_, I'.inh, I'.xin⟩
  · by_cases q : b = a
    · subst q
      have : some o = some ob := by simpa [G.add] using e
      obtain rfl := Option.some.inj this; exact ha
    · exact k _ _ (I.zin b ob (by simpa [G.add, q] using e))
  · show (if b = a then some o else g.Z b) = none
    rw [if_neg (fun (q : b = a) => hX (q ▸ hb))]; exact I.zx b hb
  · have hne : ∀ d, (∃ o, h.get? d = some o) → d ≠ a := fun d ⟨o, e⟩ q => by rw [q, hn] at e; cases e
    have zd : ∀ d, d ≠ a → g.Z d = none → (g.add a o).Z d = none := fun d q e => by show (if d = a then some o else g.Z d) = none; rw [if_neg q]; exact e
    have hi := I.objs i p ob e e'
    cases hi with
    | list x d f => exact .list (k _ _ x) (d.mono le) (zd _ (hne _ ⟨_, x⟩) f)
    | barr x f => exact .barr (k _ _ x) (zd _ (hne _ ⟨_, x⟩) f)
    | inst x b c f => exact .inst (le.1 _ _ x) (k _ _ b) (c.mono le) (zd _ (hne _ ⟨_, b⟩) f)
    | frozen x => exact .frozen (x.mono le)
end Rk
end

section
open PySem PySem.W PySem.Calls PyProof.Rows
set_option maxRecDepth 100000
namespace Rk
theorem mem_muts {g : G} {i : Nat} {p : Addr × Addr} (e : g.ρ[i]? = some p) : p.2 ∈ muts g := List.mem_map_of_mem (List.mem_of_getElem? e)
theorem ObjOk.move {g g' : G} {h h' : Heap} {p : Addr × Addr} {o : O} (x : ObjOk g h p o) (le : g.le g') (k : ∀ ob, h.get? p.2 = some ob → h'.get? p.2 = some ob) (z : g.Z p.2 = none → g'.Z p.2 = none) : ObjOk g' h' p o :=
  ObjOk.casesOn (motive := fun p o _ => (∀ ob, h.get? p.2 = some ob → h'.get? p.2 = some ob) → (g.Z p.2 = none → g'.Z p.2 = none) → ObjOk g' h' p o) x
    (fun a d f k z => .list (k _ a) (d.mono le) (z f)) (fun a f k z => .barr (k _ a) (z f)) (fun a b c f k z => .inst (le.1 _ _ a) (k _ b) (c.mono le) (z f)) (fun a _ _ => .frozen (a.mono le)) k z
theorem HInv.without {B : Heap} {X : List Addr} {H : List O} {g : G} {h h' : Heap} (I : HInv B X H g h) (k : ∀ b o, b ∉ X → h.get? b = some o → h'.get? b = some o) (kx : ∀ b ∈ X, ∃ o, h'.get? b = some o) : HInv B X H g h' where
  base := I.base
  zin := fun b o e => k _ _ (fun q => by rw [I.zx b q] at e; cases e) (I.zin b o e)
  zx := I.zx
  rx := I.rx
  nd := I.nd
  len := I.len
  objs := fun i p o e e' => (I.objs i p o e e').move (.refl g) (fun ob q => k _ _ (I.rx _ (mem_muts e)) q) id
  inh := fun b e => let ⟨o, q⟩ := I.inh b e; ⟨o, k _ _ (I.rx b e) q⟩
  xin := kx
theorem nodup_ne {l : List Addr} (nd : l.Nodup) {i j : Nat} {a b : Addr} (ha : l[i]? = some a) (hb : l[j]? = some b) (ij : i ≠ j) : a ≠ b := fun q => by
  subst q
  obtain ⟨hi, e⟩ := List.getElem?_eq_some_iff.mp ha
  obtain ⟨hj, e'⟩ := List.getElem?_eq_some_iff.mp hb
  have P := List.pairwise_iff_getElem.mp nd
  rcases Nat.lt_or_gt_of_ne ij with q | q
  · exact P i j hi hj q (e.trans e'.symm)
  · exact P j i hj hi q (e'.trans e.symm)
theorem HInv.store {B : Heap} {X : List Addr} {H : List O} {g : G} {h h' : Heap} {i : Nat} {p : Addr × Addr} {o : O} (I : HInv B X H g h) (e : g.ρ[i]? = some p) (s : Heap.SameBut p.2 h h') (z : g.Z p.2 = none) (n : ObjOk g h' p o) (ex : ∃ ob, h'.get? p.2 = some ob) : HInv B X (H.set i o) g h' where
  base := I.base
  zin := fun b ob q => (s.2 b (fun w => by rw [w, z] at q; cases q)).trans (I.zin b ob q)
  zx := I.zx
  rx := I.rx
  nd := I.nd
  len := by rw [List.length_set]; exact I.len
  objs := fun j p' o' q q' => by
    by_cases ij : i = j
    · subst ij
      rw [e] at q; obtain rfl := Option.some.inj q
      rw [List.getElem?_set_self (by rw [I.len]; exact (List.getElem?_eq_some_iff.mp e).1)] at q'
      obtain rfl := Option.some.inj q'; exact n
    · rw [List.getElem?_set_ne ij] at q'
      refine (I.objs j p' o' q q').move (.refl g) (fun ob w => (s.2 _ fun w' => ?_).trans w) id
      exact nodup_ne I.nd (i := j) (j := i) (a := p'.2) (b := p.2) (by simp [muts, q]) (by simp [muts, e]) (Ne.symm ij) w'
  inh := fun b q => by
    by_cases w : b = p.2
    · subst w; exact ex
    · let ⟨ob, r⟩ := I.inh b q; exact ⟨ob, (s.2 b w).trans r⟩
  xin := fun b q => let ⟨ob, r⟩ := I.xin b q; ⟨ob, (s.2 b (fun w => I.rx _ (mem_muts e) (w ▸ q))).trans r⟩
noncomputable def G.grow (g : G) (p : Addr × Addr) : G := { g with ρ := g.ρ ++ [p] }
theorem G.le_grow (g : G) (p : Addr × Addr) : g.le (g.grow p) := ⟨fun _ _ e => e, [p], rfl⟩
theorem HInv.grow {B : Heap} {X : List Addr} {H : List O} {g : G} {h h' : Heap} {p : Addr × Addr} {o : O} (I : HInv B X H g h) (k : ∀ b ob, h.get? b = some ob → h'.get? b = some ob)
    (hn : h.get? p.2 = none) (n : ObjOk (g.grow p) h' p o) (ex : ∃ ob, h'.get? p.2 = some ob) : HInv B X (H ++ [o]) (g.grow p) h' := by
  have le := g.le_grow p
  have I' := I.keeps k
  have nm : p.2 ∉ muts g := fun q => by obtain ⟨ob, e⟩ := I.inh _ q; rw [hn] at e; cases e
  have nX : p.2 ∉ X := fun q => by obtain ⟨ob, e⟩ := I.xin _ q; rw [hn] at e; cases e
  have hm : muts (g.grow p) = muts g ++ [p.2] := by simp [muts, G.grow]
  refine ⟨I.base, I'.zin, I.zx, fun b hb => ?_, ?_, ?_, fun i p' o' e e' => ?_, fun b hb => ?_, I'.xin⟩
  · rw [hm] at hb
    rcases List.mem_append.mp hb with q | q
    · exact I.rx b q
    · rw [List.mem_singleton.mp q]; exact nX
  · rw [hm]
    exact List.nodup_append.mpr ⟨I.nd, by simp, fun a ha b hb => by rw [List.mem_singleton.mp hb]; exact fun q => nm (q ▸ ha)⟩
  · simp [G.grow, I.len]
  · by_cases q : i < g.ρ.length
    · rw [show (g.grow p).ρ = g.ρ ++ [p] from rfl, List.getElem?_append_left q] at e
      rw [List.getElem?_append_left (by rw [I.len]; exact q)] at e'
      exact (I'.objs i p' o' e e').move le (fun _ w => w) (fun w => w)
    · have q' : i = g.ρ.length := by
        have := (List.getElem?_eq_some_iff.mp e).1
        have h2 : (g.grow p).ρ.length = g.ρ.length + 1 := by simp [G.grow]
        lia
      subst q'
      rw [show (g.grow p).ρ = g.ρ ++ [p] from rfl] at e
      simp only [List.getElem?_concat_length, Option.some.injEq] at e
      rw [← I.len] at e'
      simp only [List.getElem?_concat_length, Option.some.injEq] at e'
      subst e e'; exact n
  · rw [hm] at hb
    rcases List.mem_append.mp hb with q | q
    · exact I'.inh b q
    · rw [List.mem_singleton.mp q]; exact ex
theorem HInv.freeze {B : Heap} {X : List Addr} {H : List O} {g : G} {h : Heap} {i : Nat} {p : Addr × Addr} {ob : Obj} {v : V} (I : HInv B X H g h) (e : g.ρ[i]? = some p) (hd : h.get? p.2 = some ob) (hz : g.Z p.2 = none)
    (n : Rep (g.add p.2 ob) (.ref p.1) v) : HInv B X (H.set i (.frozen v)) (g.add p.2 ob) h := by
  have le := G.le_add (o := ob) hz
  refine ⟨fun b o q => le.1 _ _ (I.base b o q), fun b o q => ?_, fun b hb => ?_, I.rx, I.nd, by rw [List.length_set]; exact I.len, fun j p' o' q q' => ?_, I.inh, I.xin⟩
  · by_cases w : b = p.2
    · subst w
      have : some ob = some o := by simpa [G.add] using q
      obtain rfl := Option.some.inj this; exact hd
    · exact I.zin b o (by simpa [G.add, w] using q)
  · show (if b = p.2 then some ob else g.Z b) = none
    rw [if_neg (fun (w : b = p.2) => I.rx _ (mem_muts e) (w ▸ hb))]; exact I.zx b hb
  · by_cases ij : i = j
    · subst ij
      rw [show (g.add p.2 ob).ρ = g.ρ from rfl, e] at q; obtain rfl := Option.some.inj q
      rw [List.getElem?_set_self (by rw [I.len]; exact (List.getElem?_eq_some_iff.mp e).1)] at q'
      obtain rfl := Option.some.inj q'; exact .frozen n
    · rw [List.getElem?_set_ne ij] at q'
      have hne : p'.2 ≠ p.2 := nodup_ne I.nd (i := j) (j := i) (by simp [muts, show g.ρ[j]? = some p' from q]) (by simp [muts, e]) (Ne.symm ij)
      refine (I.objs j p' o' q q').move le (fun _ w => w) (fun w => ?_)
      show (if p'.2 = p.2 then some ob else g.Z p'.2) = none
      rw [if_neg hne]; exact w
noncomputable def G.cut (g : G) (n : Nat) : G := { g with ρ := g.ρ.take n }
end Rk
end

section
set_option genSizeOf false
set_option genCtorIdx false
open PySem PySem.W PySem.Calls PyProof.Rows
set_option maxRecDepth 100000
namespace Rk
noncomputable abbrev MM (w : World) : Model := model PySem.Challenge.pw_xw0265_01 w
structure Cx where
  B : Heap                -- what stood before the law's call
  env : Env
  outer : List Env        -- the frames below
  own : List Addr         -- this activation's own: its locals, its cells
  out : List Addr         -- what lies without: the callers' own, iterators
noncomputable abbrev Cx.X (c : Cx) : List Addr := c.own ++ c.out
noncomputable abbrev Cx.frs (c : Cx) : List Env := c.env :: c.outer
noncomputable def frA (l : List Env) : List Addr := l.filterMap (·.frame)
noncomputable def FrOk (X : List Addr) (h : Heap) (l : List Env) : Prop := ∀ e ∈ l, e.scope.kind ≠ .module ∧ ∃ F o, e.frame = some F ∧ F ∈ X ∧ h.get? F = some o ∧ ∀ vs, o.data ≠ .fields vs
noncomputable def LocAt (env : Env) (g : G) (h : Heap) (x : Str) (v : V) : Prop := ∃ cv, Rep g cv v ∧
  ((env.kindOf x = some .local ∧ ∃ m, h.Ns env.locals m ∧ m x = some cv) ∨
   ((env.kindOf x = some .cell ∨ env.kindOf x = some .free) ∧ ∃ a o, env.cells.lookup x = some a ∧ h.get? a = some o ∧ o.data = .cell (some cv)))
structure Inv (c : Cx) (r : Str → Option X) (s : St) (g : G) (h : Heap) : Prop where
  hp : HInv c.B c.X s.H g h
  fr : FrOk c.X h c.frs
  loc : ∀ x i v, r x = some (.loc i) → s.σ i = some v → LocAt c.env g h x v
  ns : ∃ m, h.Ns c.env.locals m
  cel : ∀ x a, c.env.cells.lookup x = some a → ∃ o v, h.get? a = some o ∧ o.data = .cell v
structure Step (c : Cx) (g g' : G) (h h' : Heap) : Prop where
  le : g.le g'
  keep : Keep (c.own ++ muts g) (frA c.outer) h h'
  fresh : ∀ b ∈ muts g', b ∈ muts g ∨ h.get? b = none
  nown : ∀ b ∈ muts g', b ∉ c.own
theorem Step.refl {c : Cx} {g : G} {h : Heap} {H : List O} (I : HInv c.B c.X H g h) : Step c g g h h := ⟨.refl g, .refl _ _ _, fun _ m => .inl m, fun b m q => I.rx b m (List.mem_append_left _ q)⟩
theorem Step.trans {c : Cx} {g g' g'' : G} {h h' h'' : Heap} (a : Step c g g' h h') (b : Step c g' g'' h' h'') : Step c g g'' h h'' where
  le := a.le.trans b.le
  keep := a.keep.trans b.keep fun x o e m => by
    rcases List.mem_append.mp m with q | q
    · exact List.mem_append_left _ q
    · rcases a.fresh x q with q | q
      · exact List.mem_append_right _ q
      · rw [q] at e; cases e
  fresh := fun x m => by
    rcases b.fresh x m with q | q
    · exact a.fresh x q
    · cases e : h.get? x with
      | none => exact .inr rfl
      | some o =>
        by_cases w : x ∈ muts g
        · exact .inl w
        · obtain ⟨sl, e', _⟩ := a.keep x o e fun z => (List.mem_append.mp z).elim (fun z => b.nown x m z) w
          rw [q] at e'; cases e'
  nown := b.nown
theorem Step.of_keeps {c : Cx} {g g' : G} {h h' : Heap} {H : List O} (I : HInv c.B c.X H g h) (le : g.le g') (e : g'.ρ = g.ρ) (k : ∀ b o, h.get? b = some o → h'.get? b = some o) : Step c g g' h h' :=
  have em : muts g' = muts g := by unfold muts; rw [e]
  ⟨le, .of_keeps k, fun b m => .inl (em ▸ m), fun b m q => I.rx b (em ▸ m) (List.mem_append_left _ q)⟩
theorem Ns_slots {h h' : Heap} {L : Addr} {m : Str → Option Value} (n : h.Ns L m) (k : ∀ o, h.get? L = some o → ∃ sl, h'.get? L = some { o with slots := sl }) : h'.Ns L m := by
  obtain ⟨o, es, ep, a, b, c, d⟩ := n
  obtain ⟨sl, e⟩ := k o a
  exact ⟨_, es, ep, e, b, c, d⟩
theorem LocAt.slots {env : Env} {g g' : G} {h h' : Heap} {x : Str} {v : V} (l : LocAt env g h x v) (le : g.le g') (k : ∀ b o, h.get? b = some o → (b = env.locals ∨ ∃ y, env.cells.lookup y = some b) → ∃ sl, h'.get? b = some { o with slots := sl }) : LocAt env g' h' x v := by
  obtain ⟨cv, a, b⟩ := l
  refine ⟨cv, a.mono le, b.imp (fun ⟨p, m, q, e⟩ => ⟨p, m, Ns_slots q fun o e => k _ o e (.inl rfl), e⟩) fun ⟨p, d, o, q, e, e'⟩ => ?_⟩
  obtain ⟨sl, w⟩ := k _ o e (.inr ⟨x, q⟩)
  exact ⟨p, d, _, q, w, e'⟩
theorem FrOk.slots {X : List Addr} {h h' : Heap} {l : List Env} (f : FrOk X h l) (k : ∀ b o, h.get? b = some o → b ∈ X → ∃ sl, h'.get? b = some { o with slots := sl }) : FrOk X h' l := fun e he => by
  obtain ⟨a, F, o, b, c, d, q⟩ := f e he
  obtain ⟨sl, w⟩ := k F o d c
  exact ⟨a, F, _, b, c, w, q⟩
structure CxOk (c : Cx) : Prop where
  fn : c.env.scope.kind = .function
  lown : c.env.locals ∈ c.own
  frm : c.env.frame = some c.env.locals
  cel : ∀ x a, c.env.cells.lookup x = some a → a ∈ c.X
  inj : ∀ x y a, c.env.cells.lookup x = some a → c.env.cells.lookup y = some a → x = y
theorem Inv.grown {c : Cx} {r : Str → Option X} {s : St} {g g' : G} {h h' : Heap} {H : List O} (I : Inv c r s g h) (C : CxOk c) (le : g.le g') (hp : HInv c.B c.X H g' h') (k : ∀ b o, h.get? b = some o → b ∈ c.X → ∃ sl, h'.get? b = some { o with slots := sl }) :
    Inv c r { s with H := H } g' h' where
  hp := hp
  fr := I.fr.slots k
  loc := fun x i v e e' => (I.loc x i v e e').slots le fun b o q w => k b o q (by
    rcases w with w | ⟨y, w⟩
    · rw [w]; exact List.mem_append_left _ C.lown
    · exact C.cel y b w)
  ns := let ⟨m, n⟩ := I.ns; ⟨m, Ns_slots n fun o e => k _ o e (List.mem_append_left _ C.lown)⟩
  cel := fun x a e => let ⟨o, v, q, d⟩ := I.cel x a e; let ⟨sl, q'⟩ := k a o q (C.cel x a e); ⟨_, v, q', d⟩
structure Flies (frs : List Env) (hr h' : Heap) (kd e : Addr) : Prop where
  out : ∃ base : Heap, (∀ b o, hr.get? b = some o → b ∉ frA frs → base.get? b = some o) ∧ (∀ b ∈ frA frs, base.get? b = none) ∧ base.get? e = none ∧ base.StaysIn h' ∧ h'.FunFrames base frs ∧
    ((∃ o vs a0, h'.get? e = some o ∧ o.cls = .ref kd ∧ o.data = .fields vs ∧ vs[1]? = some .none ∧ vs[0]? = some a0) ∨ ∃ a0, h'.TracedW base e (.ref kd) a0)
  frames : ∀ b ∈ frA frs, ∀ o, hr.get? b = some o → ∃ sl, h'.get? b = some { o with slots := sl }
noncomputable def OkC (c : Cx) (r : Str → Option X) (g₁ : G) (h : Heap) (s : Shared) {α β : Type} (R : G → α → β → Prop) (out : Out β) (Q : α → Shared → Prop) : Prop :=
  ∀ b st', out = .ok b st' → ∀ g₂ h' k a, Step c g₁ g₂ h h' → Inv c r st' g₂ h' → R g₂ a b → Q a { s with heap := h', toks := k }
noncomputable def ExC (c : Cx) (r : Str → Option X) (g₁ : G) (h : Heap) (s : Shared) {β : Type} (out : Out β) (E : Value → Shared → Prop) : Prop :=
  ∀ kd st', out = .exc kd st' → ∀ g₂ hr h' k e, Step c g₁ g₂ h hr → Inv c r st' g₂ hr → Flies c.frs hr h' kd e → E (.ref e) { s with heap := h', toks := k }
noncomputable def Sim (w : World) (c : Cx) (r : Str → Option X) (A : Around) (g : G) {α β : Type} (R : G → α → β → Prop) (t : Sem α) (m : AM β) : Prop :=
  ∀ g₁, g.le g₁ → ∀ st out, m st = some out → ∀ (s : Shared) (Q : α → Shared → Prop) (E : Value → Shared → Prop), Inv c r st g₁ s.heap → PassesOwn (MM w) A c.env E →
    OkC c r g₁ s.heap s R out Q →
    ExC c r g₁ s.heap s out E →
    wpC (MM w) A t Q E s
section
variable {w : World} {c : Cx} {r : Str → Option X} {A : Around} {g : G} {α β γ δ : Type}
theorem sim_pure {R : G → α → β → Prop} {a : α} {b : β} (h : ∀ g', g.le g' → R g' a b) : Sim w c r A g R (pure a) (AM.pure b) := fun g₁ le st out e s Q E I P ok _ => by
  obtain rfl := Option.some.inj e
  exact wpC_pure (ok _ _ rfl g₁ s.heap s.toks a (Step.refl I.hp) I (h _ le))
theorem sim_bind {R : G → α → β → Prop} {R' : G → γ → δ → Prop} {m : Sem α} {a : AM β} {f : α → Sem γ} {k : β → AM δ} (h : Sim w c r A g R m a)
    (h' : ∀ g', g.le g' → ∀ x y, R g' x y → Sim w c r A g' R' (f x) (k y)) : Sim w c r A g R' (m >>= f) (AM.bind a k) := fun g₁ le st out e s Q E I P ok ex => by
  unfold AM.bind at e
  cases q : a st with
  | none => rw [q] at e; cases e
  | some o =>
    rw [q] at e
    refine wpC_bind (h g₁ le st o q s _ E I P (fun b st' eo g₂ h₂ tk x S I₂ rx => ?_) fun kd st' eo g₂ hr h₂ tk x S I₂ F => ?_)
    · subst eo
      refine h' g₂ (le.trans S.le) x b rx g₂ (.refl _) st' out e { s with heap := h₂, toks := tk } Q E I₂ P (fun b' st'' eo' g₃ h₃ tk' y S' I₃ ry => ?_) fun kd st'' eo' g₃ hr h₃ tk' y S' I₃ F => ?_
      · exact ok b' st'' eo' g₃ h₃ tk' y (S.trans S') I₃ ry
      · exact ex kd st'' eo' g₃ hr h₃ tk' y (S.trans S') I₃ F
    · subst eo
      obtain rfl := Option.some.inj e
      exact ex kd st' rfl g₂ hr h₂ tk x S I₂ F
theorem sim_mono {R R' : G → α → β → Prop} {t : Sem α} {m : AM β} (h : Sim w c r A g R t m) (k : ∀ g' a b, R g' a b → R' g' a b) : Sim w c r A g R' t m := fun g₁ le st out e s Q E I P ok ex =>
  h g₁ le st out e s Q E I P (fun b st' eo g₂ h₂ tk x S I₂ rx => ok b st' eo g₂ h₂ tk x S I₂ (k _ _ _ rx)) ex
theorem sim_at {R : G → α → β → Prop} {pos : Pos} {t : Sem α} {m : AM β} (h : Sim w c r A g R t m) : Sim w c r A g R (standAt pos >>= fun _ => t) m := fun g₁ le st out e s Q E I P ok ex => wpC_at (h g₁ le st out e s Q E I P ok ex)
theorem sim_hold {R : G → α → β → Prop} {vs : List Value} {t : Sem α} {m : AM β} (h : Sim w c r A g R t m) : Sim w c r A g R (holding vs t) m := fun g₁ le st out e s Q E I P ok ex => wpC_holding (h g₁ le st out e s Q E I P ok ex)
theorem sim_operate {R : G → Value → β → Prop} {vs : List Value} {t : Sem Value} {m : AM β} (h : Sim w c r A g R t m) : Sim w c r A g R (operate vs t) m := fun g₁ le st out e s Q E I P ok ex => wpC_operate (h g₁ le st out e s Q E I P ok ex)
theorem sim_release {R : G → α → β → Prop} {vs keep : List Value} {t : Sem α} {m : AM β} (h : Sim w c r A g R t m) : Sim w c r A g R (release vs keep >>= fun _ => t) m := fun g₁ le st out e s Q E I P ok ex => wpC_bind (wpC_release (h g₁ le st out e s Q E I P ok ex))
theorem sim_map {R : G → α → β → Prop} {R' : G → α → δ → Prop} {t : Sem α} {m : AM β} {k : β → δ} (h : Sim w c r A g R t m) (hk : ∀ g' a b, R g' a b → R' g' a (k b)) : Sim w c r A g R' t (AM.bind m fun b => AM.pure (k b)) := by
  intro g₁ le st out e s Q E I P ok ex
  unfold AM.bind at e
  cases q : m st with
  | none => rw [q] at e; cases e
  | some o =>
    rw [q] at e
    refine h g₁ le st o q s Q E I P (fun b st' eo g₂ h₂ tk x S I₂ rx => ?_) fun kd st' eo g₂ hr h₂ tk x S I₂ F => ?_
    · subst eo; obtain rfl := Option.some.inj e; exact ok _ _ rfl g₂ h₂ tk x S I₂ (hk _ _ _ rx)
    · subst eo; obtain rfl := Option.some.inj e; exact ex kd st' rfl g₂ hr h₂ tk x S I₂ F
noncomputable def LfK (c : Cx) (H : List O) (g : G) (s : Shared) (b : V) (Q : Value → Shared → Prop) : Prop := ∀ h' k a g', g.le g' → g'.ρ = g.ρ → HInv c.B c.X H g' h' → (∀ x o, s.heap.get? x = some o → h'.get? x = some o) → Rep g' a b → Q a { s with heap := h', toks := k }
noncomputable def Leaf (w : World) (c : Cx) (A : Around) (H : List O) (g : G) (s : Shared) (t : Sem Value) (b : V) : Prop :=
  ∀ (Q : Value → Shared → Prop) (E : Value → Shared → Prop), LfK c H g s b Q → wpC (MM w) A t Q E s
theorem sim_look {t : Sem Value} {f : List O → Option V} (C : CxOk c)
    (h : ∀ g₁, g.le g₁ → ∀ (H : List O) (s : Shared) b, f H = some b → HInv c.B c.X H g₁ s.heap → Leaf w c A H g₁ s t b) : Sim w c r A g Rep t (AM.look f) := fun g₁ le st out e s Q E I P ok ex => by
  unfold AM.look at e
  obtain ⟨b, hb, rfl⟩ := Option.map_eq_some_iff.mp e
  refine h g₁ le st.H s b hb I.hp Q E fun h' k a g' le' eρ hp' kp ra => ?_
  exact ok b st rfl g' h' k a (Step.of_keeps I.hp le' eρ kp) (I.grown C le' hp' fun x o q _ => ⟨o.slots, kp x o q⟩) ra
theorem Leaf.of_any {H : List O} {s : Shared} {t : Sem Value} {b : V} (I : HInv c.B c.X H g s.heap)
    (h : ∀ (Q : Value → Shared → Prop) (E : Value → Shared → Prop), (∀ k a, Rep g a b → Q a { s with toks := k }) → wpAny (MM w) A t Q E s) : Leaf w c A H g s t b :=
  fun Q E q => wpC_any (h Q E fun k a ra => q s.heap k a g (.refl g) rfl I (fun _ _ e => e) ra)
end
end Rk
end

section
set_option genSizeOf false
set_option genCtorIdx false
open PySem PySem.W PySem.Calls PyProof.Rows
set_option maxRecDepth 100000
namespace Rk
noncomputable def addV (H : List O) : V → V → Option V
  | .int i, .int j => some (.int (i + j))
  | .bytes a, .bytes b => if a.length + b.length ≤ 16777216 then some (.bytes (a ++ b)) else .none
  | .str x, .str y => if x.length + y.length ≤ 100000 then some (.str (x ++ y)) else .none
  | a, b => match listIn H a, listIn H b with
    | some l, some m => if l.length + m.length ≤ 1000000 then some (.list (l ++ m)) else .none
    | _, _ => .none
noncomputable def mulV : V → V → Option V
  | .int i, .int j => if j.natAbs < 2 ^ 64 ∨ i.natAbs < 2 ^ 64 then some (.int (i * j)) else .none
  | .bytes [b], .int n => if 0 ≤ n ∧ n ≤ 1000000 then some (.bytes (List.replicate n.toNat b)) else .none
  | _, _ => .none
noncomputable def binV (H : List O) (op : Operator) (a b : V) : Option V := match op with
  | .Add => addV H a b
  | .Mult => mulV a b
  | _ => match a, b with
    | .int i, .int j => match op with
      | .Sub => some (.int (i - j))
      | .FloorDiv => if j = 0 ∨ 2 ^ 100 ≤ j.natAbs then .none else some (.int (i.fdiv j))
      | .Mod => if j = 0 then .none else some (.int (i.fmod j))
      | .Pow => if 0 ≤ j ∧ j ≤ 1000000 ∧ i.natAbs < 2 ^ 64 then some (.int (i ^ j.toNat)) else .none
      | .BitAnd => some (.int (Builtin.bitAnd i j))
      | .BitOr => some (.int (Builtin.bitOr i j))
      | .LShift => if 0 ≤ j ∧ j ≤ 1000000 ∧ i.natAbs < 2 ^ 64 then some (.int (i * 2 ^ j.toNat)) else .none
      | .RShift => if 0 ≤ j then some (.int (i.fdiv (2 ^ j.toNat))) else .none
      | _ => .none
    | _, _ => .none
noncomputable def eqD : Nat → V → V → Bool
  | _, .int i, .int j => i == j
  | _, .bytes a, .bytes b => a == b
  | n + 1, .tuple l, .tuple m => l.length == m.length && (l.zip m).all fun p => eqD n p.1 p.2
  | _, _, _ => false
noncomputable def cmpV (op : CmpOp) (a b : V) : Option Bool := match a, b with
  | .int i, .int j => match op with
    | .Eq => some (i == j)
    | .NotEq => some (i != j)
    | .Lt => some (decide (i < j))
    | .LtE => some (decide (i ≤ j))
    | .Gt => some (decide (i > j))
    | .GtE => some (decide (i ≥ j))
    | _ => .none
  | .bool i, .bool j => match op with
    | .Eq => some (i == j)
    | .NotEq => some (i != j)
    | _ => .none
  | .str x, .str y => match op with
    | .Eq => some (x == y)
    | .NotEq => some (x != y)
    | _ => .none
  | .bytes x, .bytes y => match op with
    | .Eq => some (x == y)
    | .NotEq => some (x != y)
    | _ => .none
  | .tuple l, .tuple m => match op with
    | .NotEq => if eqD 5 (.tuple l) (.tuple m) then some false else .none
    | _ => .none
  | _, _ => .none
noncomputable def oneStr (n : Nat) : Str := ⟨#[n]⟩
noncomputable def itemV (H : List O) (o i : V) : Option V := match i with
  | .int k => if 0 ≤ k ∧ k < 2 ^ 40 then (match o with
    | .tuple l => l[k.toNat]?
    | .str s => (s.cps.toList[k.toNat]?).map fun n => .str (oneStr n)
    | o => match listIn H o with
      | some l => l[k.toNat]?
      | .none => match bytesIn H o with
        | some b => if b.length ≤ 16777216 then (b[k.toNat]?).map fun x => .int x.toNat else .none
        | .none => .none) else .none
  | _ => .none
noncomputable def clip (n : Nat) (k : Int) : Nat := if k < 0 then (k + n).toNat else min k.toNat n
noncomputable def cutL {α : Type} (l : List α) (lo hi : Option Int) : List α :=
  (l.drop (lo.elim 0 (clip l.length))).take (hi.elim l.length (clip l.length) - lo.elim 0 (clip l.length))
noncomputable def partOf : Option V → Option (Option Int)
  | .none => some .none
  | some (.int k) => if -(2 ^ 40) ≤ k ∧ k < 2 ^ 40 then some (some k) else .none
  | _ => .none
noncomputable def sliceV (H : List O) (o : V) (lo hi : Option V) : Option V := match partOf lo, partOf hi with
  | some l, some u => match o with
    | .bytes b => if b.length ≤ 16777216 then some (.bytes (cutL b l u)) else .none
    | .list xs => if xs.length ≤ 1000000 then some (.list (cutL xs l u)) else .none
    | .ref i => match H[i]? with
      | some (.barr b) => if b.length ≤ 16777216 then some (.bar (cutL b l u)) else .none
      | _ => .none
    | _ => .none
  | _, _ => .none
noncomputable def rngItems (a b c : Int) : List Int := (List.range (Builtin.Range.rangeSize a b c).toNat).map fun (k : Nat) => a + (k : Int) * c
noncomputable def itemsV (H : List O) : V → Option (List V)
  | .tuple l => some l
  | .list l => some l
  | .bytes b => some (b.map fun x => .int x.toNat)
  | .str s => if s.cps.all (· < 128) then some (s.cps.toList.map fun n => .str (oneStr n)) else .none
  | .rng a b c => if a.natAbs < 2 ^ 40 ∧ b.natAbs < 2 ^ 40 ∧ c.natAbs < 2 ^ 20 ∧ c ≠ 0 then some ((rngItems a b c).map .int) else .none
  | _ => .none
noncomputable def octets : List Int → Option (List UInt8)
  | [] => some []
  | n :: r => if 0 ≤ n ∧ n < 256 then (octets r).map (n.toNat.toUInt8 :: ·) else .none
noncomputable def truthV : V → Option Bool
  | .bool b => some b
  | _ => .none
noncomputable def look1 {β : Type} (f : List O → Option β) : AM β := AM.look f
noncomputable def thawed (H : List O) : V → V
  | .ref i => match H[i]? with
    | some (.list l) => .list l
    | some (.frozen v) => v
    | _ => .ref i
  | v => v
noncomputable def frzOne (v : V) : AM V := fun s => match v with
  | .ref i => match s.H[i]? with
    | some (.list l) => some (.ok (.list l) { s with H := s.H.set i (.frozen (.list l)) })
    | some (.frozen u) => some (.ok u s)
    | _ => some (.ok v s)
  | _ => some (.ok v s)
noncomputable def frzAll : List V → AM (List V)
  | [] => AM.pure []
  | v :: r => AM.bind (frzOne v) fun u => AM.bind (frzAll r) fun us => AM.pure (u :: us)
mutual
noncomputable def clean : V → Bool
  | .ref _ => false
  | .tuple l => cleanL l
  | .list l => cleanL l
  | .inst _ at_ => cleanA at_
  | _ => true
noncomputable def cleanL : List V → Bool
  | [] => true
  | v :: r => clean v && cleanL r
noncomputable def cleanA : List (Str × V) → Bool
  | [] => true
  | p :: r => clean p.2 && cleanA r
end
noncomputable def frzRet (v : V) : AM V := AM.bind (match v with
  | .tuple l => AM.bind (frzAll l) fun us => AM.pure (.tuple us)
  | v => frzOne v) fun u => if clean u then AM.pure u else fun _ => .none
noncomputable def lenA (H : List O) : List V → Option V
  | [.tuple l] => if l.length ≤ 1000000 then some (.int l.length) else .none
  | [.str s] => if s.length ≤ 1000000 then some (.int s.length) else .none
  | [v] => match listIn H v with
    | some l => if l.length ≤ 1000000 then some (.int l.length) else .none
    | .none => match bytesIn H v with
      | some b => if b.length ≤ 16777216 then some (.int b.length) else .none
      | .none => .none
  | _ => .none
noncomputable def sumA : List V → Option V
  | [.list l] => if l.length ≤ 1000000 then (intsOf l).map fun ns => .int ns.sum else .none
  | [.bytes b] => if b.length ≤ 1000000 then some (.int (b.map fun x => (x.toNat : Int)).sum) else .none
  | _ => .none
noncomputable def minA : List V → Option V
  | [.int a, .int b] => some (.int (min a b))
  | _ => .none
noncomputable def builtinV (H : List O) (id : String) (args : List V) : Option V :=
  if id = "len" then lenA H args else if id = "sum" then sumA args else if id = "min" then minA args else .none
noncomputable def rangeA : List V → Option V
  | [.int n] => some (.rng 0 n 1)
  | [.int a, .int b] => some (.rng a b 1)
  | [.int a, .int b, .int c] => if c = 0 ∨ 2 ^ 100 ≤ c.natAbs then .none else some (.rng a b c)
  | _ => .none
noncomputable def bytesA (H : List O) : List V → Option V
  | [.list l] => if l.length ≤ 1000000 then ((intsOf l).bind octets).map .bytes else .none
  | [v] => match bytesIn H v with
    | some b => if b.length ≤ 16777216 then some (.bytes b) else .none
    | .none => .none
  | _ => .none
noncomputable def tupleA (H : List O) : List V → Option V
  | [v] => match listIn H v with
    | some l => if l.length ≤ 1000000 then some (.tuple l) else .none
    | .none => .none
  | _ => .none
noncomputable def listA : List V → Option V
  | [.tuple l] => if l.length ≤ 1000000 then some (.list l) else .none
  | _ => .none
noncomputable def typeV (H : List O) (id : String) (args : List V) : Option V :=
  if id = "range" then rangeA args else if id = "bytes" then bytesA H args else if id = "tuple" then tupleA H args else if id = "list" then listA args else .none
noncomputable def clsInit : Addr → Option (Addr × Bool)
  | 255 => some (189, false)
  | 332 => some (273, false)
  | 367 => some (350, true)
  | 402 => some (385, true)
  | _ => .none
noncomputable def methOf : Addr → List (Str × Addr)
  | 255 => [(Str.ofString "left", 196), (Str.ofString "varint", 203), (Str.ofString "fixed32", 210), (Str.ofString "lengthed", 224), (Str.ofString "done", 252)]
  | 332 => [(Str.ofString "varint", 280), (Str.ofString "fixed32", 287), (Str.ofString "lengthed", 301), (Str.ofString "done", 329)]
  | 367 => [(Str.ofString "row", 357), (Str.ofString "fits", 364)]
  | 402 => [(Str.ofString "row", 392), (Str.ofString "encode", 399)]
  | _ => []
noncomputable def attrsOf : Addr → List Str
  | 255 => [Str.ofString "data", Str.ofString "at"]
  | 332 => [Str.ofString "parts"]
  | 367 => [Str.ofString "level", Str.ofString "size", Str.ofString "check", Str.ofString "smallest", Str.ofString "largest"]
  | 402 => [Str.ofString "index", Str.ofString "term", Str.ofString "conf_octets", Str.ofString "last_seq", Str.ofString "runs"]
  | _ => []
noncomputable def liftR (s : St) : Option Res → Option (Out V)
  | some (.ok v H) => some (.ok v { s with H := H })
  | some (.exc k H) => some (.exc k { s with H := H })
  | .none => .none
noncomputable def useC (φ : Tab) (f : Addr) (args : List V) : AM V := fun s => match φ.lookup f with
  | some ct => liftR s (ct args s.H)
  | .none => .none
noncomputable def isInst (v : V) (t : String) : Option Bool := match v with
  | .bytes _ => if t = "bytes" then some true else .none
  | .bool _ => if t = "bool" then some true else .none
  | _ => .none
noncomputable def frzInst (i : Nat) : AM V := fun s => match s.H[i]? with
  | some (.inst C at_) => some (.ok (.inst C at_) { s with H := s.H.set i (.frozen (.inst C at_)) })
  | _ => .none
theorem frzInst_k {i : Nat} {s : St} {o : Out V} (e : frzInst i s = some o) : ∃ C at_, s.H[i]? = some (.inst C at_) ∧ o = .ok (.inst C at_) { s with H := s.H.set i (.frozen (.inst C at_)) } := by
  unfold frzInst at e
  cases h : s.H[i]? with
  | none => rw [h] at e; exact nn e
  | some ob =>
    rw [h] at e
    induction ob using O.casesOn with
    | inst C at_ => exact ⟨C, at_, rfl, (Option.some.inj e).symm⟩
    | _ => exact nn e
noncomputable def madeV (i : Nat) (done : Bool) : V → AM V
  | .none => if done then frzInst i else AM.pure (.ref i)
  | _ => fun _ => .none
noncomputable def callV (φ : Tab) (f : Value) (args : List V) : AM V := match f with
  | .ref a => match clsInit a with
    | some (fi, done) => AM.bind (frzAll args) fun us => AM.bind (AM.alloc (.inst a [])) fun i => AM.bind (useC φ fi (.ref i :: us)) fun v => madeV i done v
    | .none => AM.bind (frzAll args) fun us => useC φ a us
  | .builtin id => if id = "isinstance" then (match args with
      | [v, .fn (.type t)] => AM.look fun _ => (isInst v t).map .bool
      | _ => fun _ => .none) else AM.look fun H => builtinV H id args
  | .type id => if id = "bytearray" then (match args with
      | [] => AM.bind (AM.alloc (.barr [])) fun i => AM.pure (.ref i)
      | [.bytes b] => if b.length ≤ 16777216 then AM.bind (AM.alloc (.barr b)) fun i => AM.pure (.ref i) else fun _ => .none
      | _ => fun _ => .none) else AM.look fun H => typeV H id args
  | _ => fun _ => .none
inductive MK where
  | lapp | bapp | bext
  | fn (f : Addr)
noncomputable def MK.ctorIdx (x : MK) : Nat := @MK.casesOn (fun _ => Nat) x 0 1 2 (fun _ => 3)
noncomputable def methK (H : List O) (o : V) (m : Str) : Option MK := match instIn' H o with
  | some (C, at_) => (match (methOf C).lookup m, getAt m at_ with
    | some f, .none => some (.fn f)
    | _, _ => .none)
  | .none => match o with
    | .ref i => (match H[i]? with
      | some (.list _) => if m = Str.ofString "append" then some .lapp else .none
      | some (.barr _) => if m = Str.ofString "append" then some .bapp else if m = Str.ofString "extend" then some .bext else .none
      | _ => .none)
    | _ => .none
noncomputable def methDo (φ : Tab) (o : V) (k : MK) (args : List V) : AM V := match k with
  | .fn f => AM.bind (frzAll args) fun us => useC φ f (o :: us)
  | .lapp => fun s => match o, args with
    | .ref i, [v] => (match s.H[i]? with
      | some (.list l) => if l.length ≤ 1000000 then some (.ok .none { s with H := s.H.set i (.list (l ++ [v])) }) else .none
      | _ => .none)
    | _, _ => .none
  | .bapp => fun s => match o, args with
    | .ref i, [.int n] => (match s.H[i]? with
      | some (.barr b) => if 0 ≤ n ∧ n < 256 ∧ b.length ≤ 1000000 then some (.ok .none { s with H := s.H.set i (.barr (b ++ [n.toNat.toUInt8])) }) else .none
      | _ => .none)
    | _, _ => .none
  | .bext => fun s => match o, args with
    | .ref i, [.bytes x] => (match s.H[i]? with
      | some (.barr b) => if b.length + x.length ≤ 1000000 then some (.ok .none { s with H := s.H.set i (.barr (b ++ x)) }) else .none
      | _ => .none)
    | _, _ => .none
noncomputable def attrV (o : V) (a : Str) : AM V := AM.look fun H => match instIn' H o with
  | some (C, at_) => if (attrsOf C).contains a then (match getAt a at_ with | some (.fn _) => .none | r => r) else .none
  | .none => .none
noncomputable def setaV (o : V) (a : Str) (v : V) : AM Unit := fun s => match o with
  | .ref i => match s.H[i]? with
    | some (.inst C at_) => if at_.length ≤ 100 ∧ (attrsOf C).contains a then some (.ok () { s with H := s.H.set i (.inst C (putAt a v at_)) }) else .none
    | _ => .none
  | _ => .none
noncomputable def setiV (o i v : V) : AM Unit := fun s => match o, i, v with
  | .ref j, .int k, .int x => match s.H[j]? with
    | some (.barr b) => if 0 ≤ k ∧ k < b.length ∧ 0 ≤ x ∧ x < 256 ∧ b.length ≤ 16777216 then some (.ok () { s with H := s.H.set j (.barr (b.set k.toNat x.toNat.toUInt8)) }) else .none
    | _ => .none
  | _, _, _ => .none
noncomputable def forV (body : V → AM (Option V)) : List V → AM (Option V)
  | [] => AM.pure .none
  | v :: r => AM.bind (body v) fun f => match f with
    | .none => forV body r
    | some u => AM.pure (some u)
noncomputable def whileV (test : AM Bool) (body : AM (Option V)) : Nat → AM (Option V)
  | 0 => fun _ => .none
  | n + 1 => AM.bind test fun b => if b then AM.bind body fun f => (match f with
    | .none => whileV test body n
    | some u => AM.pure (some u)) else AM.pure .none
noncomputable def compV (elt : AM V) (i : Nat) : List V → AM (List V)
  | [] => AM.pure []
  | v :: r => fun s => match elt { s with σ := fun j => if j = i then some v else s.σ j } with
    | some (.ok u s') => AM.bind (fun s => compV elt i r s) (fun us => AM.pure (u :: us)) { σ := s.σ, H := s'.H }
    | _ => .none
mutual
noncomputable def evX (φ : Tab) : X → AM V
  | .val v => AM.pure v
  | .loc i => fun s => match s.σ i with
    | some v => some (.ok v s)
    | .none => .none
  | .bin op a b => AM.bind (evX φ a) fun x => AM.bind (evX φ b) fun y => AM.look fun H => binV H op x y
  | .neg a => AM.bind (evX φ a) fun x => AM.look fun _ => (intOf x).map fun i => .int (-i)
  | .bool op a b => AM.bind (evX φ a) fun x => AM.bind (AM.look fun _ => truthV x) fun t => match op, t with
    | .And, false => AM.pure x
    | .Or, true => AM.pure x
    | _, _ => evX φ b
  | .cmp op a b => AM.bind (evX φ a) fun x => AM.bind (evX φ b) fun y => AM.look fun _ => (cmpV op x y).map .bool
  | .call f args => AM.bind (evXs φ args) fun vs => callV φ f vs
  | .meth o m args => AM.bind (evX φ o) fun x => AM.bind (AM.look fun H => methK H x m) fun k => AM.bind (evXs φ args) fun vs => methDo φ x k vs
  | .attr o a => AM.bind (evX φ o) fun x => attrV x a
  | .item o i => AM.bind (evX φ o) fun x => AM.bind (evX φ i) fun y => AM.look fun H => itemV H x y
  | .slice o lo hi => AM.bind (evX φ o) fun x => AM.bind (evXo φ lo) fun l => AM.bind (evXo φ hi) fun u => AM.look fun H => sliceV H x l u
  | .list xs => AM.bind (evXs φ xs) fun vs => AM.look fun _ => if vs.length ≤ 1000000 then some (.list vs) else .none
  | .tup xs => AM.bind (evXs φ xs) fun vs => AM.look fun _ => if vs.length ≤ 1000000 then some (.tuple vs) else .none
  | .comp elt i it => AM.bind (evX φ it) fun x => AM.bind (AM.look fun H => itemsV H x) fun xs => AM.bind (compV (evX φ elt) i xs) fun us => AM.look fun _ => if us.length ≤ 1000000 then some (.list us) else .none
  | .fstr xs => AM.bind (evF φ xs) fun _ => AM.pure .text
noncomputable def evXs (φ : Tab) : List X → AM (List V)
  | [] => AM.pure []
  | x :: r => AM.bind (evX φ x) fun v => AM.bind (evXs φ r) fun vs => AM.pure (v :: vs)
noncomputable def evF (φ : Tab) : List X → AM Unit
  | [] => AM.pure ()
  | x :: r => AM.bind (evX φ x) fun v => AM.bind (AM.look fun _ => (intOf v).bind fun i => if i.natAbs < 10 ^ 100 then some () else .none) fun _ => evF φ r
noncomputable def evXo (φ : Tab) : Option X → AM (Option V)
  | .none => AM.pure .none
  | some x => AM.bind (evX φ x) fun v => AM.pure (some v)
end
mutual
noncomputable def evT (φ : Tab) : T → AM Bool
  | .ex e => AM.bind (evX φ e) fun v => AM.look fun _ => truthV v
  | .cmp op a b => AM.bind (evX φ a) fun x => AM.bind (evX φ b) fun y => AM.look fun _ => cmpV op x y
  | .not t => AM.bind (evT φ t) fun b => AM.pure (!b)
  | .bool op ts => evTs φ op ts
noncomputable def evTs (φ : Tab) (op : BoolOp) : List T → AM Bool
  | [] => AM.pure (op == .And)
  | t :: r => AM.bind (evT φ t) fun b => match op, b with
    | .And, false => AM.pure false
    | .Or, true => AM.pure true
    | _, _ => evTs φ op r
end
noncomputable def augV (op : Operator) (a b : V) : Option V := match a, b with
  | .int i, .int j => (match op with
    | .Add => some (.int (i + j))
    | .BitOr => some (.int (Builtin.bitOr i j))
    | .RShift => if 0 ≤ j then some (.int (i.fdiv (2 ^ j.toNat))) else .none
    | _ => .none)
  | _, _ => .none
noncomputable def setAll : List Nat → List V → AM Unit
  | [], [] => AM.pure ()
  | i :: is, v :: vs => AM.bind (AM.setl i v) fun _ => setAll is vs
  | _, _ => fun _ => .none
noncomputable def subOf (k : Addr) : List Addr := if k = 68 then [68, 56] else if k = 56 then [56] else []
mutual
noncomputable def evY (φ : Tab) (n : Nat) : Y → AM (Option V)
  | .expr e => AM.bind (evX φ e) fun v => match v with
    | .none => AM.pure .none
    | _ => fun _ => .none
  | .ret e => AM.bind (evX φ e) fun v => AM.pure (some v)
  | .set i e => AM.bind (evX φ e) fun v => AM.bind (AM.setl i v) fun _ => AM.pure .none
  | .newl i xs => AM.bind (evXs φ xs) fun vs => if vs.length ≤ 1000000 then AM.bind (AM.alloc (.list vs)) fun j => AM.bind (AM.setl i (.ref j)) fun _ => AM.pure .none else fun _ => .none
  | .unp is e => AM.bind (evX φ e) fun v => match v with
    | .tuple vs => if vs.length ≤ 1000 then AM.bind (setAll is vs) fun _ => AM.pure .none else fun _ => .none
    | _ => fun _ => .none
  | .seta o a e => AM.bind (evX φ e) fun v => AM.bind (evX φ o) fun x => AM.bind (setaV x a v) fun _ => AM.pure .none
  | .seti o i e => AM.bind (evX φ e) fun v => AM.bind (evX φ o) fun x => AM.bind (evX φ i) fun y => AM.bind (setiV x y v) fun _ => AM.pure .none
  | .aug i op e => AM.bind (evX φ (.loc i)) fun a => AM.bind (evX φ e) fun b => AM.bind (AM.look fun _ => augV op a b) fun v => AM.bind (AM.setl i v) fun _ => AM.pure .none
  | .auga o a op e => AM.bind (evX φ o) fun x => AM.bind (attrV x a) fun u => AM.bind (evX φ e) fun b => AM.bind (AM.look fun _ => augV op u b) fun v =>
      AM.bind (setaV x a v) fun _ => AM.pure .none
  | .ifs t b e => AM.bind (evT φ t) fun c => if c then evYs φ n b else evYs φ n e
  | .whl t b => whileV (evT φ t) (evYs φ n b) n
  | .fors i it b => AM.bind (evX φ it) fun x => AM.bind (AM.look fun H => itemsV H x) fun xs => forV (fun v => AM.bind (AM.setl i v) fun _ => evYs φ n b) xs
  | .raise c args => AM.bind (evXs φ args) fun vs => fun s => if vs.all (fun v => match v with | .text => true | .str x => decide (x.length ≤ 100000) | _ => false) ∧ vs.length = 1 then some (.exc c s) else .none
  | .tries b hs => fun s => match evYs φ n b s with
    | some (.exc k s') => match hs.find? fun p => (subOf k).contains p.1 with
      | some p => AM.bind (evX φ p.2) (fun v => AM.pure (some v)) s'
      | .none => .none
    | o => o
  | .dead => fun _ => .none
noncomputable def evYs (φ : Tab) (n : Nat) : List Y → AM (Option V)
  | [] => AM.pure .none
  | y :: r => AM.bind (evY φ n y) fun f => match f with
    | .none => evYs φ n r
    | some v => AM.pure (some v)
end
noncomputable def runF (φ : Tab) (n : Nat) (b : List Y) : Ct := fun args H => match AM.bind (evYs φ n b) (fun f => frzRet (f.getD .none)) ⟨fun j => args[j % 100]?, H⟩ with
  | some (.ok v s) => some (.ok v (s.H.take H.length))
  | some (.exc k s) => some (.exc k (s.H.take H.length))
  | .none => .none
theorem evX_e0 : evX φ (.val v) = AM.pure v := rfl
theorem evX_e1 : evX φ (.loc i) = fun s => match s.σ i with
    | some v => some (.ok v s)
    | .none => .none := rfl
theorem evX_e2 : evX φ (.bin op a b) = AM.bind (evX φ a) fun x => AM.bind (evX φ b) fun y => AM.look fun H => binV H op x y := rfl
theorem evX_e3 : evX φ (.neg a) = AM.bind (evX φ a) fun x => AM.look fun _ => (intOf x).map fun i => .int (-i) := rfl
theorem evX_e4 : evX φ (.bool op a b) = AM.bind (evX φ a) fun x => AM.bind (AM.look fun _ => truthV x) fun t => match op, t with
    | .And, false => AM.pure x
    | .Or, true => AM.pure x
    | _, _ => evX φ b := rfl
theorem evX_e5 : evX φ (.cmp op a b) = AM.bind (evX φ a) fun x => AM.bind (evX φ b) fun y => AM.look fun _ => (cmpV op x y).map .bool := rfl
theorem evX_e6 : evX φ (.call f args) = AM.bind (evXs φ args) fun vs => callV φ f vs := rfl
theorem evX_e7 : evX φ (.meth o m args) = AM.bind (evX φ o) fun x => AM.bind (AM.look fun H => methK H x m) fun k => AM.bind (evXs φ args) fun vs => methDo φ x k vs := rfl
theorem evX_e8 : evX φ (.attr o a) = AM.bind (evX φ o) fun x => attrV x a := rfl
theorem evX_e9 : evX φ (.item o i) = AM.bind (evX φ o) fun x => AM.bind (evX φ i) fun y => AM.look fun H => itemV H x y := rfl
theorem evX_e10 {lo hi : Option X} : evX φ (.slice o lo hi) = AM.bind (evX φ o) fun x => AM.bind (evXo φ lo) fun l => AM.bind (evXo φ hi) fun u => AM.look fun H => sliceV H x l u := rfl
theorem evX_e11 : evX φ (.list xs) = AM.bind (evXs φ xs) fun vs => AM.look fun _ => if vs.length ≤ 1000000 then some (.list vs) else .none := rfl
theorem evX_e12 : evX φ (.tup xs) = AM.bind (evXs φ xs) fun vs => AM.look fun _ => if vs.length ≤ 1000000 then some (.tuple vs) else .none := rfl
theorem evX_e13 : evX φ (.comp elt i it) = AM.bind (evX φ it) fun x => AM.bind (AM.look fun H => itemsV H x) fun xs => AM.bind (compV (evX φ elt) i xs) fun us => AM.look fun _ => if us.length ≤ 1000000 then some (.list us) else .none := rfl
theorem evX_e14 : evX φ (.fstr xs) = AM.bind (evF φ xs) fun _ => AM.pure .text := rfl
theorem evXs_e0 : evXs φ [] = AM.pure [] := rfl
theorem evXs_e1 : evXs φ (x :: r) = AM.bind (evX φ x) fun v => AM.bind (evXs φ r) fun vs => AM.pure (v :: vs) := rfl
theorem evF_e0 : evF φ [] = AM.pure () := rfl
theorem evF_e1 : evF φ (x :: r) = AM.bind (evX φ x) fun v => AM.bind (AM.look fun _ => (intOf v).bind fun i => if i.natAbs < 10 ^ 100 then some () else .none) fun _ => evF φ r := rfl
theorem evXo_e0 : evXo φ (.none) = AM.pure .none := rfl
theorem evXo_e1 : evXo φ (some x) = AM.bind (evX φ x) fun v => AM.pure (some v) := rfl
theorem evT_e0 : evT φ (.ex e) = AM.bind (evX φ e) fun v => AM.look fun _ => truthV v := rfl
theorem evT_e1 : evT φ (.cmp op a b) = AM.bind (evX φ a) fun x => AM.bind (evX φ b) fun y => AM.look fun _ => cmpV op x y := rfl
theorem evT_e2 : evT φ (.not t) = AM.bind (evT φ t) fun b => AM.pure (!b) := rfl
theorem evT_e3 : evT φ (.bool op ts) = evTs φ op ts := rfl
theorem evTs_e0 : evTs φ op [] = AM.pure (op == .And) := rfl
theorem evTs_e1 : evTs φ op (t :: r) = AM.bind (evT φ t) fun b => match op, b with
    | .And, false => AM.pure false
    | .Or, true => AM.pure true
    | _, _ => evTs φ op r := rfl
theorem evY_e0 : evY φ n (.expr e) = AM.bind (evX φ e) fun v => match v with
    | .none => AM.pure .none
    | _ => fun _ => .none := rfl
theorem evY_e1 : evY φ n (.ret e) = AM.bind (evX φ e) fun v => AM.pure (some v) := rfl
theorem evY_e2 : evY φ n (.set i e) = AM.bind (evX φ e) fun v => AM.bind (AM.setl i v) fun _ => AM.pure .none := rfl
theorem evY_e3 : evY φ n (.newl i xs) = AM.bind (evXs φ xs) fun vs => if vs.length ≤ 1000000 then AM.bind (AM.alloc (.list vs)) fun j => AM.bind (AM.setl i (.ref j)) fun _ => AM.pure .none else fun _ => .none := rfl
theorem evY_e4 : evY φ n (.unp is e) = AM.bind (evX φ e) fun v => match v with
    | .tuple vs => if vs.length ≤ 1000 then AM.bind (setAll is vs) fun _ => AM.pure .none else fun _ => .none
    | _ => fun _ => .none := rfl
theorem evY_e5 : evY φ n (.seta o a e) = AM.bind (evX φ e) fun v => AM.bind (evX φ o) fun x => AM.bind (setaV x a v) fun _ => AM.pure .none := rfl
theorem evY_e6 : evY φ n (.seti o i e) = AM.bind (evX φ e) fun v => AM.bind (evX φ o) fun x => AM.bind (evX φ i) fun y => AM.bind (setiV x y v) fun _ => AM.pure .none := rfl
theorem evY_e7 : evY φ n (.aug i op e) = AM.bind (evX φ (.loc i)) fun a => AM.bind (evX φ e) fun b => AM.bind (AM.look fun _ => augV op a b) fun v => AM.bind (AM.setl i v) fun _ => AM.pure .none := rfl
theorem evY_e8 : evY φ n (.auga o a op e) = AM.bind (evX φ o) fun x => AM.bind (attrV x a) fun u => AM.bind (evX φ e) fun b => AM.bind (AM.look fun _ => augV op u b) fun v =>
      AM.bind (setaV x a v) fun _ => AM.pure .none := rfl
theorem evY_e9 : evY φ n (.ifs t b e) = AM.bind (evT φ t) fun c => if c then evYs φ n b else evYs φ n e := rfl
theorem evY_e10 : evY φ n (.whl t b) = whileV (evT φ t) (evYs φ n b) n := rfl
theorem evY_e11 : evY φ n (.fors i it b) = AM.bind (evX φ it) fun x => AM.bind (AM.look fun H => itemsV H x) fun xs => forV (fun v => AM.bind (AM.setl i v) fun _ => evYs φ n b) xs := rfl
theorem evY_e12 : evY φ n (.raise c args) = AM.bind (evXs φ args) fun vs => fun s => if vs.all (fun v => match v with | .text => true | .str x => decide (x.length ≤ 100000) | _ => false) ∧ vs.length = 1 then some (.exc c s) else .none := rfl
theorem evY_e13 : evY φ n (.tries b hs) = fun s => match evYs φ n b s with
    | some (.exc k s') => match hs.find? fun p => (subOf k).contains p.1 with
      | some p => AM.bind (evX φ p.2) (fun v => AM.pure (some v)) s'
      | .none => .none
    | o => o := rfl
theorem evY_e14 : evY φ n (.dead) = fun _ => .none := rfl
theorem evYs_e0 : evYs φ n [] = AM.pure .none := rfl
theorem evYs_e1 : evYs φ n (y :: r) = AM.bind (evY φ n y) fun f => match f with
    | .none => evYs φ n r
    | some v => AM.pure (some v) := rfl
theorem compV_e0 : compV elt i [] = AM.pure [] := rfl
theorem compV_e1 : compV elt i (v :: r) = fun s => match elt { s with σ := fun j => if j = i then some v else s.σ j } with
    | some (.ok u s') => AM.bind (fun s => compV elt i r s) (fun us => AM.pure (u :: us)) { σ := s.σ, H := s'.H }
    | _ => .none := rfl
theorem whileV_e0 : whileV test body 0 = fun _ => .none := rfl
theorem whileV_e1 : whileV test body (n + 1) = AM.bind test fun b => if b then AM.bind body fun f => (match f with
    | .none => whileV test body n
    | some u => AM.pure (some u)) else AM.pure .none := rfl
theorem forV_e0 : forV body [] = AM.pure .none := rfl
theorem forV_e1 : forV body (v :: r) = AM.bind (body v) fun f => match f with
    | .none => forV body r
    | some u => AM.pure (some u) := rfl
theorem frzAll_e0 : frzAll [] = AM.pure [] := rfl
theorem frzAll_e1 : frzAll (v :: r) = AM.bind (frzOne v) fun u => AM.bind (frzAll r) fun us => AM.pure (u :: us) := rfl
theorem octets_e0 : octets [] = some [] := rfl
theorem octets_e1 : octets (n :: r) = if 0 ≤ n ∧ n < 256 then (octets r).map (n.toNat.toUInt8 :: ·) else .none := rfl
theorem clean_e0 : clean (.ref i) = false := rfl
theorem clean_e1 : clean (.tuple l) = cleanL l := rfl
theorem clean_e2 : clean (.list l) = cleanL l := rfl
theorem clean_e3 : clean (.inst C at_) = cleanA at_ := rfl
theorem cleanL_e0 : cleanL [] = true := rfl
theorem cleanL_e1 : cleanL (v :: r) = (clean v && cleanL r) := rfl
theorem cleanA_e0 : cleanA [] = true := rfl
theorem cleanA_e1 : cleanA (p :: r) = (clean p.2 && cleanA r) := rfl
theorem setAll_e0 : setAll [] [] = AM.pure () := rfl
theorem setAll_e1 : setAll (i :: is) (v :: vs) = AM.bind (AM.setl i v) fun _ => setAll is vs := rfl
theorem eqD_e2 : eqD (n + 1) (.tuple l) (.tuple m) = (l.length == m.length && (l.zip m).all fun p => eqD n p.1 p.2) := rfl
end Rk
end

section
set_option backward.match.sparseCases false
open PySem PySem.W PySem.Calls PyProof.Rows
set_option maxRecDepth 100000
namespace Rk
theorem sq {α : Type} {a b : α} {P : α → Prop} (h : some a = some b) (p : P a) : P b := Option.some.inj h ▸ p
noncomputable def o1 {α β : Type} (f : α → β) (a : Option α) : Option β := match a with
  | some x => some (f x)
  | .none => .none
noncomputable def o2 {α β γ : Type} (f : α → β → γ) (a : Option α) (b : Option β) : Option γ := match a with
  | some x => o1 (f x) b
  | .none => .none
noncomputable def o3 {α β γ δ : Type} (f : α → β → γ → δ) (a : Option α) (b : Option β) (c : Option γ) : Option δ := match a with
  | some x => o2 (f x) b c
  | .none => .none
theorem o1_k {α β : Type} {f : α → β} {a : Option α} {y : β} {P : β → Prop} (h : o1 f a = some y) (k : ∀ x, a = some x → P (f x)) : P y := by
  induction a using Option.casesOn with
  | none => exact nn h
  | some x => exact sq h (k x rfl)
theorem o2_k {α β γ : Type} {f : α → β → γ} {a : Option α} {b : Option β} {y : γ} {P : γ → Prop} (h : o2 f a b = some y) (k : ∀ x z, a = some x → b = some z → P (f x z)) : P y := by
  induction a using Option.casesOn with
  | none => exact nn h
  | some x => exact o1_k h fun z => k x z rfl
theorem o3_k {α β γ δ : Type} {f : α → β → γ → δ} {a : Option α} {b : Option β} {c : Option γ} {y : δ} {P : δ → Prop} (h : o3 f a b c = some y) (k : ∀ x z u, a = some x → b = some z → c = some u → P (f x z u)) : P y := by
  induction a using Option.casesOn with
  | none => exact nn h
  | some x => exact o2_k h fun z u => k x z u rfl
theorem i0 {α : Type} {c : Bool} {o : Option α} {y : α} (h : (if c then .none else o) = some y) : c = false ∧ o = some y := by
  induction c using Bool.casesOn with
  | true => exact nn h
  | false => exact ⟨rfl, h⟩
theorem i1 {α : Type} {c : Bool} {o : Option α} {y : α} (h : (if c then o else .none) = some y) : c = true ∧ o = some y := by
  induction c using Bool.casesOn with
  | true => exact ⟨rfl, h⟩
  | false => exact nn h
theorem or_f {a b : Bool} (h : (a || b) = false) : a = false ∧ b = false := by induction a using Bool.casesOn <;> cases b <;> first | exact ⟨rfl, rfl⟩ | cases h
theorem and_t {a b : Bool} (h : (a && b) = true) : a = true ∧ b = true := by induction a using Bool.casesOn <;> cases b <;> first | exact ⟨rfl, rfl⟩ | cases h
theorem not_t {a : Bool} (h : (!a) = true) : a = false := by induction a using Bool.casesOn <;> first | rfl | cases h
theorem not_f {a : Bool} (h : (!a) = false) : a = true := by induction a using Bool.casesOn <;> first | rfl | cases h
noncomputable def vLoc : Option X → Option Nat
  | some (.loc i) => some i
  | _ => .none
theorem vLoc_inv {o : Option X} {i : Nat} (h : vLoc o = some i) : o = some (.loc i) := by
  induction o using Option.casesOn with
  | none => exact nn h
  | some x =>
    induction x using X.casesOn with
    | loc j => exact Option.some.inj h ▸ rfl
    | _ => exact nn h
theorem bind_k {α β : Type} {o : Option α} {f : α → Option β} {y : β} {Q : Prop} (h : o.bind f = some y) (k : ∀ x, o = some x → f x = some y → Q) : Q := by
  induction o using Option.casesOn with
  | none => exact nn h
  | some x => exact k x rfl h
noncomputable def fnOf : Option X → Option Value
  | some (.val (.fn v)) => some v
  | _ => .none
theorem any_k {α : Type} {o : Option α} {p : α → Bool} (h : o.any p = true) : ∃ x, o = some x ∧ p x = true := by
  induction o using Option.casesOn with
  | none => exact ff h
  | some x => exact ⟨x, rfl, h⟩
theorem fnOf_inv {o : Option X} {v : Value} (h : fnOf o = some v) : o = some (.val (.fn v)) := by
  induction o using Option.casesOn with
  | none => exact nn h
  | some x =>
    induction x using X.casesOn with
    | val u => induction u using V.casesOn with
      | fn w => exact Option.some.inj h ▸ rfl
      | _ => exact nn h
    | _ => exact nn h
noncomputable def mapO {α β : Type} (f : α → Option β) : List α → Option (List β)
  | [] => some []
  | a :: r => o2 List.cons (f a) (mapO f r)
theorem mapO_c {α β : Type} {f : α → Option β} {a : α} {r : List α} {m : List β} (e : mapO f (a :: r) = some m) : ∃ b bs, f a = some b ∧ mapO f r = some bs ∧ m = b :: bs := by
  exact o2_k (P := fun m => ∃ b bs, f a = some b ∧ mapO f r = some bs ∧ m = b :: bs) e fun b bs h1 h2 => ⟨b, bs, h1, h2, rfl⟩
noncomputable def optO {α β : Type} (f : α → Option β) : Option α → Option (Option β)
  | .none => some .none
  | some a => match f a with
    | some b => some (some b)
    | .none => .none
noncomputable def okBin : Operator → Bool
  | .Add | .Sub | .Mult | .Mod | .Pow | .LShift | .RShift | .BitOr | .BitAnd | .FloorDiv => true
  | _ => false
noncomputable def okCmp : CmpOp → Bool
  | .Eq | .NotEq | .Lt | .LtE | .Gt | .GtE => true
  | _ => false
noncomputable def isStar : PySem.Expr → Bool
  | .Starred _ _ => true
  | _ => false
noncomputable def isSet : PySem.Expr → Bool
  | .Set _ _ _ => true
  | _ => false
noncomputable def isComp : PySem.Expr → Bool
  | .ListComp _ _ _ _ => true
  | .SetComp _ _ _ _ => true
  | .DictComp _ _ _ _ _ => true
  | _ => false
noncomputable def isTup : PySem.Expr → Bool
  | .Tuple _ _ _ => true
  | _ => false
noncomputable def okBase : PySem.Expr → Bool
  | .Call _ [] _ _ => false
  | _ => true
noncomputable def isSlice : PySem.Expr → Bool
  | .Slice _ _ _ _ => true
  | _ => false
noncomputable def inComp (r : Str → Option X) (sc : Scope) (x : Str) (y : Str) : Option X := match sc.names.lookup y with
  | some .local => if y = x then some (.loc 999) else .none
  | some .free => (vLoc (r y)).bind fun i => if i < 999 then some (.loc i) else .none
  | _ => .none
theorem inComp_k {r : Str → Option X} {sc : Scope} {x y : Str} {e : X} (h : inComp r sc x y = some e) : (sc.names.lookup y = some .local ∧ y = x ∧ e = .loc 999) ∨ (sc.names.lookup y = some .free ∧ ∃ i, r y = some (.loc i) ∧ i < 999 ∧ e = .loc i) := by
  unfold inComp at h
  cases hk : sc.names.lookup y with
  | none => rw [hk] at h; exact nn h
  | some k =>
    rw [hk] at h
    induction k using NameKind.casesOn with
    | «local» => exact have z := i2 h; .inl ⟨rfl, z.1, (Option.some.inj z.2).symm⟩
    | free => exact .inr ⟨rfl, bind_k h fun i hi hj => have z := i2 hj; ⟨i, vLoc_inv hi, z.1, (Option.some.inj z.2).symm⟩⟩
    | _ => exact nn h
noncomputable def okSc (r : Str → Option X) (sc : Scope) (x : Str) : Bool := (sc.kind == .function) && (sc.names.lookup x == some .local) && !(x == Str.ofString "__classdict__") && sc.names.all fun p => match p.2 with
  | .local => sc.names.lookup p.1 == some .local
  | .free => !(p.1 == Str.ofString "__classdict__") && (vLoc (r p.1)).any fun i => decide (100 ≤ i)
  | .cell => false
  | _ => true
noncomputable def pureE : Nat → PySem.Expr → Bool
  | 0, _ => false
  | n + 1, e => match e with
    | .Constant (.int _) _ _ => true
    | .Name _ _ => true
    | .BinOp a op b _ => okBin op && pureE n a && pureE n b
    | .Subscript o i _ => !isSlice i && pureE n o && pureE n i
    | _ => false
noncomputable def fparts (f : PySem.Expr → Option X) : List PySem.Expr → Option (List X)
  | [] => some []
  | e :: r => match e with
    | .Constant (.str s) _ _ => if s.length ≤ 1000 then fparts f r else .none
    | .FormattedValue v c .none _ => if c = -1 then o2 List.cons (f v) (fparts f r) else .none
    | _ => .none
theorem fparts_k {f : PySem.Expr → Option X} {e : PySem.Expr} {r : List PySem.Expr} {m : List X} {P : Prop} (h : fparts f (e :: r) = some m) (h1 : ∀ s k p, e = .Constant (.str s) k p → s.length ≤ 1000 → fparts f r = some m → P)
    (h2 : ∀ v p x xs, e = .FormattedValue v (-1) .none p → f v = some x → fparts f r = some xs → m = x :: xs → P) : P := by
  induction e using Expr.casesOn with
  | Constant c k p => induction c using Const.casesOn with
    | str s => exact have z := i2 (show (if s.length ≤ 1000 then fparts f r else .none) = some m from h); h1 s k p rfl z.1 z.2
    | _ => exact nn h
  | FormattedValue v c sp p => induction sp using Option.casesOn with
    | some _ => exact nn h
    | none =>
      have z := i2 (show (if c = -1 then o2 List.cons (f v) (fparts f r) else .none) = some m from h)
      exact o2_k (P := fun y => m = y → P) z.2 (fun x xs hx hxs q => h2 v p x xs (z.1 ▸ rfl) hx hxs q) rfl
  | _ => exact nn h
noncomputable def callees : List Addr := [89, 96, 103, 110, 117, 124, 131, 138, 145, 174, 413, 423, 428, 435, 442, 449, 454, 461, 468, 475, 482, 489, 496, 503, 510, 517, 524, 255, 332, 367, 402]
noncomputable def okFn : Value → Bool
  | .ref a => callees.contains a
  | .builtin _ => true
  | .type _ => true
  | _ => false
noncomputable def calleeOf' (r : Str → Option X) (f : Str) : Option Value := if f = Str.ofString "__debug__" then .none else (fnOf (r f)).bind fun v => if okFn v then some v else .none
theorem calleeOf_k {r : Str → Option X} {f : Str} {v : Value} (h : calleeOf' r f = some v) : f ≠ Str.ofString "__debug__" ∧ r f = some (.val (.fn v)) ∧ okFn v = true := by
  unfold calleeOf' at h
  by_cases q : f = Str.ofString "__debug__"
  · rw [if_pos q] at h; exact nn h
  · rw [if_neg q] at h
    exact bind_k h fun x hx h => have z := i1 h; have e := Option.some.inj z.2; ⟨q, e ▸ fnOf_inv hx, e ▸ z.1⟩
noncomputable def cE : Nat → (Str → Option X) → PySem.Expr → Option X
  | 0, _, _ => .none
  | n + 1, r, e => match e with
    | .Constant c _ _ => (match c with
      | .none => some (.val .none)
      | .bool b => some (.val (.bool b))
      | .int i => some (.val (.int i))
      | .str s => some (.val (.str s))
      | .bytes b => some (.val (.bytes b))
      | _ => .none)
    | .Name x _ => if x = Str.ofString "__debug__" then .none else r x
    | .BinOp a op b _ => if okBin op then o2 (X.bin op) (cE n r a) (cE n r b) else .none
    | .UnaryOp .USub a _ => o1 X.neg (cE n r a)
    | .BoolOp op [a, b] _ => o2 (X.bool op) (cE n r a) (cE n r b)
    | .Compare a [op] [b] _ => if okCmp op && !isSet b then o2 (X.cmp op) (cE n r a) (cE n r b) else .none
    | .Call (.Attribute o m ap) args [] p => if args.any isStar || decide (args.length > 20) || !okBase o || !(ap.endLine == p.line) then .none else o2 (fun x xs => X.meth x m xs) (cE n r o) (mapO (cE n r) args)
    | .Call (.Name f _) args [] _ => if args.any isStar || decide (args.length > 20) then .none else o2 X.call (calleeOf' r f) (mapO (cE n r) args)
    | .Attribute o a _ => if okBase o then o1 (fun x => X.attr x a) (cE n r o) else .none
    | .Subscript o (.Slice lo hi .none _) _ => o3 X.slice (cE n r o) (optO (cE n r) lo) (optO (cE n r) hi)
    | .Subscript o i _ => if isSlice i then .none else o2 X.item (cE n r o) (cE n r i)
    | .List es _ => if es.any isStar then .none else o1 X.list (mapO (cE n r) es)
    | .Tuple es _ _ => if es.any isStar then .none else o1 X.tup (mapO (cE n r) es)
    | .ListComp elt [⟨.Name x _, it, [], 0⟩] sc _ => if isSet it || !okSc r sc x || !pureE n elt then .none else o2 (fun y z => X.comp z 999 y) (cE n r it) (cE n (inComp r sc x) elt)
    | .JoinedStr (a :: b :: es) _ => if decide (es.length ≤ 8) then o1 X.fstr (fparts (cE n r) (a :: b :: es)) else .none
    | _ => .none
noncomputable def cT : Nat → (Str → Option X) → PySem.Expr → Option T
  | 0, _, _ => .none
  | n + 1, r, e => match e with
    | .UnaryOp .Not a _ => o1 T.not (cT n r a)
    | .BoolOp op es _ => o1 (T.bool op) (mapO (cT n r) es)
    | .Compare a [op] [b] _ => if okCmp op && !isSet b then o2 (T.cmp op) (cE n r a) (cE n r b) else .none
    | .Compare _ _ _ _ => .none
    | .IfExp _ _ _ _ => .none
    | .UnaryOp _ _ _ => .none
    | e => o1 T.ex (cE n r e)
noncomputable def nameIx (r : Str → Option X) : PySem.Expr → Option Nat
  | .Name x _ => vLoc (r x)
  | _ => .none
theorem nameIx_k {r : Str → Option X} {e : PySem.Expr} {i : Nat} (h : nameIx r e = some i) : ∃ x p, e = .Name x p ∧ r x = some (.loc i) := by
  induction e using Expr.casesOn with
  | Name x p => exact ⟨x, p, rfl, vLoc_inv h⟩
  | _ => exact nn h
noncomputable def excA : Value → Option Addr
  | .ref a => if a = 56 ∨ a = 68 then some a else .none
  | _ => .none
noncomputable def excOf (r : Str → Option X) : PySem.Expr → Option Addr
  | .Name x _ => (fnOf (r x)).bind excA
  | _ => .none
theorem excOf_inv {r : Str → Option X} {x : Str} {p : Pos} {a : Addr} (h : excOf r (.Name x p) = some a) : r x = some (.val (.fn (.ref a))) ∧ (a = 56 ∨ a = 68) := bind_k h fun v hv h => by
  induction v using Value.casesOn with
  | ref b => exact have z := i2 (show (if b = 56 ∨ b = 68 then some b else .none) = some a from h); have e := Option.some.inj z.2; ⟨e ▸ fnOf_inv hv, e ▸ z.1⟩
  | _ => exact nn h
noncomputable def vName : PySem.Expr → Option Str
  | .Name x _ => some x
  | _ => .none
noncomputable def vInt : PySem.Expr → Option Int
  | .Constant (.int k) _ _ => some k
  | _ => .none
noncomputable def vEq : PySem.Expr → Option (PySem.Expr × PySem.Expr)
  | .Compare a [.Eq] [b] _ => some (a, b)
  | _ => .none
noncomputable def vRet : Stmt → Option PySem.Expr
  | .Return (some e) _ => some e
  | _ => .none
theorem vName_inv {e : PySem.Expr} {x : Str} (h : vName e = some x) : ∃ p, e = .Name x p := by
  induction e using Expr.casesOn with
  | Name y p => exact ⟨p, Option.some.inj h ▸ rfl⟩
  | _ => exact nn h
theorem vInt_inv {e : PySem.Expr} {x : Int} (h : vInt e = some x) : ∃ k p, e = .Constant (.int x) k p := by
  induction e using Expr.casesOn with
  | Constant v k p =>
    induction v using Const.casesOn with
    | int i => exact ⟨k, p, Option.some.inj h ▸ rfl⟩
    | _ => exact nn h
  | _ => exact nn h
theorem vEq_inv {e a b : PySem.Expr} (h : vEq e = some (a, b)) : ∃ p, e = .Compare a [.Eq] [b] p := by
  induction e using Expr.casesOn with
  | Compare a' ops bs p =>
    induction ops using List.casesOn with
    | nil => exact nn h
    | cons op ops =>
      induction op using CmpOp.casesOn with
      | Eq =>
        induction ops using List.casesOn with
        | cons _ _ => exact nn h
        | nil =>
          induction bs using List.casesOn with
          | nil => exact nn h
          | cons b' bs =>
            induction bs using List.casesOn with
            | cons _ _ => exact nn h
            | nil => obtain ⟨rfl, rfl⟩ := Prod.mk.inj (Option.some.inj h); exact ⟨p, rfl⟩
      | _ => exact nn h
  | _ => exact nn h
theorem vRet_inv {s : Stmt} {e : PySem.Expr} (h : vRet s = some e) : ∃ p, s = .Return (some e) p := by
  induction s using Stmt.casesOn with
  | Return v p =>
    induction v using Option.casesOn with
    | none => exact nn h
    | some e' => exact ⟨p, Option.some.inj h ▸ rfl⟩
  | _ => exact nn h
noncomputable def cH (n : Nat) (r : Str → Option X) : ExceptHandler → Option (Addr × X)
  | .ExceptHandler (some t) .none [s] _ => (vName t).bind fun c => (vRet s).bind fun e => (vEq e).bind fun q => (vName q.1).bind fun x => (vInt q.2).bind fun k =>
    if c = Str.ofString "__debug__" ∨ x = Str.ofString "__debug__" then .none else o2 (fun a i => (a, X.cmp .Eq (.loc i) (.val (.int k)))) (excOf r t) (vLoc (r x))
  | _ => .none
noncomputable def cY : Nat → (Str → Option X) → Stmt → Option Y
  | 0, _, _ => .none
  | n + 1, r, s => match s with
    | .Expr e _ => if isComp e then .none else o1 Y.expr (cE n r e)
    | .Return (some e) _ => some ((o1 Y.ret (cE n r e)).getD .dead)
    | .Assign [.Name x p] (.List es _) _ => if es.any isStar then .none else o2 Y.newl (nameIx r (.Name x p)) (mapO (cE n r) es)
    | .Assign [.Name x p] e _ => o2 Y.set (nameIx r (.Name x p)) (cE n r e)
    | .Assign [.Tuple ts _ _] e _ => if isTup e || isComp e || ts.any isStar then .none else o2 Y.unp (mapO (nameIx r) ts) (cE n r e)
    | .Assign [.Attribute o a _] e _ => if isComp e then .none else o2 (fun y x => Y.seta x a y) (cE n r e) (cE n r o)
    | .Assign [.Subscript o i _] e _ => if isComp e || isSlice i then .none else o3 (fun y x j => Y.seti x j y) (cE n r e) (cE n r o) (cE n r i)
    | .AugAssign (.Name x p) op e _ => if okBin op then o2 (fun i y => Y.aug i op y) (nameIx r (.Name x p)) (cE n r e) else .none
    | .AugAssign (.Attribute o a _) op e _ => if okBin op then o2 (fun x y => Y.auga x a op y) (cE n r o) (cE n r e) else .none
    | .If t b e _ => o3 Y.ifs (cT n r t) (mapO (cY n r) b) (mapO (cY n r) e)
    | .While t b [] _ => o2 Y.whl (cT n r t) (mapO (cY n r) b)
    | .For (.Name x p) it b [] _ => if isSet it then .none else o3 Y.fors (nameIx r (.Name x p)) (cE n r it) (mapO (cY n r) b)
    | .Raise (some (.Call (.Name c p) args [] _)) .none _ => if args.any isStar || decide (args.length > 20) then .none else some ((o2 Y.raise (excOf r (.Name c p)) (mapO (cE n r) args)).getD .dead)
    | .Try b (h :: hs) [] [] _ => o2 Y.tries (mapO (cY n r) b) (mapO (cH n r) (h :: hs))
    | _ => .none
noncomputable def globs : List (String × V) := [
  ("write_groups", .fn (.ref 89)), ("read_groups", .fn (.ref 96)), ("put_varint", .fn (.ref 103)), ("read_varint", .fn (.ref 110)), ("put_varint32", .fn (.ref 117)), ("read_varint32", .fn (.ref 124)),
  ("put_fixed32", .fn (.ref 131)), ("read_fixed32", .fn (.ref 138)), ("read_lengthed", .fn (.ref 145)), ("checksum", .fn (.ref 174)), ("decode_manifesto", .fn (.ref 413)),
  ("_law_number", .fn (.ref 423)), ("_law_field", .fn (.ref 428)), ("_law_fields", .fn (.ref 435)), ("_law_read", .fn (.ref 442)), ("_law_varint", .fn (.ref 449)), ("_law_part", .fn (.ref 454)),
  ("_law_write", .fn (.ref 461)), ("_law_sum", .fn (.ref 468)), ("_law_kin", .fn (.ref 475)), ("_law_fits", .fn (.ref 482)), ("_law_agrees", .fn (.ref 489)), ("_law_word", .fn (.ref 496)),
  ("_law_body", .fn (.ref 503)), ("_law_run", .fn (.ref 510)), ("_law_hurt", .fn (.ref 517)), ("_law_draw", .fn (.ref 524)),
  ("Cursor", .fn (.ref 255)), ("Sink", .fn (.ref 332)), ("RunInfo", .fn (.ref 367)), ("Manifesto", .fn (.ref 402)), ("Corrupt", .fn (.ref 56)), ("ShortOctets", .fn (.ref 68)), ("BadOption", .fn (.ref 80)),
  ("MAX_32", .int 4294967295), ("MAX_64", .int 18446744073709551615), ("CHECK_CRC", .int 1), ("CHECK_SUM", .int 2), ("MAX_SEQ", .int 72057594037927935), ("MOST_LEVELS", .int 12),
  ("_law_HEAD", .str (Str.ofString "nnotn")), ("_law_RUN", .str (Str.ofString "lnxtt")),
  ("_law_NUMBERS", .tuple [.int 0, .int 1, .int 127, .int 128, .int 300, .int 16384, .int 4294967296, .int 18446744073709551615]),
  ("_law_ORDERS", .tuple [.int 0, .int 1, .int 255, .int 72057594037927935, .int 72057594037927936, .int 128, .int 65536, .int 4294967296]),
  ("_law_LEVELS", .tuple [.int 0, .int 1, .int 5, .int 11, .int 2, .int 7, .int 10, .int 0, .int 1, .int 2, .int 12]),
  ("len", .fn (.builtin "len")), ("sum", .fn (.builtin "sum")), ("min", .fn (.builtin "min")), ("isinstance", .fn (.builtin "isinstance")),
  ("range", .fn (.type "range")), ("bytes", .fn (.type "bytes")), ("bytearray", .fn (.type "bytearray")), ("tuple", .fn (.type "tuple")), ("list", .fn (.type "list")), ("bool", .fn (.type "bool"))]
noncomputable def globV (x : Str) : Option V := (globs.find? fun p => Str.ofString p.1 == x).map (·.2)
noncomputable def resOf (sc : Scope) (x : Str) : Option X := match sc.names.lookup x with
  | some .local => some (.loc (sc.names.findIdx fun p => p.1 == x))
  | some .cell => some (.loc (sc.names.findIdx (fun p => p.1 == x) + 100))
  | some .globalImplicit => (globV x).map .val
  | _ => .none
noncomputable def cF (st : PySem.Scope) (body : List Stmt) : Option (List Y) := mapO (cY 40 (resOf st)) body
theorem fparts_e0 : fparts f [] = some [] := rfl
end Rk
end

section
open PySem PySem.W PySem.Calls PyProof.Rows
set_option maxRecDepth 100000
namespace Rk
section
variable {B h : Heap} {X : List Addr} {H : List O} {g : G}
noncomputable def IsL (g : G) (h : Heap) (a : Value) (l : List V) : Prop := ∃ p items n, a = .ref p ∧ (∃ o, h.get? p = some o ∧ o.cls = .type "list" ∧ o.data = .seq items n) ∧ RepL g items.toList l
theorem isL_list (I : HInv B X H g h) {a : Value} {l : List V} (r : Rep g a (.list l)) : IsL g h a l := by
  obtain ⟨p, o, n, items, rfl, z, c, d, rl⟩ := r.list_inv
  exact ⟨_, _, _, rfl, ⟨_, I.zin _ _ z, c, d⟩, by simpa using rl⟩
theorem obj_of (I : HInv B X H g h) {a : Value} {i : Nat} (r : Rep g a (.ref i)) : ∃ x d o, a = .ref x ∧ g.ρ[i]? = some (x, d) ∧ H[i]? = some o ∧ ObjOk g h (x, d) o := by
  obtain ⟨x, d, rfl, q⟩ := r.ref_inv
  have hi : i < H.length := by rw [I.len]; exact (List.getElem?_eq_some_iff.mp q).1
  exact ⟨x, d, _, rfl, q, List.getElem?_eq_getElem hi, I.objs i _ _ q (List.getElem?_eq_getElem hi)⟩
theorem listIn_rep (I : HInv B X H g h) {a : Value} {x : V} {l : List V} (r : Rep g a x) (e : listIn H x = some l) : IsL g h a l := by
  induction x using V.casesOn with
  | list m => obtain rfl : m = l := Option.some.inj e; exact isL_list I r
  | ref i =>
    obtain ⟨x, d, o, rfl, q, ho, hob⟩ := obj_of I r
    have e : (match H[i]? with | some (.list l) => some l | some (.frozen (.list l)) => some l | _ => none) = some l := e
    rw [ho] at e
    induction o using O.casesOn with
    | list m => obtain ⟨y, n, it, q', a, d', f⟩ := hob.list_inv; obtain ⟨rfl, rfl⟩ := Prod.mk.inj q'; obtain rfl := Option.some.inj e; exact ⟨_, _, _, rfl, ⟨_, a, rfl, rfl⟩, d'⟩
    | frozen v =>
      induction v using V.casesOn with
      | list m => obtain rfl : m = l := Option.some.inj e; exact isL_list I hob.frozen_inv
      | _ => exact nn e
    | _ => exact nn e
  | _ => exact nn e
theorem isList_of {p : Addr} {items : Array Value} {n : Nat} (x : ∃ o, h.get? p = some o ∧ o.cls = .type "list" ∧ o.data = .seq items n) : h.IsList p items := let ⟨o, a, b, c⟩ := x; ⟨o, a, b, n, c⟩
noncomputable def IsBy (h : Heap) (a : Value) (l : List UInt8) : Prop := (∃ t, a = .bytes l.toArray t) ∨ ∃ p o, a = .ref p ∧ h.get? p = some o ∧ o.cls = .type "bytearray" ∧ o.data = .bytearray l.toArray 0
theorem bytesIn_rep (I : HInv B X H g h) {a : Value} {x : V} {l : List UInt8} (r : Rep g a x) (e : bytesIn H x = some l) : IsBy h a l := by
  induction x using V.casesOn with
  | bytes m => obtain rfl : m = l := Option.some.inj e; exact .inl r.bytes_inv
  | bar m =>
    obtain rfl : m = l := Option.some.inj e
    obtain ⟨p, o, rfl, z, c, d⟩ := r.bar_inv
    exact .inr ⟨_, _, rfl, I.zin _ _ z, c, d⟩
  | ref i =>
    obtain ⟨x, d, o, rfl, q, ho, hob⟩ := obj_of I r
    have e : (match H[i]? with | some (.barr b) => some b | _ => none) = some l := e
    rw [ho] at e
    induction o using O.casesOn with
    | barr m => obtain ⟨y, q', a, f⟩ := hob.barr_inv; obtain ⟨rfl, rfl⟩ := Prod.mk.inj q'; obtain rfl := Option.some.inj e; exact .inr ⟨_, _, rfl, a, rfl, rfl⟩
    | _ => exact nn e
  | _ => exact nn e
end
section
variable {w : World} {c : Cx} {A : Around} {H : List O} {g : G} {s : Shared}
theorem Leaf.int (I : HInv c.B c.X H g s.heap) {t : Sem Value} {n : Int} (h : ∀ (Q : Value → Shared → Prop) (E : Value → Shared → Prop), (∀ k u, Q (.int n u) { s with toks := k }) → wpAny (MM w) A t Q E s) : Leaf w c A H g s t (.int n) :=
  Leaf.of_any I fun Q E q => h Q E fun k u => q k _ (.int n u)
theorem Leaf.bool (I : HInv c.B c.X H g s.heap) {t : Sem Value} {b : Bool} (h : ∀ (Q : Value → Shared → Prop) (E : Value → Shared → Prop), (∀ k, Q (.bool b) { s with toks := k }) → wpAny (MM w) A t Q E s) : Leaf w c A H g s t (.bool b) :=
  Leaf.of_any I fun Q E q => h Q E fun k => q k _ (.bool b)
theorem Leaf.bytes (I : HInv c.B c.X H g s.heap) {t : Sem Value} {b : List UInt8} (h : ∀ (Q : Value → Shared → Prop) (E : Value → Shared → Prop), (∀ k u, Q (.bytes b.toArray u) { s with toks := k }) → wpAny (MM w) A t Q E s) : Leaf w c A H g s t (.bytes b) :=
  Leaf.of_any I fun Q E q => h Q E fun k u => q k _ (.bytes b u)
theorem Leaf.str (I : HInv c.B c.X H g s.heap) {t : Sem Value} {b : Str} (h : ∀ (Q : Value → Shared → Prop) (E : Value → Shared → Prop), (∀ k u, Q (.str b u) { s with toks := k }) → wpAny (MM w) A t Q E s) : Leaf w c A H g s t (.str b) :=
  Leaf.of_any I fun Q E q => h Q E fun k u => q k _ (.str b u)
theorem Leaf.new (I : HInv c.B c.X H g s.heap) {t : Sem Value} {v : V}
    (h : ∀ (Q : Value → Shared → Prop) (E : Value → Shared → Prop), (∀ h' k a o, (∀ x o, s.heap.get? x = some o → h'.get? x = some o) → s.heap.get? a = none → h'.get? a = some o →
      (∀ g', g.le g' → g'.Z a = some o → Rep g' (.ref a) v) → Q (.ref a) { s with heap := h', toks := k }) → wpAny (MM w) A t Q E s) : Leaf w c A H g s t v := fun Q E q =>
  wpC_any (h Q E fun h' k a o kp hn ha r => by
    have hz : g.Z a = none := by
      cases e : g.Z a with
      | none => rfl
      | some o' => rw [I.zin a o' e] at hn; exact nn hn.symm
    have le := G.le_add (o := o) hz
    exact q h' k _ (g.add a o) le rfl (I.add kp hn ha) kp (r _ le (by simp [G.add])))
theorem get?_size_none (h : Heap) : h.get? h.objs.size = none := by
  cases e : h.get? h.objs.size with
  | none => rfl
  | some o => exact absurd (Heap.lt_size e) (Nat.lt_irrefl _)
theorem keeps_push (h : Heap) (o : Obj) : ∀ x ob, h.get? x = some ob → (h.push o).get? x = some ob := fun _ _ e => Heap.get?_push_of_some _ e
theorem Leaf.push (I : HInv c.B c.X H g s.heap) {t : Sem Value} {v : V} {o : Obj} (r : ∀ g' a, g.le g' → g'.Z a = some o → Rep g' (.ref a) v) (hf : o.isFreed = false)
    (h : ∀ (Q : Value → Shared → Prop) (E : Value → Shared → Prop), (∀ k, Q (.ref s.heap.objs.size) { s with heap := s.heap.push o, toks := k }) → wpAny (MM w) A t Q E s) : Leaf w c A H g s t v :=
  Leaf.new I fun Q E q => h Q E fun k => q _ k _ o (keeps_push _ _) (get?_size_none _) (Heap.get?_push_size _ hf) fun g' le z => r g' _ le z
theorem mulOk {i j : Int} (h : j.natAbs < 2 ^ 64 ∨ i.natAbs < 2 ^ 64) : IntMulOk i j := by
  rcases h with h | h
  · exact IntMulOk.of_right (intBits_le_64 (by omega) (by omega))
  · exact IntMulOk.of_left (intBits_le_64 (by omega) (by omega))
theorem pylongOk {i j : Int} (h : ¬ 2 ^ 100 ≤ j.natAbs) : Builtin.divisionGoesByPylong i j = false := by
  refine PyProof.noPylong_of_log2 ?_
  rcases Nat.eq_zero_or_pos j.natAbs with h0 | hp
  · rw [h0]; decide
  · exact Nat.lt_of_lt_of_le ((Nat.log2_lt (Nat.ne_of_gt hp)).mpr (Nat.lt_of_not_le h)) (by decide)
theorem i3 {α : Type} {c : Prop} [Decidable c] {o : Option α} {y : α} (h : (if c then .none else o) = some y) : ¬ c ∧ o = some y := by
  by_cases q : c
  · rw [if_pos q] at h; exact nn h
  · rw [if_neg q] at h; exact ⟨q, h⟩
theorem add_lists (I : HInv c.B c.X H g s.heap) {a b : Value} {l m : List V} {v : V} (hl : IsL g s.heap a l) (hm : IsL g s.heap b m) (e : (if l.length + m.length ≤ 1000000 then some (V.list (l ++ m)) else .none) = some v) : Leaf w c A H g s (binaryOp .Add a b) v := by
  obtain ⟨p, it, n, rfl, ⟨⟨cls, dd, data, sl⟩, ho, hc, hd⟩, rl⟩ := hl
  obtain ⟨p2, it2, n2, rfl, ⟨⟨cls2, dd2, data2, sl2⟩, ho2, hc2, hd2⟩, rl2⟩ := hm
  obtain rfl : cls = _ := hc
  obtain rfl : data = _ := hd
  obtain rfl : cls2 = _ := hc2
  obtain rfl : data2 = _ := hd2
  obtain ⟨hz, e⟩ := i2 e
  obtain rfl := Option.some.inj e
  have hsz : it.size + it2.size ≤ sizeLine := by
    have q := rl.length; have q2 := rl2.length
    simp only [Array.length_toList] at q q2
    rw [sizeLine_eq]; omega
  refine Leaf.push (o := { cls := .type "list", data := .seq (it ++ it2) }) I (fun g' a le z => ?_) rfl fun Q E q => ?_
  · exact .list (items := it.toList ++ it2.toList) (n := 0) z rfl (by simp) ((rl.append rl2).mono le)
  · exact concat_meets ⟨_, ho, rfl⟩ ⟨_, ho2, rfl⟩ noFill_list_add seq_list_add PySem.F.slot_list_add PySem.F.entry_list_add (PySem.F.args_list_add_2 _ _) (list_addW p p2 it it2 n n2 dd dd2 sl sl2 hsz) ⟨ho, ho2, q _⟩
theorem leaf_add (I : HInv c.B c.X H g s.heap) {a b : Value} {x y v : V} (ha : Rep g a x) (hb : Rep g b y) (e : addV H x y = some v) : Leaf w c A H g s (binaryOp .Add a b) v := by
  have lists : (match listIn H x, listIn H y with | some l, some m => if l.length + m.length ≤ 1000000 then some (V.list (l ++ m)) else .none | _, _ => .none) = some v → Leaf w c A H g s (binaryOp .Add a b) v := fun e => by
    cases el : listIn H x with
    | none => rw [el] at e; exact nn e
    | some l =>
      cases em : listIn H y with
      | none => rw [el, em] at e; exact nn e
      | some m => rw [el, em] at e; exact add_lists I (listIn_rep I ha el) (listIn_rep I hb em) e
  induction x using V.casesOn with
  | int i =>
    induction y using V.casesOn with
    | int j =>
      obtain rfl := Option.some.inj e
      obtain ⟨t, rfl⟩ := ha.int_inv
      obtain ⟨u, rfl⟩ := hb.int_inv
      exact Leaf.int I fun Q E q => PyProof.Rows.add_int (q _ _)
    | _ => exact nn e
  | bytes l =>
    induction y using V.casesOn with
    | bytes m =>
      obtain ⟨hz, e⟩ := i2 e
      obtain rfl := Option.some.inj e
      obtain ⟨t, rfl⟩ := ha.bytes_inv
      obtain ⟨u, rfl⟩ := hb.bytes_inv
      refine Leaf.bytes I fun Q E q => KBy.add_bytes (by simpa using hz) fun t' k => ?_
      have := q k t'
      rwa [← List.append_toArray] at this
    | _ => exact nn e
  | str l =>
    induction y using V.casesOn with
    | str m =>
      obtain ⟨hz, e⟩ := i2 e
      obtain rfl := Option.some.inj e
      obtain ⟨t, rfl⟩ := ha.str_inv
      obtain ⟨u, rfl⟩ := hb.str_inv
      exact Leaf.str I fun Q E q => PyProof.Rows.add_str (fun t' k => q k t') (by rw [sizeLine_eq]; omega)
    | _ => exact nn e
  | _ => exact lists e
theorem flat_rep (b : UInt8) : ∀ m, (List.replicate m [b]).flatten = List.replicate m b
  | 0 => rfl
  | m + 1 => by simp [List.replicate_succ, flat_rep b m]
theorem leaf_mul (I : HInv c.B c.X H g s.heap) {a b : Value} {x y v : V} (ha : Rep g a x) (hb : Rep g b y) (e : mulV x y = some v) : Leaf w c A H g s (binaryOp .Mult a b) v := by
  induction x using V.casesOn with
  | int i =>
    induction y using V.casesOn with
    | int j =>
      obtain ⟨hz, e⟩ := i2 e
      obtain rfl := Option.some.inj e
      obtain ⟨t, rfl⟩ := ha.int_inv
      obtain ⟨u, rfl⟩ := hb.int_inv
      exact Leaf.int I fun Q E q => PyProof.Rows.mul_int (q _ _) (mulOk hz)
    | _ => exact nn e
  | bytes l =>
    induction l using List.casesOn with
    | nil => exact nn e
    | cons b' l =>
      induction l using List.casesOn with
      | cons _ _ => exact nn e
      | nil =>
        induction y using V.casesOn with
        | int n =>
          obtain ⟨hz, e⟩ := i2 e
          obtain rfl := Option.some.inj e
          obtain ⟨t, rfl⟩ := ha.bytes_inv
          obtain ⟨u, rfl⟩ := hb.int_inv
          refine Leaf.bytes I fun Q E q => bytes_mul_any (by simp) (by omega) (by omega) (by simp) fun t' k => ?_
          have := q k t'
          rwa [← flat_rep] at this
        | _ => exact nn e
  | _ => exact nn e
noncomputable def int2 (f : Int → Int → Option V) (a b : V) : Option V := match a, b with
  | .int i, .int j => f i j
  | _, _ => .none
theorem int2_k {a b : Value} {x y v : V} {f : Int → Int → Option V} {P : Value → Value → Prop} (ha : Rep g a x) (hb : Rep g b y) (e : int2 f x y = some v) (k : ∀ i j t u, f i j = some v → P (.int i t) (.int j u)) : P a b := by
  induction x using V.casesOn with
  | int i =>
    induction y using V.casesOn with
    | int j =>
      obtain ⟨t, rfl⟩ := ha.int_inv
      obtain ⟨u, rfl⟩ := hb.int_inv
      exact k i j t u e
    | _ => exact nn e
  | _ => exact nn e
theorem leaf_bin (I : HInv c.B c.X H g s.heap) {op : Operator} {a b : Value} {x y v : V} (ha : Rep g a x) (hb : Rep g b y) (e : binV H op x y = some v) : Leaf w c A H g s (binaryOp op a b) v := by
  induction op using Operator.casesOn with
  | Add => exact leaf_add I ha hb e
  | Mult => exact leaf_mul I ha hb e
  | Sub => exact int2_k (P := fun a b => Leaf w c A H g s (binaryOp .Sub a b) v) ha hb (f := fun i j => some (.int (i - j))) e fun i j t u e => sq e (Leaf.int I fun Q E q => PyProof.Rows.sub_int (q _ _))
  | FloorDiv =>
    refine int2_k (P := fun a b => Leaf w c A H g s (binaryOp .FloorDiv a b) v) ha hb (f := fun i j => if j = 0 ∨ 2 ^ 100 ≤ j.natAbs then .none else some (.int (i.fdiv j))) e fun i j t u e => ?_
    obtain ⟨hz, e⟩ := i3 e
    exact sq e (Leaf.int I fun Q E q => PyProof.Rows.floordiv_int (fun z => hz (.inl z)) (q _ _) (.inl (pylongOk fun z => hz (.inr z))))
  | Mod =>
    refine int2_k (P := fun a b => Leaf w c A H g s (binaryOp .Mod a b) v) ha hb (f := fun i j => if j = 0 then .none else some (.int (i.fmod j))) e fun i j t u e => ?_
    obtain ⟨hz, e⟩ := i3 e
    exact sq e (Leaf.int I fun Q E q => PyProof.Rows.mod_int' hz (q _ _))
  | Pow =>
    refine int2_k (P := fun a b => Leaf w c A H g s (binaryOp .Pow a b) v) ha hb (f := fun i j => if 0 ≤ j ∧ j ≤ 1000000 ∧ i.natAbs < 2 ^ 64 then some (.int (i ^ j.toNat)) else .none) e fun i j t u e => ?_
    obtain ⟨hz, e⟩ := i2 e
    exact sq e (Leaf.int I fun Q E q => PyProof.Rows.pow_int_small hz.1 hz.2.1 hz.2.2 (q _ _))
  | BitAnd => exact int2_k (P := fun a b => Leaf w c A H g s (binaryOp .BitAnd a b) v) ha hb (f := fun i j => some (.int (Builtin.bitAnd i j))) e fun i j t u e => sq e (Leaf.int I fun Q E q => PyProof.Rows.and_int (q _ _))
  | BitOr => exact int2_k (P := fun a b => Leaf w c A H g s (binaryOp .BitOr a b) v) ha hb (f := fun i j => some (.int (Builtin.bitOr i j))) e fun i j t u e => sq e (Leaf.int I fun Q E q => PyProof.Rows.or_int (q _ _))
  | LShift =>
    refine int2_k (P := fun a b => Leaf w c A H g s (binaryOp .LShift a b) v) ha hb (f := fun i j => if 0 ≤ j ∧ j ≤ 1000000 ∧ i.natAbs < 2 ^ 64 then some (.int (i * 2 ^ j.toNat)) else .none) e fun i j t u e => ?_
    obtain ⟨hz, e⟩ := i2 e
    exact sq e (Leaf.int I fun Q E q => PyProof.Rows.lshift_int_small hz.1 hz.2.1 hz.2.2 (q _ _))
  | RShift =>
    refine int2_k (P := fun a b => Leaf w c A H g s (binaryOp .RShift a b) v) ha hb (f := fun i j => if 0 ≤ j then some (.int (i.fdiv (2 ^ j.toNat))) else .none) e fun i j t u e => ?_
    obtain ⟨hz, e⟩ := i2 e
    exact sq e (Leaf.int I fun Q E q => PyProof.Rows.rshift_int hz (q _ _))
  | _ => exact int2_k (P := fun a b => Leaf w c A H g s (binaryOp _ a b) v) ha hb (f := fun i j => .none) e fun i j t u e => nn e
theorem leaf_neg (I : HInv c.B c.X H g s.heap) {a : Value} {x v : V} (ha : Rep g a x) (e : (intOf x).map (fun i => V.int (-i)) = some v) : Leaf w c A H g s (unaryOp .USub a) v := by
  induction x using V.casesOn with
  | int i =>
    obtain rfl := Option.some.inj e
    obtain ⟨t, rfl⟩ := ha.int_inv
    exact Leaf.int I fun Q E q => PyProof.Rows.neg_int (q _ _)
  | _ => exact nn e
end
end Rk
end

section
open PySem PySem.W PySem.Calls PyProof.Rows
set_option maxRecDepth 100000
namespace Rk.BA
theorem plainAttrs : PlainAttrs "bytearray" :=
  ⟨⟨"bytearray.__getattribute__", by rw [typeLookup_type, builtinLookup_eq_fast]; kernel_rfl, by decide +kernel⟩, by rw [typeLookup_type, builtinLookup_eq_fast]; kernel_rfl⟩
theorem owner : Manifest.owners.lookup (String.ofList ['y', 'a', 'r', 'r', 'a', 'e', 't', 'y', 'b'].reverse) = some Manifest.sig_bytearray := by kernel_rfl
theorem slot_len : Slot "bytearray" "__len__" "bytearray.__len__" :=
  .of (owner := "bytearray") (n := "__len__") (by rw [typeLookup_type, builtinLookup_eq_fast]; kernel_rfl) (by decide +kernel) (by decide +kernel) (by decide +kernel)
    (by first | exact .inl (by decide +kernel) | exact .inr (by decide +kernel)) (by rw [isSubtype_type]; kernel_rfl)
theorem entry_len : entryFor table "bytearray.__len__" = some Builtin.«bytearray.__len__» := entryFor_of_tree (by kernel_rfl)
theorem args_len (a : Value) : argsOk "bytearray.__len__" ⟨[a], []⟩ := by
  unfold argsOk; rw [signature?_of (id := "bytearray.__len__") (n := ['_', '_', 'n', 'e', 'l', '_', '_']) (o := ['y', 'a', 'r', 'r', 'a', 'e', 't', 'y', 'b']) (by kernel_rfl) owner]; kernel_rfl
theorem slot_getitem : Slot "bytearray" "__getitem__" "bytearray.__getitem__" :=
  .of (owner := "bytearray") (n := "__getitem__") (by rw [typeLookup_type, builtinLookup_eq_fast]; kernel_rfl) (by decide +kernel) (by decide +kernel) (by decide +kernel)
    (by first | exact .inl (by decide +kernel) | exact .inr (by decide +kernel)) (by rw [isSubtype_type]; kernel_rfl)
theorem entry_getitem : entryFor table "bytearray.__getitem__" = some Builtin.«bytearray.__getitem__» := entryFor_of_tree (by kernel_rfl)
theorem args_getitem (a b : Value) : argsOk "bytearray.__getitem__" ⟨[a, b], []⟩ := by
  unfold argsOk; rw [signature?_of (id := "bytearray.__getitem__") (n := ['_', '_', 'm', 'e', 't', 'i', 't', 'e', 'g', '_', '_']) (o := ['y', 'a', 'r', 'r', 'a', 'e', 't', 'y', 'b']) (by kernel_rfl) owner]; kernel_rfl
theorem slot_setitem : Slot "bytearray" "__setitem__" "bytearray.__setitem__" :=
  .of (owner := "bytearray") (n := "__setitem__") (by rw [typeLookup_type, builtinLookup_eq_fast]; kernel_rfl) (by decide +kernel) (by decide +kernel) (by decide +kernel)
    (by first | exact .inl (by decide +kernel) | exact .inr (by decide +kernel)) (by rw [isSubtype_type]; kernel_rfl)
theorem entry_setitem : entryFor table "bytearray.__setitem__" = some Builtin.«bytearray.__setitem__» := entryFor_of_tree (by kernel_rfl)
theorem args_setitem (a b c : Value) : argsOk "bytearray.__setitem__" ⟨[a, b, c], []⟩ := by
  unfold argsOk; rw [signature?_of (id := "bytearray.__setitem__") (n := ['_', '_', 'm', 'e', 't', 'i', 't', 'e', 's', '_', '_']) (o := ['y', 'a', 'r', 'r', 'a', 'e', 't', 'y', 'b']) (by kernel_rfl) owner]; kernel_rfl
theorem slot_append : Slot "bytearray" "append" "bytearray.append" :=
  .of (owner := "bytearray") (n := "append") (by rw [typeLookup_type, builtinLookup_eq_fast]; kernel_rfl) (by decide +kernel) (by decide +kernel) (by decide +kernel)
    (by first | exact .inl (by decide +kernel) | exact .inr (by decide +kernel)) (by rw [isSubtype_type]; kernel_rfl)
theorem entry_append : entryFor table "bytearray.append" = some Builtin.«bytearray.append» := entryFor_of_tree (by kernel_rfl)
theorem args_append (a b : Value) : argsOk "bytearray.append" ⟨[a, b], []⟩ := by
  unfold argsOk; rw [signature?_of (id := "bytearray.append") (n := ['d', 'n', 'e', 'p', 'p', 'a']) (o := ['y', 'a', 'r', 'r', 'a', 'e', 't', 'y', 'b']) (by kernel_rfl) owner]; kernel_rfl
theorem slot_extend : Slot "bytearray" "extend" "bytearray.extend" :=
  .of (owner := "bytearray") (n := "extend") (by rw [typeLookup_type, builtinLookup_eq_fast]; kernel_rfl) (by decide +kernel) (by decide +kernel) (by decide +kernel)
    (by first | exact .inl (by decide +kernel) | exact .inr (by decide +kernel)) (by rw [isSubtype_type]; kernel_rfl)
theorem entry_extend : entryFor table "bytearray.extend" = some Builtin.«bytearray.extend» := entryFor_of_tree (by kernel_rfl)
theorem args_extend (a b : Value) : argsOk "bytearray.extend" ⟨[a, b], []⟩ := by
  unfold argsOk; rw [signature?_of (id := "bytearray.extend") (n := ['d', 'n', 'e', 't', 'x', 'e']) (o := ['y', 'a', 'r', 'r', 'a', 'e', 't', 'y', 'b']) (by kernel_rfl) owner]; kernel_rfl
theorem slot_buffer : Slot "bytearray" "__buffer__" "bytearray.__buffer__" :=
  .of (owner := "bytearray") (n := "__buffer__") (by rw [typeLookup_type, builtinLookup_eq_fast]; kernel_rfl) (by decide +kernel) (by decide +kernel) (by decide +kernel)
    (by first | exact .inl (by decide +kernel) | exact .inr (by decide +kernel)) (by rw [isSubtype_type]; kernel_rfl)
theorem type_append : typeOf (.builtin "bytearray.append") = pure (.type "method_descriptor") := by show builtinType _ = _; rw [builtinType_eq_fast]; kernel_rfl
theorem type_extend : typeOf (.builtin "bytearray.extend") = pure (.type "method_descriptor") := by show builtinType _ = _; rw [builtinType_eq_fast]; kernel_rfl
end Rk.BA
end

section
open PySem PySem.W PySem.Calls PyProof.Rows PySem.Builtin
set_option maxRecDepth 100000
namespace Rk
section
variable {prog : Program} {w : World} {A : Around} {E : Value → Shared → Prop} {s : Shared}
theorem wpAny_payload_bar {a : Addr} {o : Obj} {b : Array UInt8} {n : Nat} {Q : Array UInt8 → Shared → Prop} (ho : s.heap.get? a = some o) (hd : o.data = .bytearray b n) (h : Q b s) :
    wpAny (model prog w) A (Bytes.payload (.ref a)) Q E s := by
  unfold Bytes.payload Bytes.payload?
  refine wpAny_bind (wpAny_bind (wpAny_load ho ?_))
  rw [hd]
  exact wpAny_pure (wpAny_pure h)
theorem wpAny_subscript_int {k : Int} {t : Tok} {Q : Option Int → Shared → Prop} (h0 : 0 ≤ k) (h1 : k < 2 ^ 40) (h : Q (some k) s) : wpAny (model prog w) A (Bytes.subscript? (.int k t)) Q E s := by
  unfold Bytes.subscript?
  refine wpAny_bind (wpAny_specialOf (typeIs_int s k t) PySem.F.slot_int_index.lookup ?_)
  show wpAny _ A (if (!Bytes.fitsIndex k) = true then _ else pure (some k)) _ E s
  rw [show Bytes.fitsIndex k = true by simp only [Bytes.fitsIndex, Bool.and_eq_true, decide_eq_true_eq]; lia]
  exact wpAny_pure h
theorem bar_getitem {a : Addr} {o : Obj} {b : List UInt8} {n : Nat} {k : Int} {u : Tok} {x : UInt8} :
    Meets («bytearray.__getitem__» ⟨[.ref a, .int k u], []⟩) (fun _ R s => s.heap.get? a = some o ∧ o.data = .bytearray b.toArray n ∧ 0 ≤ k ∧ k < 2 ^ 40 ∧ b[k.toNat]? = some x ∧ R (.ok (.ret (.int x.toNat s.toks))) { s with toks := s.toks + 1 }) := by
  refine .of_wp fun prog w A R s hS => ?_
  obtain ⟨ho, hd, h0, h1, hx, h⟩ := hS
  show wpAny _ _ (Bytes.subscript? (.int k u) >>= fun r => _) _ _ s
  refine wpAny_bind (wpAny_subscript_int h0 h1 ?_)
  show wpAny _ _ (Bytes.payload (.ref a) >>= fun r => _) _ _ s
  refine wpAny_bind (wpAny_payload_bar ho hd ?_)
  have hl : k.toNat < b.length := (List.getElem?_eq_some_iff.mp hx).1
  have e : (seqIndex? k b.toArray.size).bind (b.toArray[·]?) = some x := by
    have hn : ¬ k < 0 := by lia
    have hn2 : k < (b.length : Int) := by lia
    rw [show seqIndex? k b.toArray.size = some k.toNat by simp [seqIndex?, hn, h0, hn2]]
    simpa using hx
  rw [e]
  show wpAny _ _ (retInt x.toNat) _ _ s
  exact wpAny_bind (wpAny_mkInt (wpAny_pure ⟨_, rfl, h⟩))
theorem bar_len {a : Addr} {o : Obj} {b : List UInt8} {n : Nat} :
    Meets («bytearray.__len__» ⟨[.ref a], []⟩) (fun _ R s => s.heap.get? a = some o ∧ o.data = .bytearray b.toArray n ∧ R (.ok (.ret (.int b.length s.toks))) { s with toks := s.toks + 1 }) := by
  refine .of_wp fun prog w A R s hS => ?_
  obtain ⟨ho, hd, h⟩ := hS
  show wpAny _ _ (Bytes.payload (.ref a) >>= fun r => _) _ _ s
  refine wpAny_bind (wpAny_payload_bar ho hd ?_)
  show wpAny _ _ (retInt b.toArray.size) _ _ s
  refine wpAny_bind (wpAny_mkInt (wpAny_pure ⟨_, rfl, ?_⟩))
  simpa using h
theorem bar_slice {a sl : Addr} {o : Obj} {b : List UInt8} {n : Nat} {l u : Value} {lo hi : Option Int} (hl : IsPart l lo) (hu : IsPart u hi) :
    Meets («bytearray.__getitem__» ⟨[.ref a, .ref sl], []⟩) (fun _ R s => s.heap.get? a = some o ∧ o.data = .bytearray b.toArray n ∧ s.heap.IsSliceOf sl l u .none ∧ b.length ≤ sizeLine ∧
      R (.ok (.ret (.ref s.heap.objs.size))) { s with heap := s.heap.push { cls := .type "bytearray", data := .bytearray (KBy.picked b.toArray lo hi) 0 } }) := by
  refine .of_wp fun prog w A R s hS => ?_
  obtain ⟨hob, hdb, ⟨os, hos, hcs, hds⟩, hsz, h⟩ := hS
  have hT : s.TypeIs (.ref sl) "slice" := ⟨os, hos, hcs⟩
  show wpAny _ _ (Bytes.subscript? (.ref sl) >>= fun r => _) _ _ s
  refine wpAny_bind ?_
  unfold Bytes.subscript?
  refine wpAny_bind (wpAny_specialOf hT slice_no_index (wpAny_pure ?_))
  refine wpAny_bind (wpAny_typeOf hT ?_)
  show wpAny _ _ (Bytes.sliceParts (.ref sl) >>= fun r => _) _ _ s
  refine wpAny_bind ?_
  unfold Bytes.sliceParts
  refine wpAny_bind (wpAny_field (x := .none) hos hds rfl ?_)
  kby_none
  refine wpAny_ite (KBy.ite_no (show ¬ ((Value.none == rawInt 0) = true) from Bool.false_ne_true) ?_)
  refine wpAny_bind (wpAny_field (x := l) hos hds rfl ?_)
  have go : wpAny (model prog w) A.in1 (sliceIndices (rawPart lo) (rawPart hi) (rawPart none) b.toArray.size) (fun r s' => r = sliceBounds lo hi none b.toArray.size ∧ s' = s) (fun _ _ => False) s :=
    wpAny_of_eq (sliceIndices_raw lo hi none b.toArray.size (fun e => nomatch e)) ⟨rfl, rfl⟩
  have fin : wpAny (model prog w) A.in1 (do let b ← Bytes.payload (.ref a); let (start, stop, step) ← sliceIndices (rawPart lo) (rawPart hi) (rawPart none) b.size; ret (← Bytes.newBytearray (Bytes.sliced b start stop step))) (fun fin s' => ∃ v, fin = Fin.done (Flow.ret v) ∧ R (Except.ok (Flow.ret v)) s') (fun e s' => R (.error e) s') s := by
    refine wpAny_bind (wpAny_payload_bar hob hdb ?_)
    refine wpAny_bind (wpAny_mono go (fun r s' hr => ?_) fun _ _ e => e.elim)
    obtain ⟨r1, r2, r3⟩ := r
    obtain ⟨hr1, hr2⟩ := hr
    subst hr2
    have hp : Bytes.sliced b.toArray r1 r2 r3 = KBy.picked b.toArray lo hi := by unfold KBy.picked; rw [← hr1]
    show wpAny _ _ (Bytes.newBytearray (Bytes.sliced b.toArray r1 r2 r3) >>= fun v => ret v) _ _ _
    rw [hp]
    refine wpAny_bind ?_
    unfold Builtin.Bytes.newBytearray
    refine wpAny_newObj_type (wpAny_pure ⟨_, rfl, h⟩) ?_
    exact Nat.le_trans (KBc.size_picked_le _ _ _) (by simpa using hsz)
  cases hl <;> cases hu <;> (first
    | (kby_none; (refine wpAny_bind (wpAny_field (x := .none) hos hds rfl ?_)); kby_none)
    | (kby_none; (refine wpAny_bind (wpAny_field (x := .int _ _) hos hds rfl ?_)); kby_int)
    | (kby_int; (refine wpAny_bind (wpAny_field (x := .none) hos hds rfl ?_)); kby_none)
    | (kby_int; (refine wpAny_bind (wpAny_field (x := .int _ _) hos hds rfl ?_)); kby_int)) <;> refine wpAny_pure ?_
  all_goals exact fin
theorem bar_setitem {a : Addr} {o : Obj} {b : List UInt8} {n : Nat} {k x : Int} {u t : Tok} :
    Meets («bytearray.__setitem__» ⟨[.ref a, .int k u, .int x t], []⟩) (fun _ R s => s.heap.get? a = some o ∧ o.data = .bytearray b.toArray n ∧ 0 ≤ k ∧ k < b.length ∧ b.length ≤ sizeLine ∧ 0 ≤ x ∧ x < 256 ∧
      R (.ok (.ret .none)) { s with heap := s.heap.update a (Obj.mapBytearray (·.setIfInBounds k.toNat x.toNat.toUInt8)) }) := by
  refine .of_wp fun prog w A R s hS => ?_
  obtain ⟨ho, hd, h0, h1, hz, hx0, hx1, h⟩ := hS
  have h1' : k < 2 ^ 40 := by rw [sizeLine_eq] at hz; lia
  show wpAny _ _ (Bytes.subscript? (.int k u) >>= fun r => _) _ _ s
  refine wpAny_bind (wpAny_subscript_int h0 h1' ?_)
  show wpAny _ _ (Bytes.byteValue (.int x t) >>= fun r => _) _ _ s
  refine wpAny_bind ?_
  unfold Bytes.byteValue
  refine wpAny_bind (wpAny_of_eq (rfl : asIndex (.int x t) = pure x) ?_)
  refine bm_if_false (by simp only [Bool.or_eq_false_iff, decide_eq_false_iff_not]; lia) (wpAny_pure ?_)
  show wpAny _ _ (Bytes.payload (.ref a) >>= fun r => _) _ _ s
  refine wpAny_bind (wpAny_payload_bar ho hd ?_)
  have e : seqIndex? k b.toArray.size = some k.toNat := by
    have hn : ¬ k < 0 := by lia
    simp [seqIndex?, hn, h0, h1]
  rw [e]
  show wpAny _ _ (updateBytearray a (·.setIfInBounds k.toNat x.toNat.toUInt8) >>= fun _ => ret .none) _ _ _
  refine wpAny_bind ?_
  unfold updateBytearray
  refine wpAny_bind (wpAny_load ho ?_)
  obtain ⟨oc, od, odt, os⟩ := o
  simp only at hd
  subst hd
  show wpAny _ _ (update a (Obj.mapBytearray (·.setIfInBounds k.toNat x.toNat.toUInt8)) >>= fun _ => lookBehind a) _ _ _
  refine wpAny_bind (wpAny_update ho ?_)
  refine wpAny_lookBehind (Heap.get?_update_self (Obj.mapBytearray (·.setIfInBounds k.toNat x.toNat.toUInt8)) ho rfl) ?_ (wpAny_pure ⟨_, rfl, h⟩)
  show (if (b.toArray.setIfInBounds k.toNat x.toNat.toUInt8).size > sizeLine then some "bytearray:memory" else none) = none
  rw [if_neg]
  simpa using hz
end
section
variable {w : World} {c : Cx} {A : Around} {H : List O} {g : G} {s : Shared}
theorem eqAt_bytes (A : Around) (s : Shared) (b : List UInt8) (t u : Tok) : SeqAt.EqAt A s (.bytes b.toArray t) (.bytes b.toArray u) true := fun prog w E Q hq => by
  unfold eqBool
  refine wpAny_holding (wpAny_ite_split (fun _ => wpAny_bind (wpAny_rule (wpAny_pure hq))) fun _ => ?_)
  exact wpAny_bind (richCompare_gives (typeIs_bytes s _ t) (typeIs_bytes s _ u) FB.slot_bytes_eq FB.entry_bytes_eq (FB.args_bytes_eq_2 _ _) (gives_bytes_eq _ _ t u) (fun x => nomatch x) (by
    show wpAny _ _ (truthOfDropped (.bool (b.toArray.toList == b.toArray.toList))) _ _ _
    rw [beq_self_eq_true]; exact wpAny_truthy_bool hq))
theorem RepL.get {g : G} {vs : List Value} {as : List V} (h : RepL g vs as) {i : Nat} (hi : i < vs.length) (hj : i < as.length) : Rep g vs[i] as[i] := by
  obtain ⟨v, e, r⟩ := h.at (List.getElem?_eq_getElem hj)
  rw [List.getElem?_eq_getElem hi] at e; obtain rfl := Option.some.inj e; exact r
theorem allT (n : Nat) : (List.range n).all (fun _ => true) = true := List.all_eq_true.mpr fun _ _ => rfl
theorem eqD_k {n : Nat} {x y : V} {P : V → V → Prop} (e : eqD n x y = true) (ki : ∀ i, P (.int i) (.int i)) (kb : ∀ b, P (.bytes b) (.bytes b)) (kt : ∀ l m, eqD n (.tuple l) (.tuple m) = true → P (.tuple l) (.tuple m)) : P x y := by
  induction x using V.casesOn with
  | int i => induction y using V.casesOn with
    | int j =>
      have e : (i == j) = true := by induction n using Nat.casesOn <;> exact e
      exact eq_of_beq e ▸ ki i
    | _ => induction n using Nat.casesOn <;> exact ff e
  | bytes i => induction y using V.casesOn with
    | bytes j =>
      have e : (i == j) = true := by induction n using Nat.casesOn <;> exact e
      exact eq_of_beq e ▸ kb i
    | _ => induction n using Nat.casesOn <;> exact ff e
  | tuple i => induction y using V.casesOn with
    | tuple j => exact kt i j e
    | _ => induction n using Nat.casesOn <;> exact ff e
  | _ => induction n using Nat.casesOn <;> exact ff e
noncomputable def TupEq (A : Around) (s : Shared) (a b : Value) : Prop := ∃ p q it it2, a = .ref p ∧ b = .ref q ∧ s.heap.IsTuple p it ∧ s.heap.IsTuple q it2 ∧ it.size = it2.size ∧ ∀ j (h1 : j < it.size) (h2 : j < it2.size), SeqAt.EqAt A.in1 s it[j] it2[j] true
theorem tup_eq (I : HInv c.B c.X H g s.heap) {n : Nat} {a b : Value} {l m : List V} (ha : Rep g a (.tuple l)) (hb : Rep g b (.tuple m)) (e : eqD (n + 1) (.tuple l) (.tuple m) = true)
    (k : ∀ x y, eqD n x y = true → ∀ a b, Rep g a x → Rep g b y → SeqAt.EqAt A.in1 s a b true) : TupEq A s a b := by
  obtain ⟨p1, o1, n1, it1, rfl, z1, c1, d1, r1⟩ := ha.tuple_inv
  obtain ⟨p2, o2, n2, it2, rfl, z2, c2, d2, r2⟩ := hb.tuple_inv
  obtain ⟨el, e⟩ := and_t (show (l.length == m.length && (l.zip m).all fun p => eqD n p.1 p.2) = true from e)
  have el := eq_of_beq el
  have e := List.all_eq_true.mp e
  refine ⟨p1, p2, it1.toArray, it2.toArray, rfl, rfl, ⟨_, I.zin _ _ z1, c1, _, d1⟩, ⟨_, I.zin _ _ z2, c2, _, d2⟩, r1.length.trans (el.trans r2.length.symm), fun j h1 h2 => ?_⟩
  have h1' : j < l.length := r1.length ▸ h1
  have h2' : j < m.length := r2.length ▸ h2
  have hz : j < (l.zip m).length := by rw [List.length_zip]; lia
  have hm : (l[j], m[j]) ∈ l.zip m := List.mem_iff_getElem.mpr ⟨j, hz, List.getElem_zip⟩
  exact k _ _ (e _ hm) _ _ (r1.get h1 h1') (r2.get h2 h2')
theorem eqAt_of (I : HInv c.B c.X H g s.heap) : ∀ (n : Nat) (x y : V), eqD n x y = true → ∀ (A : Around), A.units + n < cLine → ∀ a b, Rep g a x → Rep g b y → SeqAt.EqAt A s a b true := by
  intro n
  induction n with
  | zero =>
    intro x y e A hu a b
    refine eqD_k (P := fun x y => Rep g a x → Rep g b y → SeqAt.EqAt A s a b true) e (fun i ha hb => ?_) (fun i ha hb => ?_) fun l m e => ff e
    · obtain ⟨t, rfl⟩ := ha.int_inv
      obtain ⟨u, rfl⟩ := hb.int_inv
      exact (beq_self_eq_true i) ▸ SeqAt.EqAt.int_int i t i u
    · obtain ⟨t, rfl⟩ := ha.bytes_inv
      obtain ⟨u, rfl⟩ := hb.bytes_inv
      exact eqAt_bytes _ _ _ _ _
  | succ n ih =>
    intro x y e A hu a b
    refine eqD_k (P := fun x y => Rep g a x → Rep g b y → SeqAt.EqAt A s a b true) e (fun i ha hb => ?_) (fun i ha hb => ?_) fun l m e ha hb => ?_
    · obtain ⟨t, rfl⟩ := ha.int_inv
      obtain ⟨u, rfl⟩ := hb.int_inv
      exact (beq_self_eq_true i) ▸ SeqAt.EqAt.int_int i t i u
    · obtain ⟨t, rfl⟩ := ha.bytes_inv
      obtain ⟨u, rfl⟩ := hb.bytes_inv
      exact eqAt_bytes _ _ _ _ _
    · have hu' : A.in1.units + n < cLine := by show A.units + 1 + n < cLine; lia
      obtain ⟨p, q, it, it2, rfl, rfl, ta, tb, hs, hk⟩ := tup_eq I ha hb e fun x y e => ih x y e A.in1 hu'
      by_cases hpq : p = q
      · subst hpq; exact SeqAt.EqAt.same _
      · have := SeqAt.RcAt.tuples (e := fun _ => true) ta tb (Nat.lt_of_le_of_lt (Nat.le_add_right _ _) hu) hk
        rw [hs] at this
        refine SeqAt.EqAt.of_refs hpq ?_
        rw [Nat.min_self, allT, beq_self_eq_true] at this; exact this
theorem cmp_int (I : HInv c.B c.X H g s.heap) {op : CmpOp} {i j : Int} {t u : Tok} {v : Bool} (e : cmpV op (.int i) (.int j) = some v) : Leaf w c A H g s (compareOp op (.int i t) (.int j u)) (.bool v) := by
  refine Leaf.bool I fun Q E q => ?_
  induction op using CmpOp.casesOn with
  | Eq => obtain rfl := Option.some.inj e; exact PyProof.Rows.eq_int (q _)
  | NotEq => obtain rfl := Option.some.inj e; exact PyProof.Rows.ne_int (q _)
  | Lt => obtain rfl := Option.some.inj e; exact PyProof.Rows.lt_int (q _)
  | LtE => obtain rfl := Option.some.inj e; exact PyProof.Rows.le_int (q _)
  | Gt => obtain rfl := Option.some.inj e; exact PyProof.Rows.gt_int (q _)
  | GtE => obtain rfl := Option.some.inj e; exact PyProof.Rows.ge_int (q _)
  | _ => exact nn e
theorem cmp_two {op : CmpOp} {v y z : Bool} {P : CmpOp → Bool → Prop} (e : (match op with | .Eq => some y | .NotEq => some z | _ => .none) = some v) (k1 : P .Eq y) (k2 : P .NotEq z) : P op v := by
  induction op using CmpOp.casesOn with
  | Eq => exact Option.some.inj e ▸ k1
  | NotEq => exact Option.some.inj e ▸ k2
  | _ => exact nn e
theorem cmp_tup (I : HInv c.B c.X H g s.heap) {op : CmpOp} {a b : Value} {l m : List V} {v : Bool} (ha : Rep g a (.tuple l)) (hb : Rep g b (.tuple m)) (e : cmpV op (.tuple l) (.tuple m) = some v) (hu : A.units + 100 < cLine) : Leaf w c A H g s (compareOp op a b) (.bool v) := by
  induction op using CmpOp.casesOn with
  | NotEq =>
    obtain ⟨he, e⟩ := i2 (show (if eqD 5 (.tuple l) (.tuple m) then some false else .none) = some v from e)
    obtain rfl := Option.some.inj e
    have hu' : A.in1.units + 4 < cLine := by show A.units + 1 + 4 < cLine; lia
    obtain ⟨p, q, it, it2, rfl, rfl, ta, tb, hs, hk⟩ := tup_eq I ha hb he fun x y e => eqAt_of I 4 x y e A.in1 hu'
    refine Leaf.bool I fun Q E q => ?_
    have := SeqAt.RcNeAt.tuples (e := fun _ => true) ta tb (Nat.lt_of_le_of_lt (Nat.le_add_right _ _) hu) hk
    rw [hs, Nat.min_self, allT, beq_self_eq_true] at this
    exact this _ w E Q (q s.toks)
  | _ => exact nn e
theorem leaf_cmp (I : HInv c.B c.X H g s.heap) {op : CmpOp} {a b : Value} {x y : V} {v : Bool} (ha : Rep g a x) (hb : Rep g b y) (e : cmpV op x y = some v) (hu : A.units + 100 < cLine) : Leaf w c A H g s (compareOp op a b) (.bool v) := by
  induction x using V.casesOn with
  | int i => induction y using V.casesOn with
    | int j => obtain ⟨t, rfl⟩ := ha.int_inv; obtain ⟨u, rfl⟩ := hb.int_inv; exact cmp_int I e
    | _ => exact nn e
  | bool i => induction y using V.casesOn with
    | bool j =>
      obtain rfl := ha.bool_inv; obtain rfl := hb.bool_inv
      exact cmp_two (P := fun op v => Leaf w c A H g s (compareOp op (.bool i) (.bool j)) (.bool v)) e (Leaf.bool I fun Q E q => PyProof.Rows.eq_bool (q _)) (Leaf.bool I fun Q E q => PyProof.Rows.ne_bool (q _))
    | _ => exact nn e
  | str i => induction y using V.casesOn with
    | str j =>
      obtain ⟨t, rfl⟩ := ha.str_inv; obtain ⟨u, rfl⟩ := hb.str_inv
      exact cmp_two (P := fun op v => Leaf w c A H g s (compareOp op (.str i t) (.str j u)) (.bool v)) e (Leaf.bool I fun Q E q => PyProof.Rows.eq_str (q _)) (Leaf.bool I fun Q E q => PyProof.Rows.ne_str (q _))
    | _ => exact nn e
  | bytes i => induction y using V.casesOn with
    | bytes j =>
      obtain ⟨t, rfl⟩ := ha.bytes_inv; obtain ⟨u, rfl⟩ := hb.bytes_inv
      exact cmp_two (P := fun op v => Leaf w c A H g s (compareOp op (.bytes i.toArray t) (.bytes j.toArray u)) (.bool v)) e (Leaf.bool I fun Q E q => PySem.W.eq_bytes (q _)) (Leaf.bool I fun Q E q => PySem.W.ne_bytes (q _))
    | _ => exact nn e
  | tuple l => induction y using V.casesOn with
    | tuple m => exact cmp_tup I ha hb e hu
    | _ => exact nn e
  | _ => exact nn e
end
end Rk
end

section
set_option genSizeOf false
set_option genCtorIdx false
open PySem PySem.W PySem.Calls PyProof.Rows PySem.Builtin
set_option maxRecDepth 100000
namespace Rk
theorem tn_max (x : Int) : (max 0 x).toNat = x.toNat := by lia
theorem clip_eq (n : Nat) (k : Int) : clip n k = clipAt n k := by
  unfold clip clipAt
  rw [tn_max]
  by_cases h : k < 0
  · rw [if_pos h, if_pos h, Int.min_eq_left (by lia)]
  · rw [if_neg h, if_neg h]; lia
theorem cutL_eq {α : Type} (l : List α) (lo hi : Option Int) : cutL l lo hi = (l.drop (lo.elim 0 (clipAt l.length))).take (hi.elim l.length (clipAt l.length) - lo.elim 0 (clipAt l.length)) := by
  unfold cutL
  induction lo using Option.casesOn <;> cases hi <;> simp [clip_eq]
theorem picked_cut (b : List UInt8) (lo hi : Option Int) : KBy.picked b.toArray lo hi = (cutL b lo hi).toArray := by
  rw [KBc.picked_eq, cutL_eq]; simp
theorem RepL.drop {g : G} {vs : List Value} {as : List V} (h : RepL g vs as) (n : Nat) : RepL g (vs.drop n) (as.drop n) := by
  induction n generalizing vs as with
  | zero => exact h
  | succ n ih => cases h with
    | nil => exact .nil
    | cons _ h => exact ih h
theorem RepL.take {g : G} {vs : List Value} {as : List V} (h : RepL g vs as) (n : Nat) : RepL g (vs.take n) (as.take n) := by
  induction n generalizing vs as with
  | zero => exact .nil
  | succ n ih => cases h with
    | nil => exact .nil
    | cons a h => exact .cons a (ih h)
theorem RepL.cut {g : G} {vs : List Value} {as : List V} (h : RepL g vs as) (lo hi : Option Int) : RepL g (cutL vs lo hi) (cutL as lo hi) := by
  unfold cutL; rw [h.length]; exact (h.drop _).take _
theorem RepL.ints {g : G} {vs : List Value} {as : List V} (h : RepL g vs as) {ns : List Int} (e : intsOf as = some ns) : IntsAre vs ns := by
  induction vs generalizing as ns with
  | nil => obtain rfl := h.nil_inv'; obtain rfl := Option.some.inj e; exact .nil
  | cons v vs ih =>
    obtain ⟨a, r, rfl, h0, h1⟩ := h.cons_inv'
    obtain ⟨i, is, e1, e2, rfl⟩ := intsOf_c e
    obtain rfl := intOf_inv e1
    obtain ⟨t, rfl⟩ := h0.int_inv
    exact .cons _ _ (ih h1 e2)
section
variable {w : World} {c : Cx} {A : Around} {H : List O} {g : G} {s : Shared}
theorem tuple_rep (I : HInv c.B c.X H g s.heap) {a : Value} {l : List V} (r : Rep g a (.tuple l)) : ∃ p it, a = .ref p ∧ IsTup s.heap p it ∧ RepL g it.toList l := by
  obtain ⟨p, o, n, it, rfl, z, c, d, rl⟩ := r.tuple_inv
  exact ⟨_, _, rfl, ⟨_, I.zin _ _ z, c, _, d⟩, rl⟩
theorem Leaf.rep (I : HInv c.B c.X H g s.heap) {t : Sem Value} {a : Value} {v : V} (r : Rep g a v) (h : ∀ (Q : Value → Shared → Prop) (E : Value → Shared → Prop), Q a s → wpAny (MM w) A t Q E s) : Leaf w c A H g s t v :=
  Leaf.of_any I fun Q E q => h Q E (q s.toks a r)
noncomputable def itemB (H : List O) (o : V) (k : Int) : Option V := match o with
  | .tuple l => l[k.toNat]?
  | .str s => (s.cps.toList[k.toNat]?).map fun n => .str (oneStr n)
  | o => match listIn H o with
    | some l => l[k.toNat]?
    | .none => match bytesIn H o with
      | some b => if b.length ≤ 16777216 then (b[k.toNat]?).map fun x => .int x.toNat else .none
      | .none => .none
theorem itemV_k {H : List O} {x y v : V} {P : V → Prop} (e : itemV H x y = some v) (h : ∀ k, 0 ≤ k → k < 2 ^ 40 → itemB H x k = some v → P (.int k)) : P y := by
  induction y using V.casesOn with
  | int k => obtain ⟨hk, e⟩ := i2 (show (if 0 ≤ k ∧ k < 2 ^ 40 then itemB H x k else .none) = some v from e); exact h k hk.1 hk.2 e
  | _ => exact nn e
theorem itemB_k {H : List O} {x v : V} {k : Int} {P : V → Prop} (e : itemB H x k = some v) (ht : ∀ l, l[k.toNat]? = some v → P (.tuple l)) (hs : ∀ (s : Str) n, s.cps.toList[k.toNat]? = some n → v = .str (oneStr n) → P (.str s))
    (hl : ∀ l, listIn H x = some l → l[k.toNat]? = some v → P x) (hb : ∀ b n, bytesIn H x = some b → b.length ≤ 16777216 → b[k.toNat]? = some n → v = .int n.toNat → P x) : P x := by
  have gen (e : (match listIn H x with | some l => l[k.toNat]? | .none => match bytesIn H x with | some b => if b.length ≤ 16777216 then (b[k.toNat]?).map (fun x => V.int x.toNat) else .none | .none => .none) = some v) : P x := by
    cases h : listIn H x with
    | some l => rw [h] at e; exact hl l h e
    | none =>
      rw [h] at e
      cases h : bytesIn H x with
      | some b =>
        rw [h] at e
        obtain ⟨hz, e⟩ := i2 e
        obtain ⟨n, hn, q⟩ := Option.map_eq_some_iff.mp e
        exact hb b n h hz hn q.symm
      | none => rw [h] at e; exact nn e
  induction x using V.casesOn with
  | tuple l => exact ht l e
  | str s => obtain ⟨n, hn, q⟩ := Option.map_eq_some_iff.mp (show (s.cps.toList[k.toNat]?).map (fun n => V.str (oneStr n)) = some v from e); exact hs s n hn q.symm
  | _ => exact gen e
theorem leaf_item (I : HInv c.B c.X H g s.heap) {a b : Value} {x y v : V} (ha : Rep g a x) (hb : Rep g b y) (e : itemV H x y = some v) : Leaf w c A H g s (getItem a b) v := by
  refine itemV_k (P := fun y => Rep g b y → Leaf w c A H g s (getItem a b) v) e (fun k h0 h1 e hb => ?_) hb
  obtain ⟨tk, rfl⟩ := hb.int_inv
  have lt : ∀ {n : Nat}, k.toNat < n → seqIndex? k n = some k.toNat := fun {n} h => seqIndex_of h0 (by lia)
  refine itemB_k (P := fun x => Rep g a x → Leaf w c A H g s (getItem a (.int k tk)) v) e (fun l e ha => ?_) (fun st n hn ev ha => ?_) (fun l hl e ha => ?_) (fun b' n hb hz hn ev ha => ?_) ha
  · obtain ⟨p, it, rfl, ht, rl⟩ := tuple_rep I ha
    obtain ⟨x, hx, rx⟩ := rl.at e
    rw [Array.getElem?_toList] at hx
    have hlt := (Array.getElem?_eq_some_iff.mp hx).1
    exact Leaf.rep I rx fun Q E q => getItem_tuple ht (by lia) (by lia) (lt hlt) hx q
  · obtain ⟨tt, rfl⟩ := ha.str_inv
    rw [Array.getElem?_toList] at hn
    have hlt := (Array.getElem?_eq_some_iff.mp hn).1
    rw [ev]
    exact Leaf.str I fun Q E q => P.getItem_str (by simp; lia) (c := n) (by rw [show seqIndex? k st.length = some k.toNat from lt hlt]; simpa using hn) (q _ _)
  · obtain ⟨p, it, n, rfl, hl', rl⟩ := listIn_rep I ha hl
    obtain ⟨x, hx, rx⟩ := rl.at e
    rw [Array.getElem?_toList] at hx
    exact Leaf.rep I rx fun Q E q => wpAny_getItem_list (isList_of hl') h0 (by lia) hx q
  · have hlt := (List.getElem?_eq_some_iff.mp hn).1
    rw [ev]
    rcases bytesIn_rep I ha hb with ⟨t, rfl⟩ | ⟨p, o, rfl, ho, hc, hd⟩
    · refine Leaf.int I fun Q E q => PySem.W.getItem_bytes (by lia) h0 (by lia) ?_
      have : b'.getD k.toNat 0 = n := by rw [List.getD_eq_getElem?_getD, hn]; rfl
      rw [this]; exact q _ _
    · exact Leaf.int I fun Q E q => getItem_meets ⟨_, ho, hc⟩ (by decide) BA.slot_getitem BA.entry_getitem (BA.args_getitem _ _) bar_getitem ⟨ho, hd, h0, h1, hn, q _ _⟩
inductive PartRep : Value → Option V → Prop
  | none : PartRep .none .none
  | int (i t) : PartRep (.int i t) (some (.int i))
theorem PartRep.is {v : Value} {x : Option V} {l : Option Int} (p : PartRep v x) (e : partOf x = some l) : IsPart v l := by
  cases p with
  | none => obtain rfl := Option.some.inj e; exact .none
  | int i t =>
    have e' : (if -(2 ^ 40) ≤ i ∧ i < 2 ^ 40 then some (some i) else Option.none) = some l := e
    split at e'
    · obtain rfl := Option.some.inj e'; exact .int _ _
    · exact nn e'
theorem sliceV_k {H : List O} {x v : V} {lo hi : Option V} {P : V → Prop} (e : sliceV H x lo hi = some v) (h : ∀ l u, partOf lo = some l → partOf hi = some u →
    (∀ b, b.length ≤ 16777216 → v = .bytes (cutL b l u) → P (.bytes b)) ∧ (∀ xs, xs.length ≤ 1000000 → v = .list (cutL xs l u) → P (.list xs)) ∧ ∀ i b, H[i]? = some (.barr b) → b.length ≤ 16777216 → v = .bar (cutL b l u) → P (.ref i)) : P x := by
  unfold sliceV at e
  cases el : partOf lo with
  | none => rw [el] at e; exact nn e
  | some l =>
    cases eu : partOf hi with
    | none => rw [el, eu] at e; exact nn e
    | some u =>
      rw [el, eu] at e
      have H1 := h l u el eu
      induction x using V.casesOn with
      | bytes b => obtain ⟨hz, e⟩ := i2 (show (if b.length ≤ 16777216 then some (V.bytes (cutL b l u)) else .none) = some v from e); exact H1.1 b hz (Option.some.inj e).symm
      | list b => obtain ⟨hz, e⟩ := i2 (show (if b.length ≤ 1000000 then some (V.list (cutL b l u)) else .none) = some v from e); exact H1.2.1 b hz (Option.some.inj e).symm
      | ref i =>
        have e : (match H[i]? with | some (.barr b) => if b.length ≤ 16777216 then some (V.bar (cutL b l u)) else .none | _ => .none) = some v := e
        cases hi : H[i]? with
        | none => rw [hi] at e; exact nn e
        | some o =>
          rw [hi] at e
          induction o using O.casesOn with
          | barr b => obtain ⟨hz, e⟩ := i2 e; exact H1.2.2 i b hi hz (Option.some.inj e).symm
          | _ => exact nn e
      | _ => exact nn e
theorem leaf_slice (I : HInv c.B c.X H g s.heap) {a lv uv : Value} {sl : Addr} {x v : V} {lo hi : Option V} (ha : Rep g a x) (hl : PartRep lv lo) (hu : PartRep uv hi) (hs : s.heap.IsSliceOf sl lv uv .none) (e : sliceV H x lo hi = some v) :
    Leaf w c A H g s (getItem a (.ref sl)) v := by
  refine sliceV_k (P := fun x => Rep g a x → Leaf w c A H g s (getItem a (.ref sl)) v) e (fun l u el eu => ?_) ha
  have pl := hl.is el
  have pu := hu.is eu
  refine ⟨fun b hz ev ha => ?_, fun xs hz ev ha => ?_, fun i b hb hz ev ha => ?_⟩
  · obtain ⟨t, rfl⟩ := ha.bytes_inv
    rw [ev]
    refine Leaf.bytes I fun Q E q => getItem_meets (typeIs_bytes s _ _) (by decide) FB.slot_bytes_getitem FB.entry_bytes_getitem (FB.args_bytes_getitem_2 _ _) (KBc.meets_slice2 _ _ sl pl pu) ⟨hs, ?_, fun t' k => ?_⟩
    · exact Nat.le_trans (KBc.size_picked_le _ _ _) (by rw [sizeLine_eq]; simpa using hz)
    · rw [picked_cut]; exact q _ _
  · obtain ⟨p, it, n, rfl, hl', rl⟩ := isL_list I ha
    rw [ev]
    have hsz : it.size ≤ sizeLine := by have := rl.length; simp only [Array.length_toList] at this; rw [sizeLine_eq]; lia
    refine Leaf.push (o := { cls := .type "list", data := .seq (slicePick it l u none) }) I (fun g' a le z => ?_) rfl fun Q E q => wpAny_getItem_list_slice (isList_of hl') hs pl pu .none (by simp) (q _) hsz
    refine .list (n := 0) z rfl ?_ ((rl.cut l u).mono le)
    show Data.seq _ _ = Data.seq _ _
    rw [slicePick_plain, cutL_eq]; simp
  · obtain ⟨p, d, o, rfl, q, ho, hob⟩ := obj_of I ha
    rw [hb] at ho
    obtain rfl := Option.some.inj ho
    rw [ev]
    cases hob with
    | barr hd z =>
      refine Leaf.push (o := { cls := .type "bytearray", data := .bytearray (KBy.picked b.toArray l u) 0 }) I (fun g' a le z => ?_) rfl fun Q E q =>
        getItem_meets ⟨_, hd, rfl⟩ (by decide) BA.slot_getitem BA.entry_getitem (BA.args_getitem _ _) (bar_slice pl pu) ⟨hd, rfl, hs, by rw [sizeLine_eq]; exact hz, q _⟩
      exact .bar _ z rfl (by rw [picked_cut])
end
end Rk
end

section
open PySem PySem.W PySem.Calls PyProof.Rows PySem.Builtin
set_option maxRecDepth 100000
namespace Rk
theorem sum_bints (b : List UInt8) : KBw.bInts b.toArray = b.map fun x => (x.toNat : Int) := KBw.ints_list b
theorem byteArr_octets {ns : List Int} {b : List UInt8} (e : octets ns = some b) : byteArr ns = b.toArray ∧ ∀ n ∈ ns, 0 ≤ n ∧ n < 256 := by
  induction ns generalizing b with
  | nil => obtain rfl := Option.some.inj e; exact ⟨rfl, by simp⟩
  | cons n ns ih =>
    rw [octets_e1] at e
    by_cases hn : 0 ≤ n ∧ n < 256
    · rw [if_pos hn] at e
      obtain ⟨r, er, rfl⟩ := Option.map_eq_some_iff.mp e
      obtain ⟨h1, h2⟩ := ih er
      refine ⟨?_, by simpa [hn] using h2⟩
      have : (ns.map fun n => n.toNat.toUInt8) = r := by simpa [byteArr] using congrArg Array.toList h1
      simp [byteArr, this]
    · rw [if_neg hn] at e; exact nn e
section
variable {prog : Program} {w : World} {A : Around} {E : Value → Shared → Prop} {s : Shared}
theorem sum_bytes' {b : Array UInt8} {t : Tok} {Q : Value → Shared → Prop} (hh : A.handled = none)
    (h : ∀ h' t' k, (∀ b o, s.heap.get? b = some o → h'.get? b = some o) → Q (.int (KBw.bInts b).sum t') { s with heap := h', toks := k }) : wpAny (model prog w) A (call (.builtin "sum") [.bytes b t]) Q E s := by
  refine call_sum_walkG (KBw.pyIter_bytes ?_)
  refine ⟨s.heap.objs.size, [s.heap.objs.size], [s.heap.objs.size], b.size, _, _, fun j => (KBw.bInts b).getD j 0, rfl, KBw.walks (A := A.in1) hh s.heap.objs.size b t, ⟨_, Heap.get?_push_size _ rfl, rfl, rfl⟩, ?_, ?_, ?_⟩
  · intro a ha
    rw [List.mem_singleton.mp ha]
    exact Heap.lt_size (Heap.get?_push_size _ rfl)
  · rintro i v ⟨c, u, hc, rfl⟩
    have e := KBw.ints_get hc
    refine ⟨u, ?_⟩
    show Value.int (c.toNat : Int) u = Value.int ((KBw.bInts b).getD i 0) u
    rw [List.getD_eq_getElem?_getD, e]
    rfl
  · intro h' tk t' hk'
    have e : preSum (fun j => (KBw.bInts b).getD j 0) b.size = (KBw.bInts b).sum := by
      have key : ∀ (ks : List Int) j, preSum (fun j => ks.getD j 0) j = (ks.take j).sum := by
        intro ks j
        induction j with
        | zero => simp [preSum]
        | succ j ih =>
          rw [preSum, ih, List.take_add_one, List.sum_append, List.getD_eq_getElem?_getD]
          cases ks[j]? <;> simp
      rw [key, ← KBw.ints_length b, List.take_length]
    rw [e]
    exact h h' t' tk fun a o ha => hk' a o (fun hm => absurd (Heap.lt_size ha) (by rw [List.mem_singleton.mp hm]; exact Nat.lt_irrefl _)) (Heap.get?_push_of_some _ ha)
theorem sum_list' {l : Addr} {vs : List Value} {ns : List Int} {Q : Value → Shared → Prop} (hh : A.handled = none) (hl : s.heap.IsList l vs.toArray) (hi : IntsAre vs ns)
    (h : ∀ h' t' k, (∀ b o, s.heap.get? b = some o → h'.get? b = some o) → Q (.int ns.sum t') { s with heap := h', toks := k }) : wpAny (model prog w) A (call (.builtin "sum") [.ref l]) Q E s := by
  obtain ⟨xs, e⟩ := hi.allInts.items
  rw [e] at hl
  refine sum_intListG hh hl fun h' tk t' hk => ?_
  have en : ns = xs.toList.map (·.1) := by
    rw [← nums_intItems, ← e]; exact (hi.numsOf).symm
  rw [preSum_eq, List.take_of_length_le (by simp), ← en]
  exact h h' t' tk hk
theorem bn_bytes_buffer : typeLookup (.type "bytes") "__buffer__" = pure (some (.builtin "bytes.__buffer__")) := by rw [typeLookup_type, builtinLookup_eq_fast]; kernel_rfl
theorem bn_bytes_release : typeLookup (.type "bytes") "__release_buffer__" = pure none := by rw [typeLookup_type, builtinLookup_eq_fast]; kernel_rfl
theorem bn_bar_buffer : typeLookup (.type "bytearray") "__buffer__" = pure (some (.builtin "bytearray.__buffer__")) := by rw [typeLookup_type, builtinLookup_eq_fast]; kernel_rfl
theorem bn_bar_release : typeLookup (.type "bytearray") "__release_buffer__" = pure (some (.builtin "bytearray.__release_buffer__")) := by rw [typeLookup_type, builtinLookup_eq_fast]; kernel_rfl
theorem bn_bar_sub : isSubtype (.type "bytearray") (.type "bytearray") = pure true := by rw [isSubtype_type]; kernel_rfl
theorem slotOwn {v : Value} {T : String} {name : String} {id : String} {Q : Bool → Shared → Prop} (hT : s.TypeIs v T) (hl : typeLookup (.type T) (Str.ofString name) = pure (some (.builtin id)))
    (h1 : id.endsWith ("." ++ name) = true) (h2 : id.dropRight (name.length + 1) = T) (hs : isSubtype (.type T) (.type T) = pure true) (h : Q true s) : wpAny (model prog w) A (Bytes.slotIsOwn v name) Q E s := by
  unfold Bytes.slotIsOwn
  refine wpAny_bind (wpAny_specialOf hT hl ?_)
  dsimp only
  refine bm_if_false (by rw [h1]; rfl) ?_
  rw [h2]
  exact wpAny_isInstance hT hs h
theorem ownRel_bar {a : Addr} {o : Obj} {Q : Bool → Shared → Prop} (ho : s.heap.get? a = some o) (hc : o.cls = .type "bytearray") (h : Q false s) : wpAny (model prog w) A (Bytes.ownRelease (.ref a)) Q E s := by
  unfold Bytes.ownRelease
  exact wpAny_bind (slotOwn (T := "bytearray") ⟨o, ho, hc⟩ bn_bar_release (by decide +kernel) (by decide +kernel) bn_bar_sub (wpAny_pure h))
theorem ownRel_bytes {b : Array UInt8} {t : Tok} {Q : Bool → Shared → Prop} (h : Q false s) : wpAny (model prog w) A (Bytes.ownRelease (.bytes b t)) Q E s := by
  unfold Bytes.ownRelease
  refine wpAny_bind ?_
  unfold Bytes.slotIsOwn
  exact wpAny_bind (wpAny_specialOf (typeIs_bytes s b t) bn_bytes_release (wpAny_pure (wpAny_pure h)))
theorem buffer_bar {a : Addr} {o : Obj} {b : Array UInt8} {n : Nat} {id : String} {full : Bool} {Q : Option (Array UInt8) → Shared → Prop} (ho : s.heap.get? a = some o) (hc : o.cls = .type "bytearray") (hd : o.data = .bytearray b n) (h : Q (some b) s) :
    wpAny (model prog w) A (Bytes.buffer? id (.ref a) full) Q E s := by
  have hT : s.TypeIs (.ref a) "bytearray" := ⟨o, ho, hc⟩
  unfold Bytes.buffer?
  refine wpAny_bind (wpAny_specialOf hT bn_bar_buffer ?_)
  dsimp only
  refine wpAny_bind (slotOwn hT bn_bar_buffer (by decide +kernel) (by decide +kernel) bn_bar_sub ?_)
  refine bm_if_false rfl ?_
  refine wpAny_bind (wpAny_specialOf hT bn_bar_buffer ?_)
  refine wpAny_bind (ownRel_bar ho hc ?_)
  refine bm_if_false rfl ?_
  exact wpAny_bind (wpAny_payload_bar ho hd (wpAny_pure h))
theorem bn_bytes_sub : isSubtype (.type "bytes") (.type "bytes") = pure true := by rw [isSubtype_type]; kernel_rfl
theorem buffer_bytes {b : Array UInt8} {t : Tok} {id : String} {full : Bool} {Q : Option (Array UInt8) → Shared → Prop} (h : Q (some b) s) :
    wpAny (model prog w) A (Bytes.buffer? id (.bytes b t) full) Q E s := by
  have hT := typeIs_bytes s b t
  unfold Bytes.buffer?
  refine wpAny_bind (wpAny_specialOf hT bn_bytes_buffer ?_)
  dsimp only
  refine wpAny_bind (slotOwn hT bn_bytes_buffer (by decide +kernel) (by decide +kernel) bn_bytes_sub ?_)
  refine bm_if_false rfl ?_
  refine wpAny_bind (wpAny_specialOf hT bn_bytes_buffer ?_)
  refine wpAny_bind (ownRel_bytes ?_)
  refine bm_if_false rfl ?_
  exact wpAny_bind (wpAny_of_eq (a := b) rfl (wpAny_pure h))
theorem bn_lookup : typeLookup (.type "bytes") "__bytes__" = pure (some (.builtin "bytes.__bytes__")) := by rw [typeLookup_type, builtinLookup_eq_fast]; kernel_rfl
theorem bn_bar_bytes : typeLookup (.type "bytearray") "__bytes__" = pure none := by rw [typeLookup_type, builtinLookup_eq_fast]; kernel_rfl
theorem bn_bar_index : typeLookup (.type "bytearray") "__index__" = pure none := by rw [typeLookup_type, builtinLookup_eq_fast]; kernel_rfl
theorem bytes_new_bytes (b : Array UInt8) (t : Tok) :
    Meets («bytes.__new__» ⟨[.type "bytes", .bytes b t], []⟩) (fun _ R s => R (.ok (.ret (.bytes b t))) s) := by
  refine .of_wp fun prog w A R s h => ?_
  unfold Builtin.«bytes.__new__»
  refine wpAny_bind (wpAny_of_eq (a := true) rfl ?_)
  refine bm_if_false rfl ?_
  refine wpAny_bind (wpAny_of_eq F.bm_sub ?_)
  refine bm_if_false rfl ?_
  refine wpAny_bind (wpAny_of_eq (F.bm_bind _) ?_)
  refine wpAny_bind (wpAny_of_eq (a := ()) rfl ?_)
  refine wpAny_bind (wpAny_of_eq (a := ()) rfl ?_)
  refine bm_if_false rfl ?_
  refine wpAny_bind (wpAny_specialOf (typeIs_bytes s b t) bn_lookup ?_)
  show wpAny _ _ (rule "bytes.__new__.of-bytes" >>= fun _ => _) _ _ _
  refine wpAny_bind (wpAny_rule ?_)
  refine wpAny_bind (wpAny_typeOf (typeIs_bytes s b t) ?_)
  refine bm_if_true (by decide) ?_
  refine bm_if_true (by decide) ?_
  exact wpAny_pure ⟨_, rfl, h⟩
theorem bytes_new_bar {a : Addr} {o : Obj} {b : List UInt8} {n : Nat} :
    Meets («bytes.__new__» ⟨[.type "bytes", .ref a], []⟩) (fun _ R s => s.heap.get? a = some o ∧ o.cls = .type "bytearray" ∧ o.data = .bytearray b.toArray n ∧ b.length ≤ sizeLine ∧ R (.ok (.ret (.bytes b.toArray s.toks))) { s with toks := s.toks + 1 }) := by
  refine .of_wp fun prog w A R s hS => ?_
  obtain ⟨ho, hc, hd, hz, h⟩ := hS
  have hT : s.TypeIs (.ref a) "bytearray" := ⟨o, ho, hc⟩
  unfold Builtin.«bytes.__new__»
  refine wpAny_bind (wpAny_of_eq (a := true) rfl ?_)
  refine bm_if_false rfl ?_
  refine wpAny_bind (wpAny_of_eq F.bm_sub ?_)
  refine bm_if_false rfl ?_
  refine wpAny_bind (wpAny_of_eq (F.bm_bind _) ?_)
  refine wpAny_bind (wpAny_of_eq (a := ()) rfl ?_)
  refine wpAny_bind (wpAny_of_eq (a := ()) rfl ?_)
  refine bm_if_false rfl ?_
  refine wpAny_bind (wpAny_specialOf hT bn_bar_bytes ?_)
  refine wpAny_bind (wpAny_bind ?_)
  show wpAny _ _ (load a >>= _) _ _ _
  refine wpAny_bind (wpAny_load ho ?_)
  rw [hd]
  refine wpAny_pure (wpAny_pure ?_)
  refine bm_if_false rfl ?_
  refine wpAny_bind (wpAny_specialOf hT bn_bar_index ?_)
  refine bm_if_true rfl ?_
  first
    | show wpAny _ _ (Builtin.Bytes.buffer? "bytes.__new__" (.ref a) true >>= _) _ _ _
    | (refine wpAny_bind ?_; show wpAny _ _ (Builtin.Bytes.buffer? "bytes.__new__" (.ref a) true >>= _) _ _ _)
  refine wpAny_bind (buffer_bar ho hc hd ?_)
  show wpAny _ _ (rule "bytes.__new__.bytes-like" >>= fun _ => _) _ _ _
  refine wpAny_bind (wpAny_rule ?_)
  refine wpAny_bind (wpAny_mkBytes ?_ (by simpa using hz))
  refine bm_if_true (by decide) ?_
  exact wpAny_bind (wpAny_pure (wpAny_pure ⟨_, rfl, h⟩))
end
section
variable {w : World} {c : Cx} {A : Around} {H : List O} {g : G} {s : Shared}
theorem Leaf.grown (I : HInv c.B c.X H g s.heap) {t : Sem Value} {v : V} (h : ∀ (Q : Value → Shared → Prop) (E : Value → Shared → Prop), (∀ h' k a, (∀ x o, s.heap.get? x = some o → h'.get? x = some o) → Rep g a v → Q a { s with heap := h', toks := k }) → wpAny (MM w) A t Q E s) :
    Leaf w c A H g s t v := fun Q E q => wpC_any (h Q E fun h' k a kp r => q h' k a g (.refl g) rfl (I.keeps kp) kp r)
theorem len_list (I : HInv c.B c.X H g s.heap) {a : Value} {l : List V} (r : IsL g s.heap a l) (hz : l.length ≤ 1000000) : Leaf w c A H g s (call (.builtin "len") [a]) (.int l.length) := by
  obtain ⟨p, it, n, rfl, hl', rl⟩ := r
  have := rl.length; simp only [Array.length_toList] at this
  exact Leaf.int I fun Q E q => PyProof.Rows.len_list (isList_of hl') (by omega) (by rw [this]; exact q _ _)
theorem len_by (I : HInv c.B c.X H g s.heap) {a : Value} {b : List UInt8} (r : IsBy s.heap a b) (hz : b.length ≤ 16777216) : Leaf w c A H g s (call (.builtin "len") [a]) (.int b.length) := by
  rcases r with ⟨t, rfl⟩ | ⟨p, o, rfl, ho, hc, hd⟩
  · exact Leaf.int I fun Q E q => PySem.W.len_bytes (by simp; omega) (by simpa using q _ _)
  · exact Leaf.int I fun Q E q => call_len_meets ⟨_, ho, hc⟩ BA.slot_len BA.entry_len (BA.args_len _) bar_len (n := b.length) (by omega) (by omega) (fun Q' hQ => ⟨ho, hd, hQ⟩) (q _ _)
theorem leaf_len (I : HInv c.B c.X H g s.heap) {a : Value} {x v : V} (r : Rep g a x) (e : lenA H [x] = some v) : Leaf w c A H g s (call (.builtin "len") [a]) v := by
  have gen (e : (match listIn H x with | some l => if l.length ≤ 1000000 then some (V.int l.length) else .none | .none => match bytesIn H x with | some b => if b.length ≤ 16777216 then some (V.int b.length) else .none | .none => .none) = some v) : Leaf w c A H g s (call (.builtin "len") [a]) v := by
    cases hl : listIn H x with
    | some l => rw [hl] at e; obtain ⟨hz, e⟩ := i2 e; exact Option.some.inj e ▸ len_list I (listIn_rep I r hl) hz
    | none =>
      rw [hl] at e
      cases hb : bytesIn H x with
      | some b => rw [hb] at e; obtain ⟨hz, e⟩ := i2 e; exact Option.some.inj e ▸ len_by I (bytesIn_rep I r hb) hz
      | none => rw [hb] at e; exact nn e
  induction x using V.casesOn with
  | tuple l =>
    obtain ⟨hz, e⟩ := i2 (show (if l.length ≤ 1000000 then some (V.int l.length) else .none) = some v from e)
    obtain rfl := Option.some.inj e
    obtain ⟨p, it, rfl, ht, rl⟩ := tuple_rep I r
    have := rl.length; simp only [Array.length_toList] at this
    exact Leaf.int I fun Q E q => PyProof.Rows.len_tuple ht (by omega) (by rw [this]; exact q _ _)
  | str b =>
    obtain ⟨hz, e⟩ := i2 (show (if b.length ≤ 1000000 then some (V.int b.length) else .none) = some v from e)
    obtain rfl := Option.some.inj e
    obtain ⟨t, rfl⟩ := r.str_inv
    exact Leaf.int I fun Q E q => P.len_str (by omega) (q _ _)
  | list l => exact gen e
  | ref i => exact gen e
  | bytes l => exact gen e
  | bar l => exact gen e
  | _ => exact nn e
theorem leaf_sum (I : HInv c.B c.X H g s.heap) (hh : A.handled = none) {a : Value} {x v : V} (r : Rep g a x) (e : sumA [x] = some v) : Leaf w c A H g s (call (.builtin "sum") [a]) v := by
  induction x using V.casesOn with
  | list l =>
    obtain ⟨hz, e⟩ := i2 (show (if l.length ≤ 1000000 then (intsOf l).map (fun ns => V.int ns.sum) else .none) = some v from e)
    obtain ⟨ns, en, rfl⟩ := Option.map_eq_some_iff.mp e
    obtain ⟨p, it, n, rfl, hl', rl⟩ := isL_list I r
    exact Leaf.grown I fun Q E q => sum_list' (vs := it.toList) hh (by simpa using isList_of hl') (rl.ints en) fun h' t k kp => q h' k _ kp (.int _ t)
  | bytes b =>
    obtain ⟨hz, e⟩ := i2 (show (if b.length ≤ 1000000 then some (V.int (b.map fun x => (x.toNat : Int)).sum) else .none) = some v from e)
    obtain rfl := Option.some.inj e
    obtain ⟨t, rfl⟩ := r.bytes_inv
    exact Leaf.grown I fun Q E q => sum_bytes' hh fun h' t k kp => by rw [sum_bints]; exact q h' k _ kp (.int _ t)
  | _ => exact nn e
theorem leaf_min (I : HInv c.B c.X H g s.heap) (hh : A.handled = none) {a b : Value} {i j : Int} (ha : Rep g a (.int i)) (hb : Rep g b (.int j)) : Leaf w c A H g s (call (.builtin "min") [a, b]) (.int (min i j)) := by
  obtain ⟨t, rfl⟩ := ha.int_inv; obtain ⟨u, rfl⟩ := hb.int_inv
  refine Leaf.grown I fun Q E q => min_two_ints hh fun h' tk kp => ?_
  split
  · rename_i hlt; exact q h' tk _ kp (by rw [show min i j = j by omega]; exact .int _ _)
  · rename_i hlt; exact q h' tk _ kp (by rw [show min i j = i by omega]; exact .int _ _)
theorem lenA_one {as : List V} {v : V} (e : lenA H as = some v) : ∃ x, as = [x] := by
  induction as using List.casesOn with
  | nil => exact nn e
  | cons x r => induction r using List.casesOn with
    | nil => exact ⟨x, rfl⟩
    | cons y r => induction x using V.casesOn <;> exact nn e
theorem sumA_one {as : List V} {v : V} (e : sumA as = some v) : ∃ x, as = [x] := by
  induction as using List.casesOn with
  | nil => exact nn e
  | cons x r => induction r using List.casesOn with
    | nil => exact ⟨x, rfl⟩
    | cons y r => induction x using V.casesOn <;> exact nn e
theorem minA_inv {as : List V} {v : V} (e : minA as = some v) : ∃ i j, as = [.int i, .int j] ∧ v = .int (min i j) := by
  induction as using List.casesOn with
  | nil => exact nn e
  | cons x r => induction x using V.casesOn with
    | int i => induction r using List.casesOn with
      | nil => exact nn e
      | cons y r => induction y using V.casesOn with
        | int j => induction r using List.casesOn with
          | nil => exact ⟨i, j, rfl, (Option.some.inj e).symm⟩
          | cons _ _ => exact nn e
        | _ => exact nn e
    | _ => exact nn e
theorem leaf_builtin (I : HInv c.B c.X H g s.heap) (hh : A.handled = none) {id : String} {vs : List Value} {as : List V} {v : V} (ha : RepL g vs as) (e : builtinV H id as = some v) : Leaf w c A H g s (call (.builtin id) vs) v := by
  unfold builtinV at e
  by_cases h1 : id = "len"
  · rw [if_pos h1] at e; subst h1
    obtain ⟨x, rfl⟩ := lenA_one e; obtain ⟨a, rfl, r⟩ := ha.one_inv; exact leaf_len I r e
  rw [if_neg h1] at e
  by_cases h2 : id = "sum"
  · rw [if_pos h2] at e; subst h2
    obtain ⟨x, rfl⟩ := sumA_one e; obtain ⟨a, rfl, r⟩ := ha.one_inv; exact leaf_sum I hh r e
  rw [if_neg h2] at e
  obtain ⟨h3, e⟩ := i2 e; subst h3
  obtain ⟨i, j, rfl, rfl⟩ := minA_inv e; obtain ⟨a, b, rfl, r, r'⟩ := ha.two_inv; exact leaf_min I hh r r'
theorem leaf_range (I : HInv c.B c.X H g s.heap) {vs : List Value} {as : List V} {v : V} (ha : RepL g vs as) (e : rangeA as = some v) : Leaf w c A H g s (call (.type "range") vs) v := by
  induction as using List.casesOn with
  | nil => exact nn e
  | cons x r => induction x using V.casesOn with
    | int i => induction r using List.casesOn with
      | nil =>
        obtain rfl := Option.some.inj e
        obtain ⟨a, rfl, r⟩ := ha.one_inv; obtain ⟨t, rfl⟩ := r.int_inv
        exact Leaf.new I fun Q E q => call_range_1 (q _ _ _ _ (keeps_push _ _) (get?_size_none _) (Heap.get?_push_size _ rfl) fun g' le z => .rng z)
      | cons y r => induction y using V.casesOn with
        | int j => induction r using List.casesOn with
          | nil =>
            obtain rfl := Option.some.inj e
            obtain ⟨a, b, rfl, r, r'⟩ := ha.two_inv; obtain ⟨t, rfl⟩ := r.int_inv; obtain ⟨u, rfl⟩ := r'.int_inv
            exact Leaf.new I fun Q E q => call_range_2 (q _ _ _ _ (keeps_push _ _) (get?_size_none _) (Heap.get?_push_size _ rfl) fun g' le z => .rng z)
          | cons z r => induction z using V.casesOn with
            | int k => induction r using List.casesOn with
              | nil =>
                obtain ⟨hz, e⟩ := i3 (show (if k = 0 ∨ 2 ^ 100 ≤ k.natAbs then .none else some (V.rng i j k)) = some v from e)
                obtain rfl := Option.some.inj e
                obtain ⟨a, b, d, rfl, r, r', r2⟩ := ha.three_inv; obtain ⟨t, rfl⟩ := r.int_inv; obtain ⟨u, rfl⟩ := r'.int_inv; obtain ⟨u2, rfl⟩ := r2.int_inv
                exact Leaf.new I fun Q E q => call_range_3 (fun z => hz (.inl z)) (q _ _ _ _ (keeps_push _ _) (get?_size_none _) (Heap.get?_push_size _ rfl) fun g' le z => .rng z) (.inl (pylongOk fun z => hz (.inr z)))
              | cons _ _ => exact nn e
            | _ => exact nn e
        | _ => exact nn e
    | _ => exact nn e
theorem bytes_by (I : HInv c.B c.X H g s.heap) {a : Value} {b : List UInt8} (r : IsBy s.heap a b) (hz : b.length ≤ 16777216) : Leaf w c A H g s (call (.type "bytes") [a]) (.bytes b) := by
  rcases r with ⟨t, rfl⟩ | ⟨p, o, rfl, ho, hc, hd⟩
  · exact Leaf.bytes I fun Q E q => callType_new F.bm_called (by decide) (F.bm_typeCall _) (F.bm_newCall _) (fun obj => PySem.F.args_object_init_2 obj _) F.bm_entry (bytes_new_bytes _ t) ⟨typeIs_bytes _ _ _, q s.toks t⟩
  · exact Leaf.bytes I fun Q E q => callType_new F.bm_called (by decide) (F.bm_typeCall _) (F.bm_newCall _) (fun obj => PySem.F.args_object_init_2 obj _) F.bm_entry bytes_new_bar ⟨ho, hc, hd, by rw [sizeLine_eq]; exact hz, typeIs_bytes _ _ _, q _ _⟩
theorem leaf_bytesA (I : HInv c.B c.X H g s.heap) (hh : A.handled = none) {vs : List Value} {as : List V} {v : V} (ha : RepL g vs as) (e : bytesA H as = some v) : Leaf w c A H g s (call (.type "bytes") vs) v := by
  have one : ∃ x, as = [x] := by
    induction as using List.casesOn with
    | nil => exact nn e
    | cons x r => induction r using List.casesOn with
      | nil => exact ⟨x, rfl⟩
      | cons y r => induction x using V.casesOn <;> exact nn e
  obtain ⟨x, rfl⟩ := one
  obtain ⟨a, rfl, r⟩ := ha.one_inv
  have gen (e : (match bytesIn H x with | some b => if b.length ≤ 16777216 then some (V.bytes b) else .none | .none => .none) = some v) : Leaf w c A H g s (call (.type "bytes") [a]) v := by
    cases hb : bytesIn H x with
    | some b => rw [hb] at e; obtain ⟨hz, e⟩ := i2 e; exact Option.some.inj e ▸ bytes_by I (bytesIn_rep I r hb) hz
    | none => rw [hb] at e; exact nn e
  induction x using V.casesOn with
  | list l =>
    obtain ⟨hz, e⟩ := i2 (show (if l.length ≤ 1000000 then ((intsOf l).bind octets).map V.bytes else .none) = some v from e)
    obtain ⟨b, eb, rfl⟩ := Option.map_eq_some_iff.mp e
    obtain ⟨ns, en, ho⟩ := Option.bind_eq_some_iff.mp eb
    obtain ⟨h1, h2⟩ := byteArr_octets ho
    obtain ⟨p, it, n, rfl, hl', rl⟩ := isL_list I r
    have := rl.length
    exact Leaf.grown I fun Q E q => call_bytes_ints (vs := it.toList) (by simpa using isList_of hl') (rl.ints en) h2 (by rw [this, sizeLine_eq]; omega) hh fun h' t k kp => by rw [h1]; exact q h' k _ kp (.bytes _ t)
  | ref i => exact gen e
  | bytes l => exact gen e
  | bar l => exact gen e
  | _ => exact nn e
theorem leaf_tupleA (I : HInv c.B c.X H g s.heap) {vs : List Value} {as : List V} {v : V} (ha : RepL g vs as) (e : tupleA H as = some v) : Leaf w c A H g s (call (.type "tuple") vs) v := by
  induction as using List.casesOn with
  | nil => exact nn e
  | cons x r => induction r using List.casesOn with
    | cons _ _ => exact nn e
    | nil =>
      obtain ⟨a, rfl, r⟩ := ha.one_inv
      have e : (match listIn H x with | some l => if l.length ≤ 1000000 then some (V.tuple l) else .none | .none => .none) = some v := e
      cases hl : listIn H x with
      | none => rw [hl] at e; exact nn e
      | some l =>
        rw [hl] at e
        obtain ⟨hz, e⟩ := i2 e
        obtain rfl := Option.some.inj e
        obtain ⟨p, it, n, rfl, hl', rl⟩ := listIn_rep I r hl
        have hsz : it.size ≤ sizeLine := by have := rl.length; simp only [Array.length_toList] at this; rw [sizeLine_eq]; omega
        refine Leaf.new I fun Q E q => call_tuple_list (isList_of hl') (fun h' kp => ?_) hsz
        refine q _ s.toks _ { cls := .type "tuple", data := .seq it } (fun x o e => Heap.get?_push_of_some _ (kp x o e)) ?_ (Heap.get?_push_size _ rfl) fun g' le z => .tuple (n := 0) (items := it.toList) z rfl (by simp) (rl.mono le)
        cases e : s.heap.get? h'.objs.size with
        | none => rfl
        | some o => exact absurd (Heap.lt_size (kp _ _ e)) (Nat.lt_irrefl _)
theorem listA_inv {as : List V} {v : V} (e : listA as = some v) : ∃ l, as = [.tuple l] ∧ l.length ≤ 1000000 ∧ v = .list l := by
  induction as using List.casesOn with
  | nil => exact nn e
  | cons x r => induction x using V.casesOn with
    | tuple l => induction r using List.casesOn with
      | nil => obtain ⟨hz, e⟩ := i2 (show (if l.length ≤ 1000000 then some (V.list l) else .none) = some v from e); exact ⟨l, rfl, hz, (Option.some.inj e).symm⟩
      | cons _ _ => exact nn e
    | _ => exact nn e
theorem leaf_type (I : HInv c.B c.X H g s.heap) (hh : A.handled = none) {id : String} {vs : List Value} {as : List V} {v : V} (ha : RepL g vs as) (e : typeV H id as = some v) : Leaf w c A H g s (call (.type id) vs) v := by
  unfold typeV at e
  by_cases h1 : id = "range"
  · rw [if_pos h1] at e; subst h1; exact leaf_range I ha e
  rw [if_neg h1] at e
  by_cases h2 : id = "bytes"
  · rw [if_pos h2] at e; subst h2; exact leaf_bytesA I hh ha e
  rw [if_neg h2] at e
  by_cases h3 : id = "tuple"
  · rw [if_pos h3] at e; subst h3; exact leaf_tupleA I ha e
  rw [if_neg h3] at e
  obtain ⟨h4, e⟩ := i2 e; subst h4
  obtain ⟨l, rfl, hz, rfl⟩ := listA_inv e
  obtain ⟨a, rfl, r⟩ := ha.one_inv
  obtain ⟨p, it, rfl, ⟨o, ho, hc, n, hd⟩, rl⟩ := tuple_rep I r
  have hsz : it.size ≤ sizeLine := by have := rl.length; simp only [Array.length_toList] at this; rw [sizeLine_eq]; omega
  exact Leaf.new I fun Q E q => call_list_seq (T := "tuple") p (.inr rfl) ho hc hd (fun h' c' kp hn => q h' s.toks _ _ kp (get?_size_none _) hn fun g' le z => .list (items := it.toList) (n := c') z rfl (by simp) (rl.mono le)) hsz
theorem leaf_isInst (I : HInv c.B c.X H g s.heap) {a : Value} {x : V} {t : String} {b : Bool} (ha : Rep g a x) (e : isInst x t = some b) : Leaf w c A H g s (call (.builtin "isinstance") [a, .type t]) (.bool b) := by
  induction x using V.casesOn with
  | bytes l =>
    obtain ⟨ht, e⟩ := i2 (show (if t = "bytes" then some true else .none) = some b from e)
    obtain rfl := Option.some.inj e; subst ht
    obtain ⟨u, rfl⟩ := ha.bytes_inv
    exact Leaf.bool I fun Q E q => call_isinstance (isinstance_true (Tx := "bytes") PySem.F.isi_meta_bytes bn_bytes_sub) ⟨typeIs_bytes _ _ _, q s.toks⟩
  | bool l =>
    obtain ⟨ht, e⟩ := i2 (show (if t = "bool" then some true else .none) = some b from e)
    obtain rfl := Option.some.inj e; subst ht
    obtain rfl := ha.bool_inv
    exact Leaf.bool I fun Q E q => PySem.IsiPair.bool_bool (q s.toks)
  | _ => exact nn e
end
end Rk
end

section
set_option genSizeOf false
set_option genCtorIdx false
open PySem PySem.W PySem.Calls PyProof.Rows
set_option maxRecDepth 100000
set_option maxHeartbeats 0
namespace Rk
structure ClsAttr (K : Frag) (C : Addr) (a : Str) : Prop where
  get : plainGet K C a = true
  dict : hasDictIn K C = true
  find : findIn K (.ref C) a = some .none
  set : findIn K (.ref C) "__setattr__" = some (some (.builtin "object.__setattr__"))
  over : plainOver K C = true
  taker : takerIn K C a = some .none
structure ClsMeth (K : Frag) (C : Addr) (m : Str) (f : Addr) : Prop where
  get : plainGet K C m = true
  find : findIn K (.ref C) m = some (some (.ref f))
  fn : isFn K (.ref f) = true
  keep : keepIn K (.ref f) = true
structure ClsMake (K : Frag) (C fI : Addr) : Prop where
  makes : makesIn K C = true
  init : findIn K (.ref C) "__init__" = some (some (.ref fI))
  fn : isFn K (.ref fI) = true
theorem cls_make (P : Params) (C fI : Addr) (d : Bool) (e : clsInit C = some (fI, d)) : ClsMake (kObjs P) C fI := by
  unfold clsInit at e
  split at e <;> first | (cases e; done) | (cases e; exact ⟨by kernel_rfl, by kernel_rfl, by kernel_rfl⟩)
theorem cls_attr (P : Params) (C : Addr) (a : Str) (e : (attrsOf C).contains a = true) : ClsAttr (kObjs P) C a := by
  have m : a ∈ attrsOf C := by simpa using e
  clear e
  unfold attrsOf at m
  split at m <;> simp only [List.mem_cons, List.mem_nil_iff, or_false, List.not_mem_nil] at m
  · rcases m with rfl | rfl <;> exact ⟨by kernel_rfl, by kernel_rfl, by kernel_rfl, by kernel_rfl, by kernel_rfl, by kernel_rfl⟩
  · subst m; exact ⟨by kernel_rfl, by kernel_rfl, by kernel_rfl, by kernel_rfl, by kernel_rfl, by kernel_rfl⟩
  · rcases m with rfl | rfl | rfl | rfl | rfl <;> exact ⟨by kernel_rfl, by kernel_rfl, by kernel_rfl, by kernel_rfl, by kernel_rfl, by kernel_rfl⟩
  · rcases m with rfl | rfl | rfl | rfl | rfl <;> exact ⟨by kernel_rfl, by kernel_rfl, by kernel_rfl, by kernel_rfl, by kernel_rfl, by kernel_rfl⟩
theorem mem_of_lookup {α β : Type} [BEq α] [LawfulBEq α] {k : α} {v : β} : ∀ {l : List (α × β)}, l.lookup k = some v → (k, v) ∈ l
  | [], e => by exact nn e
  | (a, b) :: r, e => by
    unfold List.lookup at e
    split at e
    · rename_i h; obtain rfl := Option.some.inj e; rw [eq_of_beq h]; exact List.mem_cons_self
    · exact List.mem_cons_of_mem _ (mem_of_lookup e)
theorem callees_keep (P : Params) : callees.all (fun a => keepIn (kObjs P) (.ref a)) = true := by kernel_rfl
theorem cls_meth (P : Params) (C : Addr) (m : Str) (f : Addr) (e : (methOf C).lookup m = some f) : ClsMeth (kObjs P) C m f := by
  have m := mem_of_lookup e
  clear e
  unfold methOf at m
  split at m <;> simp only [List.mem_cons, List.mem_nil_iff, or_false, List.not_mem_nil, Prod.mk.injEq] at m
  · rcases m with ⟨rfl, rfl⟩ | ⟨rfl, rfl⟩ | ⟨rfl, rfl⟩ | ⟨rfl, rfl⟩ | ⟨rfl, rfl⟩ <;> exact ⟨by kernel_rfl, by kernel_rfl, by kernel_rfl, by kernel_rfl⟩
  · rcases m with ⟨rfl, rfl⟩ | ⟨rfl, rfl⟩ | ⟨rfl, rfl⟩ | ⟨rfl, rfl⟩ <;> exact ⟨by kernel_rfl, by kernel_rfl, by kernel_rfl, by kernel_rfl⟩
  · rcases m with ⟨rfl, rfl⟩ | ⟨rfl, rfl⟩ <;> exact ⟨by kernel_rfl, by kernel_rfl, by kernel_rfl, by kernel_rfl⟩
  · rcases m with ⟨rfl, rfl⟩ | ⟨rfl, rfl⟩ <;> exact ⟨by kernel_rfl, by kernel_rfl, by kernel_rfl, by kernel_rfl⟩
end Rk
end

section
open PySem PySem.W PySem.Calls PyProof.Rows PySem.Builtin
set_option maxRecDepth 100000
namespace Rk
theorem isStr_str (x y : Str) (t : Tok) : (Value.str x t).isStr y = (x == y) := by
  by_cases h : x = y
  · subst h; simp [Value.isStr]
  · have : (x == y) = false := by simpa using h
    simp [Value.isStr, this]
theorem getL_rep {g : G} {es : List DictEntry} {at_ : List (Str × V)} (r : RepA g es at_) (a : Str) :
    (∀ v, getAt a at_ = some v → ∃ cv, getL a es = some (some cv) ∧ Rep g cv v) ∧ (getAt a at_ = .none → getL a es = some .none) ∧ (getL a es).isSome = true := by
  have key : es.any (·.refKey) = false ∧ (∀ v, getAt a at_ = some v → ∃ e cv, es.find? (·.key.isStr a) = some e ∧ e.val = cv ∧ Rep g cv v) ∧ (getAt a at_ = .none → es.find? (·.key.isStr a) = .none) := by
    induction es generalizing at_ with
    | nil =>
      cases r
      exact ⟨rfl, (fun v e => by exact nn e), fun _ => rfl⟩
    | cons e es ih =>
      cases r with
      | cons hk hv hr =>
        rename_i x t v' at_
        obtain ⟨i1, i2, i3⟩ := ih hr
        have hkey : e.key.isStr a = (x == a) := by rw [hk, isStr_str]
        refine ⟨?_, fun v hv' => ?_, fun hn => ?_⟩
        · simp only [List.any_cons, i1, Bool.or_false]; unfold DictEntry.refKey; rw [hk]
        · rw [getAt_e1] at hv'
          by_cases q : x = a
          · rw [if_pos q] at hv'; obtain rfl := Option.some.inj hv'
            exact ⟨e, e.val, by rw [List.find?_cons, hkey, beq_iff_eq.mpr q], rfl, hv⟩
          · rw [if_neg q] at hv'
            obtain ⟨e', cv, h1, h2, h3⟩ := i2 v hv'
            exact ⟨e', cv, by rw [List.find?_cons, hkey, beq_eq_false_iff_ne.mpr q]; exact h1, h2, h3⟩
        · rw [getAt_e1] at hn
          by_cases q : x = a
          · rw [if_pos q] at hn; exact nn hn.symm
          · rw [if_neg q] at hn
            rw [List.find?_cons, hkey, beq_eq_false_iff_ne.mpr q]; exact i3 hn
  obtain ⟨k1, k2, k3⟩ := key
  refine ⟨fun v hv => ?_, fun hn => ?_, ?_⟩
  · obtain ⟨e, cv, h1, h2, h3⟩ := k2 v hv
    exact ⟨cv, by unfold getL; rw [h1]; dsimp only; rw [h2], h3⟩
  · unfold getL; rw [k3 hn, if_neg (by rw [k1]; exact Bool.false_ne_true)]
  · unfold getL
    split
    · rfl
    · rw [if_neg (by rw [k1]; exact Bool.false_ne_true)]; rfl
theorem instIn_rep {B h : Heap} {X : List Addr} {H : List O} {g : G} (I : HInv B X H g h) {a : Value} {x : V} {C : Addr} {at_ : List (Str × V)} (r : Rep g a x) (e : instIn' H x = some (C, at_)) :
    ∃ p d es n, a = .ref p ∧ InstAt h p (instObj C d) C (some (dictOf es n)) ∧ RepA g es at_ := by
  induction x using V.casesOn with
  | inst C' at' =>
    obtain ⟨rfl, rfl⟩ := Prod.mk.inj (Option.some.inj e)
    obtain ⟨p, d, n, es, rfl, z, zd, ra⟩ := r.inst_inv
    exact ⟨_, _, _, _, rfl, ⟨I.zin _ _ z, rfl, rfl, I.zin _ _ zd⟩, ra⟩
  | ref i =>
    obtain ⟨xx, dd, rfl, q⟩ := r.ref_inv
    have e : (match H[i]? with | some (.inst C at_) => some (C, at_) | _ => none) = some (C, at_) := e
    have hi : i < H.length := by rw [I.len]; exact (List.getElem?_eq_some_iff.mp q).1
    have hob := I.objs i _ _ q (List.getElem?_eq_getElem hi)
    rw [List.getElem?_eq_getElem hi] at e
    generalize H[i] = o at hob e
    induction o using O.casesOn with
    | inst C' at' =>
      obtain ⟨rfl, rfl⟩ := Prod.mk.inj (Option.some.inj e)
      obtain ⟨x', d', n, es, q', z, hd, ra, _⟩ := hob.inst_inv
      obtain ⟨rfl, rfl⟩ := Prod.mk.inj q'
      exact ⟨_, _, _, _, rfl, ⟨I.zin _ _ z, rfl, rfl, hd⟩, ra⟩
    | _ => exact nn e
  | _ => exact nn e
theorem handed_of {g : G} {a : Value} {v : V} (r : Rep g a v) (n : ∀ f, v ≠ .fn f) : handedIn a = true := by
  induction r using Rep.casesOn <;> first | rfl | exact absurd rfl (n _)
section
variable {w : World} {c : Cx} {A : Around} {H : List O} {g : G} {s : Shared}
noncomputable def KOk (w : World) (c : Cx) : Prop := (kObjs w.params).In c.B
theorem HInv.kin {B h : Heap} {X : List Addr} {H : List O} {g : G} {P : Params} (I : HInv B X H g h) (k : (kObjs P).In B) : (kObjs P).In h := fun a o e => I.zin _ _ (I.base _ _ (k a o e))
theorem leaf_attr (I : HInv c.B c.X H g s.heap) (k : KOk w c) {a : Value} {x v : V} {at_ : List (Str × V)} {C : Addr} {nm : Str} {expr : Bool} (ha : Rep g a x) (e : instIn' H x = some (C, at_)) (hc : (attrsOf C).contains nm = true)
    (hv : getAt nm at_ = some v) (hn : ∀ f, v ≠ .fn f) : Leaf w c A H g s (getAttr a nm expr) v := by
  obtain ⟨p, d, es, n, rfl, hI, ra⟩ := instIn_rep I ha e
  obtain ⟨cv, h1, h2⟩ := (getL_rep ra nm).1 v hv
  have K := cls_attr w.params C nm hc
  exact Leaf.of_any I fun Q E q => get_value (I.kin k) hI (plainGet_of K.get).1 (findObj_own K.dict K.find rfl h1) (handed_of h2 hn) (q _ _ h2)
end
end Rk
end

section
open PySem PySem.W PySem.Calls PyProof.Rows PySem.Builtin
set_option maxRecDepth 100000
namespace Rk
section
variable {w : World} {c : Cx} {r : Str → Option X} {A : Around} {g : G} {α β γ δ : Type} {φ : Tab}
theorem sim_read {R : G → α → β → Prop} {t : Sem α} {f : List O → Option β}
    (h : ∀ g₁, g.le g₁ → ∀ (H : List O) (s : Shared) b, f H = some b → HInv c.B c.X H g₁ s.heap → ∃ a, R g₁ a b ∧ ∀ (Q : α → Shared → Prop) (E : Value → Shared → Prop), (∀ k, Q a { s with toks := k }) → wpAny (MM w) A t Q E s) : Sim w c r A g R t (AM.look f) := fun g₁ le st out e s Q E I P ok ex => by
  unfold AM.look at e
  obtain ⟨b, hb, rfl⟩ := Option.map_eq_some_iff.mp e
  obtain ⟨a, ra, k⟩ := h g₁ le st.H s b hb I.hp
  exact wpC_any (k Q E fun tk => ok b st rfl g₁ s.heap tk a (Step.refl I.hp) I ra)
theorem sim_peek {R : G → γ → δ → Prop} {t : Sem α} {f : α → Sem γ} {m : AM δ} (a : α)
    (h : ∀ g₁, g.le g₁ → ∀ (H : List O) (s : Shared), HInv c.B c.X H g₁ s.heap → ∀ (Q : α → Shared → Prop) (E : Value → Shared → Prop), (∀ k, Q a { s with toks := k }) → wpAny (MM w) A t Q E s)
    (h' : Sim w c r A g R (f a) m) : Sim w c r A g R (t >>= f) m := fun g₁ le st out e s Q E I P ok ex =>
  wpC_leaf (h g₁ le st.H s I.hp _ _ fun k => h' g₁ le st out e { s with toks := k } Q E I P ok ex)
theorem sim_none {R : G → α → β → Prop} {t : Sem α} {m : AM β} (h : ∀ st, m st = .none) : Sim w c r A g R t m := fun g₁ le st out e => by rw [h] at e; exact nn e
theorem sim_tail {R : G → Value → β → Prop} {t : Sem Value} {m : AM β} {u : Value → Sem Unit} (hu : ∀ v s (Q : Unit → Shared → Prop) (E : Value → Shared → Prop), Q () s → wpC (MM w) A (u v) Q E s) (h : Sim w c r A g R t m) :
    Sim w c r A g R (t >>= fun v => u v >>= fun _ => pure v) m := fun g₁ le st out e s Q E I P ok ex =>
  wpC_bind (h g₁ le st out e s _ E I P (fun b st' eo g₂ h₂ tk x S I₂ rx => wpC_bind (hu _ _ _ _ (wpC_pure (ok b st' eo g₂ h₂ tk x S I₂ rx)))) ex)
theorem sim_spliced {es : List Expr} {xs : List X} {pos : Pos} (hs : es.any isStar = false) (h : ∀ (i : Nat) (e : Expr) (x : X), es[i]? = some e → xs[i]? = some x → ∀ g, Sim w c r A g Rep (eval e c.env) (evX φ x)) (hl : es.length = xs.length) :
    ∀ g, Sim w c r A g RepL (spliced (backTo pos (starEach es c.env))) (evXs φ xs) := by
  induction es generalizing xs with
  | nil =>
    induction xs using List.casesOn with
    | nil => intro g; exact sim_pure fun _ _ => .nil
    | cons _ _ => cases hl
  | cons e es ih =>
    induction xs using List.casesOn with
    | nil => cases hl
    | cons x xs =>
      simp -iota only [List.any_cons, Bool.or_eq_false_iff] at hs
      have hst : starEach (e :: es) c.env = (false, eval e c.env) :: starEach es c.env := by
        induction e using Expr.casesOn <;> first | rfl | exact tf hs.1
      have ih' := ih hs.2 (xs := xs) (fun i e x he hx => h (i + 1) e x he hx) (by simpa using hl)
      intro g
      rw [hst]
      show Sim w c r A g RepL (do let v ← eval e c.env; let here ← (pure [v] : Sem (List Value)); return here ++ (← holding here (spliced (backTo pos (starEach es c.env))))) (AM.bind (evX φ x) fun v => AM.bind (evXs φ xs) fun vs => AM.pure (v :: vs))
      refine sim_bind (h 0 e x rfl rfl g) fun g' le v y ry => ?_
      show Sim w c r A g' RepL (do let vs ← holding [v] (spliced (backTo pos (starEach es c.env))); return [v] ++ vs) _
      exact sim_bind (sim_hold (ih' g')) fun g'' le' vs ys rys => sim_pure fun _ le'' => .cons ((ry.mono le').mono le'') (rys.mono le'')
theorem plain_args {pos : Pos} {es : List Expr} {env : Env} (hs : es.any isStar = false) : (backTo pos (starEach es env)).any (·.1) = false := by
  induction es with
  | nil => rfl
  | cons e es ih =>
    simp -iota only [List.any_cons, Bool.or_eq_false_iff] at hs
    have hst : starEach (e :: es) env = (false, eval e env) :: starEach es env := by
      induction e using Expr.casesOn <;> first | rfl | exact tf hs.1
    rw [hst]
    show ((false : Bool) || (backTo pos (starEach es env)).any (·.1)) = false
    rw [ih hs.2]; rfl
noncomputable def FewKeep (w : World) (c : Cx) (f : Value) : Prop := ∀ g (H : List O) (s : Shared), HInv c.B c.X H g s.heap → ∃ k, (k = Keeper.frame ∨ k = Keeper.machine) ∧ Looks (MM w) s.heap (keeperOf f) k
theorem few_builtin (id : String) : FewKeep w c (.builtin id) := fun _ _ _ _ => ⟨.machine, .inr rfl, .now⟩
theorem few_type (id : String) : FewKeep w c (.type id) := fun _ _ _ _ => ⟨.machine, .inr rfl, .now⟩
theorem few_K (k : KOk w c) {f : Value} (h : keepIn (kObjs w.params) f = true) : FewKeep w c f := fun _ _ _ I => looks_keep h (I.kin k)
theorem wpC_evalArgs {f : Value} {args : List (Bool × Sem Value)} {E : Value → Shared → Prop} {s : Shared} {Q : Args → Shared → Prop} (hp : args.any (·.1) = false) (h : wpC (MM w) A (spliced args) (fun vs s₁ => Q ⟨vs, []⟩ s₁) E s) :
    wpC (MM w) A (evalArgs f true args []) Q E s := by
  have key : evalArgs f true args [] = (spliced args >>= fun vs => holding (vs ++ []) (do let kw ← (do let l ← evalAll []; pure (([] : List Str).zip l)); return ⟨vs, kw⟩)) := by
    induction args using List.casesOn with
    | nil => rfl
    | cons p args =>
      obtain ⟨b, x⟩ := p
      induction b using Bool.casesOn
      · rfl
      · simp -iota at hp
  rw [key]
  exact wpC_bind (wpC_mono h (fun vs s₁ h₁ => wpC_holding (wpC_bind (wpC_bind (wpC_pure (wpC_pure (wpC_pure h₁)))))) fun _ _ x => x)
theorem wpC_callWith {pos : Pos} {f : Value} {first : List Value} {args : List (Bool × Sem Value)} {E : Value → Shared → Prop} {s : Shared} {Q : Value → Shared → Prop} (hp : args.any (·.1) = false)
    (h : wpC (MM w) A (spliced args) (fun vs s₁ => (∃ k, (k = Keeper.frame ∨ k = Keeper.machine) ∧ Looks (MM w) s₁.heap (keeperOf f) k) ∧ wpC (MM w) A (call f (first ++ vs) []) Q E s₁) E s) : wpC (MM w) A (callWith pos f first args []) Q E s := by
  unfold callWith
  refine wpC_bind (wpC_holding (wpC_evalArgs hp (wpC_mono h (fun vs s₁ h₁ => wpC_bind (wpC_standAt ?_)) fun _ _ x => x)))
  obtain ⟨⟨k, hk, L⟩, hc⟩ := h₁
  simp -iota only [hp, List.any_nil, Bool.or_false]
  refine wpC_leaf (L.here ?_)
  have tail : ∀ {t : Sem Value}, wpC (MM w) A t Q E s₁ → wpC (MM w) A (t >>= fun r => holding [r] point >>= fun _ => pure r) Q E s₁ :=
    fun ht => wpC_bind (wpC_mono ht (fun r s₂ hr => wpC_bind (wpC_holding (wpC_point (wpC_pure hr)))) fun _ _ x => x)
  have marked (mk : Value) : wpC (MM w) A (callMarked mk f (first ++ vs) []) Q E s₁ := by unfold callMarked; exact wpC_keep hc
  rcases hk with rfl | rfl <;> dsimp only <;> first | exact tail hc | (split <;> first | exact tail hc | exact tail (marked _))
theorem sim_callWith {pos : Pos} {f : Value} {first : List Value} {es : List Expr} {xs : List X} {k : List V → AM V} (few : FewKeep w c f) (hs : es.any isStar = false)
    (ha : Sim w c r A g RepL (spliced (backTo pos (starEach es c.env))) (evXs φ xs)) (hc : ∀ g', g.le g' → ∀ vs as, RepL g' vs as → Sim w c r A g' Rep (call f (first ++ vs) []) (k as)) :
    Sim w c r A g Rep (callWith pos f first (backTo pos (starEach es c.env)) []) (AM.bind (evXs φ xs) k) := fun g₁ le st out e s Q E I P ok ex => by
  refine wpC_callWith (plain_args hs) ?_
  unfold AM.bind at e
  cases q : evXs φ xs st with
  | none => rw [q] at e; exact nn e
  | some o =>
    rw [q] at e
    refine ha g₁ le st o q s _ E I P (fun b st' eo g₂ h₂ tk x S I₂ rx => ⟨few g₂ st'.H _ I₂.hp, ?_⟩) fun kd st' eo g₂ hr h₂ tk x S I₂ F => ?_
    · subst eo
      refine hc g₂ (le.trans S.le) x b rx g₂ (.refl _) st' out e { s with heap := h₂, toks := tk } Q E I₂ P (fun b' st'' eo' g₃ h₃ tk' y S' I₃ ry => ?_) fun kd st'' eo' g₃ hr h₃ tk' y S' I₃ F => ?_
      · exact ok b' st'' eo' g₃ h₃ tk' y (S.trans S') I₃ ry
      · exact ex kd st'' eo' g₃ hr h₃ tk' y (S.trans S') I₃ F
    · subst eo
      obtain rfl := Option.some.inj e
      exact ex kd st' rfl g₂ hr h₂ tk x S I₂ F
end
end Rk
end

section
set_option genSizeOf false
set_option genCtorIdx false
open PySem PySem.W PySem.Calls PyProof.Rows PySem.Builtin
set_option maxRecDepth 100000
namespace Rk
theorem AM.bind_assoc {α β γ : Type} (m : AM α) (f : α → AM β) (k : β → AM γ) : AM.bind (AM.bind m f) k = AM.bind m fun a => AM.bind (f a) k := by
  funext s; unfold AM.bind
  cases m s with
  | none => rfl
  | some o => induction o using Out.casesOn <;> rfl
theorem AM.pure_bind {α β : Type} (a : α) (f : α → AM β) : AM.bind (AM.pure a) f = f a := rfl
structure AOk (w : World) (c : Cx) (A : Around) (n : Nat) : Prop where
  hh : A.handled = none
  frames : A.frames = some c.frs
  depth : A.depth + 5 * n < recursionLimit
  room : A.units + 50 * n + 100 < cLine
theorem AOk.units {w : World} {c : Cx} {A : Around} {n : Nat} (O : AOk w c A n) : A.units + 100 < cLine := by have := O.room; lia
noncomputable def NameOk (w : World) (c : Cx) (r : Str → Option X) : Prop := ∀ x v, r x = some (.val v) → ∀ (A : Around) (g : G) (H : List O) (s : Shared), HInv c.B c.X H g s.heap → ∃ cv, Rep g cv v ∧ ∀ (Q : Value → Shared → Prop) (E : Value → Shared → Prop), Q cv s → wpAny (MM w) A (loadName c.env x) Q E s
section
variable {w : World} {c : Cx} {r : Str → Option X} {A : Around} {g : G} {α β γ δ : Type} {φ : Tab}
noncomputable abbrev SE (w : World) (c : Cx) (r : Str → Option X) (A : Around) (φ : Tab) (e : Expr) (x : X) : Prop := ∀ g, Sim w c r A g Rep (eval e c.env) (evX φ x)
theorem sim_val {t : Sem Value} {v : V} (h : ∀ (g : G) (s : Shared) (Q : Value → Shared → Prop) (E : Value → Shared → Prop), (∀ k a, Rep g a v → Q a { s with toks := k }) → wpAny (MM w) A t Q E s) : Sim w c r A g Rep t (AM.pure v) := fun g₁ le st out e s Q E I P ok ex => by
  obtain rfl := Option.some.inj e
  exact wpC_any (h g₁ s Q E fun k a ra => ok _ _ rfl g₁ s.heap k a (Step.refl I.hp) I ra)
theorem se_none {k pos} : SE w c r A φ (.Constant .none k pos) (.val .none) := fun g => by
  simp -iota only [evX_e0]; exact sim_val fun g s Q E q => Constant_none (q s.toks _ .none)
theorem se_bool {b k pos} : SE w c r A φ (.Constant (.bool b) k pos) (.val (.bool b)) := fun g => by
  simp -iota only [evX_e0]; exact sim_val fun g s Q E q => Constant_bool (q s.toks _ (.bool b))
theorem se_int {i k pos} : SE w c r A φ (.Constant (.int i) k pos) (.val (.int i)) := fun g => by
  simp -iota only [evX_e0]; exact sim_val fun g s Q E q => wpAny_Constant_int (q _ _ (.int i _))
theorem se_str {i k pos} : SE w c r A φ (.Constant (.str i) k pos) (.val (.str i)) := fun g => by
  simp -iota only [evX_e0]; exact sim_val fun g s Q E q => Constant_str (q _ _ (.str i _))
theorem se_bytes {i k pos} : SE w c r A φ (.Constant (.bytes i) k pos) (.val (.bytes i)) := fun g => by
  simp -iota only [evX_e0]; exact sim_val fun g s Q E q => Constant_bytes (q _ _ (.bytes i _))
theorem notDebug {x : Str} (h : x ≠ Str.ofString "__debug__") : (x == ("__debug__" : Str)) = false := beq_eq_false_iff_ne.mpr h
theorem locAt_load {g : G} {s : Shared} {x : Str} {v : V} (C : CxOk c) (l : LocAt c.env g s.heap x v) (hn : x ≠ Str.ofString "__classdict__") : ∃ cv, Rep g cv v ∧ ∀ (Q : Value → Shared → Prop) (E : Value → Shared → Prop), Q cv s → wpAny (MM w) A (loadName c.env x) Q E s := by
  obtain ⟨cv, rv, h⟩ := l
  refine ⟨cv, rv, fun Q E q => ?_⟩
  rcases h with ⟨hk, m, hm, hv⟩ | ⟨hk, a, o, ha, ho, hd⟩
  · exact wpAny_loadName_local C.fn hk hm hv q
  · rcases hk with hk | hk
    · exact wpAny_loadName_cell C.fn hk ha ⟨o, ho, hd⟩ q
    · exact wpAny_loadName_free C.fn hk ha ⟨o, ho, hd⟩ q (beq_eq_false_iff_ne.mpr hn)
theorem sim_loadLoc (C : CxOk c) {x : Str} {i : Nat} (hr : r x = some (.loc i)) (hn : x ≠ Str.ofString "__classdict__") : Sim w c r A g Rep (loadName c.env x) (evX φ (.loc i)) := fun g₁ le st out e s Q E I P ok ex => by
  simp -iota only [evX_e1] at e
  split at e
  · rename_i v hv
    obtain rfl := Option.some.inj e
    obtain ⟨cv, rv, h⟩ := locAt_load (w := w) (A := A) C (I.loc x i v hr hv) hn
    exact wpC_any (h Q E (ok v st rfl g₁ s.heap s.toks cv (Step.refl I.hp) I rv))
  · exact nn e
theorem se_loc (C : CxOk c) {x : Str} {i : Nat} {pos} (hd : x ≠ Str.ofString "__debug__") (hn : x ≠ Str.ofString "__classdict__") (hr : r x = some (.loc i)) : SE w c r A φ (.Name x pos) (.loc i) := fun g => by
  rw [eval_Name c.env x pos (notDebug hd)]
  exact sim_at (sim_loadLoc C hr hn)
theorem se_glob (N : NameOk w c r) {x : Str} {v : V} {pos} (hd : x ≠ Str.ofString "__debug__") (hr : r x = some (.val v)) : SE w c r A φ (.Name x pos) (.val v) := fun g => by
  rw [eval_Name c.env x pos (notDebug hd)]
  refine sim_at fun g₁ le st out e s Q E I P ok ex => ?_
  simp -iota only [evX_e0] at e
  obtain rfl := Option.some.inj e
  obtain ⟨cv, rv, h⟩ := N x v hr A g₁ st.H s I.hp
  exact wpC_any (h Q E (ok v st rfl g₁ s.heap s.toks cv (Step.refl I.hp) I rv))
theorem se_bin (C : CxOk c) {a b : Expr} {x y : X} {op : Operator} {pos} (ha : SE w c r A φ a x) (hb : SE w c r A φ b y) : SE w c r A φ (.BinOp a op b pos) (.bin op x y) := fun g => by
  rw [eval_BinOp]
  simp -iota only [evX_e2]
  refine sim_bind (ha g) fun g' le v u rv => sim_bind (sim_hold (hb g')) fun g'' le' v' u' rv' => sim_at (sim_operate (sim_look C fun g3 le3 H s b hb I => ?_))
  exact leaf_bin I ((rv.mono le').mono le3) (rv'.mono le3) hb
theorem se_neg (C : CxOk c) {a : Expr} {x : X} {pos} (ha : SE w c r A φ a x) : SE w c r A φ (.UnaryOp .USub a pos) (.neg x) := fun g => by
  rw [eval_UnaryOp]
  simp -iota only [evX_e3]
  refine sim_bind (ha g) fun g' le v u rv => sim_at (sim_hold (sim_look C fun g3 le3 H s b hb I => leaf_neg I (rv.mono le3) hb))
theorem marked_no {op : CmpOp} {e : Expr} (h : isSet e = false) (t : Sem Value) : markedBehindIn op e t = t := by
  refine markedBehindIn_of_false ?_
  induction e using Expr.casesOn <;> first | rfl | cases h
theorem se_cmp {n : Nat} (C : CxOk c) (O : AOk w c A n) {a b : Expr} {x y : X} {op : CmpOp} {pos} (hs : isSet b = false) (ha : SE w c r A φ a x) (hb : SE w c r A φ b y) : SE w c r A φ (.Compare a [op] [b] pos) (.cmp op x y) := fun g => by
  rw [eval_Compare1, marked_no hs]
  simp -iota only [evX_e5]
  refine sim_bind (ha g) fun g' le v u rv => sim_bind (sim_hold (hb g')) fun g'' le' v' u' rv' => sim_at (sim_operate (sim_look C fun g3 le3 H s b hb I => ?_))
  obtain ⟨q, hq, rfl⟩ := Option.map_eq_some_iff.mp hb
  exact leaf_cmp I ((rv.mono le').mono le3) (rv'.mono le3) hq O.units
theorem sim_truth {a : Value} {u : V} (ra : Rep g a u) : Sim w c r A g (fun _ b b' => b = b') (truthy a) (AM.look fun _ => truthV u) := sim_read fun g₁ le H s b hb I => by
  induction u using V.casesOn with
  | bool q => obtain rfl := Option.some.inj hb; obtain rfl := ra.bool_inv; exact ⟨_, rfl, fun Q E q => wpAny_truthy_bool (q s.toks)⟩
  | _ => exact nn hb
theorem se_boolop (C : CxOk c) {a b : Expr} {x y : X} {op : BoolOp} {pos} (ha : SE w c r A φ a x) (hb : SE w c r A φ b y) : SE w c r A φ (.BoolOp op [a, b] pos) (.bool op x y) := fun g => by
  show Sim w c r A g Rep (do
    let v ← eval a c.env
    standAt pos
    let q ← holding [v] (truthy v)
    match op, q with
    | .And, false | .Or, true => pure v
    | _, _ => eval b c.env) _
  simp -iota only [evX_e4]
  refine sim_bind (ha g) fun g' le v u rv => sim_at (sim_bind (sim_hold (sim_truth rv)) fun g'' le' q q' hq => ?_)
  subst hq
  induction op using BoolOp.casesOn <;> cases q <;> first | exact sim_pure fun _ le'' => (rv.mono le').mono le'' | exact hb g''
theorem base_ok {o : Expr} {a : Str} {env : Env} (h : okBase o = true) (t : Sem Value) : attributeBase o a env t = t := by
  induction o using Expr.casesOn with
  | Call f args kw p =>
    induction args using List.casesOn with
    | nil => exact ff h
    | cons x xs => first | rfl | (induction f using Expr.casesOn <;> rfl)
  | _ => rfl
theorem sim_letGo {R : G → Value → β → Prop} {t : Sem Value} {m : AM β} {e : Expr} {o : Value} (h : Sim w c r A g R t m) : Sim w c r A g R (t >>= fun v => letTemporaryGo e o v >>= fun _ => pure v) m :=
  sim_tail (u := fun v => letTemporaryGo e o v) (fun v s Q E q => wpC_any (wpAny_letTemporaryGo q)) h
theorem se_attr (C : CxOk c) (k : KOk w c) {o : Expr} {x : X} {a : Str} {pos} (hb : okBase o = true) (ho : SE w c r A φ o x) : SE w c r A φ (.Attribute o a pos) (.attr x a) := fun g => by
  show Sim w c r A g Rep (do
    let v ← attributeBase o a c.env (eval o c.env)
    standAt pos.atName
    let q ← holding [v] (getAttr v a true)
    letTemporaryGo o v q
    pure q) _
  rw [base_ok hb]
  simp -iota only [evX_e8, attrV]
  refine sim_bind (ho g) fun g' le v u rv => sim_at (sim_letGo (sim_hold (sim_look C fun g3 le3 H s b hb I => ?_)))
  split at hb
  · rename_i C' at_ hi
    split at hb
    · rename_i hc
      split at hb
      · exact nn hb
      · rename_i z
        exact leaf_attr I k (rv.mono le3) hi hc hb (fun f q => z f (by rw [hb, q]))
    · exact nn hb
  · exact nn hb
theorem item_kind {H : List O} {g : G} {B : Heap} {X : List Addr} {s : Shared} (I : HInv B X H g s.heap) {a : Value} {x : V} (ra : Rep g a x) (h : (∃ y v, itemV H x y = some v) ∨ ∃ l u v, sliceV H x l u = some v) : ∃ T id, s.TypeIs a T ∧ typeLookup (.type T) "__getitem__" = pure (some (.builtin id)) := by
  have lst : ∀ l, listIn H x = some l → ∃ T id, s.TypeIs a T ∧ typeLookup (.type T) "__getitem__" = pure (some (.builtin id)) := fun l e => by
    obtain ⟨p, it, n, rfl, ⟨o, ho, hc, _⟩, _⟩ := listIn_rep I ra e
    exact ⟨_, _, ⟨o, ho, hc⟩, slot_list_getitem.lookup⟩
  have byt : ∀ l, bytesIn H x = some l → ∃ T id, s.TypeIs a T ∧ typeLookup (.type T) "__getitem__" = pure (some (.builtin id)) := fun l e => by
    rcases bytesIn_rep I ra e with ⟨t, rfl⟩ | ⟨p, o, rfl, ho, hc, _⟩
    · exact ⟨_, _, typeIs_bytes s _ _, FB.slot_bytes_getitem.lookup⟩
    · exact ⟨_, _, ⟨o, ho, hc⟩, BA.slot_getitem.lookup⟩
  rcases h with ⟨y, v, h⟩ | ⟨l, u, v, h⟩
  · refine itemV_k (P := fun _ => _) h fun k _ _ h => itemB_k (P := fun x => Rep g a x → ∃ T id, s.TypeIs a T ∧ typeLookup (.type T) "__getitem__" = pure (some (.builtin id))) h (fun l _ ra => ?_) (fun s _ _ _ ra => ?_) (fun l hl _ _ => lst l hl) (fun b _ hb _ _ _ _ => byt b hb) ra
    · obtain ⟨p, o, n, it, rfl, z, c, _⟩ := ra.tuple_inv; exact ⟨_, _, ⟨_, I.zin _ _ z, c⟩, slot_tuple_getitem.lookup⟩
    · obtain ⟨t, rfl⟩ := ra.str_inv; exact ⟨_, _, typeIs_str _ _ _, PySem.F.slot_str_getitem.lookup⟩
  · refine sliceV_k (P := fun x => (∀ l, listIn H x = some l → ∃ T id, s.TypeIs a T ∧ typeLookup (.type T) "__getitem__" = pure (some (.builtin id))) → (∀ l, bytesIn H x = some l → ∃ T id, s.TypeIs a T ∧ typeLookup (.type T) "__getitem__" = pure (some (.builtin id))) → ∃ T id, s.TypeIs a T ∧ typeLookup (.type T) "__getitem__" = pure (some (.builtin id))) h
      (fun l u _ _ => ⟨fun b _ _ _ byt => byt _ rfl, fun xs _ _ lst _ => lst _ rfl, fun i b hb _ _ _ byt => byt b (by show (match H[i]? with | some (.barr b) => some b | _ => none) = some b; rw [hb])⟩) lst byt
theorem leaf_sub {H : List O} {s : Shared} (I : HInv c.B c.X H g s.heap) {a i : Value} {x v : V} {sl : Expr} {vs : List Value} (ra : Rep g a x) (h : (∃ y v, itemV H x y = some v) ∨ ∃ l u v, sliceV H x l u = some v) (hs : ∀ b, b = false → subscripted sl b a i = operate vs (getItem a i)) (L : Leaf w c A H g s (getItem a i) v) :
    Leaf w c A H g s (getitemInPython a >>= fun b => subscripted sl b a i) v := fun Q E q => by
  obtain ⟨T, id, hT, hl⟩ := item_kind I ra h
  refine wpC_leaf ?_
  rw [getitemInPython_of_ne hT.not_modules]
  refine wpAny_bind (wpAny_specialOf hT hl (wpAny_pure ?_))
  rw [hs false rfl]
  exact wpC_operate (L Q E q)
theorem se_item (C : CxOk c) {o i : Expr} {x y : X} {pos} (hs : isSlice i = false) (ho : SE w c r A φ o x) (hi : SE w c r A φ i y) : SE w c r A φ (.Subscript o i pos) (.item x y) := fun g => by
  rw [eval_Subscript]
  simp -iota only [evX_e9]
  refine sim_bind (ho g) fun g' le v u rv => sim_bind (sim_hold (hi g')) fun g'' le' v' u' rv' => sim_at ?_
  show Sim w c r A g'' Rep (do let b ← getitemInPython v; let q ← subscripted i b v v'; letTemporaryGo o v q; pure q) _
  rw [show (do let b ← getitemInPython v; let q ← subscripted i b v v'; letTemporaryGo o v q; pure q) = ((getitemInPython v >>= fun b => subscripted i b v v') >>= fun q => letTemporaryGo o v q >>= fun _ => pure q) by simp -iota only [bind_assoc]]
  refine sim_letGo (sim_look C fun g3 le3 H s b hb I => ?_)
  refine leaf_sub (vs := [v, v']) I ((rv.mono le').mono le3) (.inl ⟨_, _, hb⟩) (fun b hb => ?_) (leaf_item I ((rv.mono le').mono le3) (rv'.mono le3) hb)
  subst hb
  induction i using Expr.casesOn <;> first | rfl | cases hs
end
end Rk
end

section
set_option genSizeOf false
set_option genCtorIdx false
open PySem PySem.W PySem.Calls PyProof.Rows PySem.Builtin
set_option maxRecDepth 100000
namespace Rk
inductive RepO (g : G) : Value → Option V → Prop
  | none : RepO g .none .none
  | some {v x} : Rep g v x → RepO g v (some x)
theorem RepO.mono {g g' : G} (le : g.le g') {v x} (h : RepO g v x) : RepO g' v x := by
  cases h with
  | none => exact RepO.none
  | some r => exact RepO.some (r.mono le)
theorem RepO.part {g : G} {v x} {l : Option Int} (h : RepO g v x) (e : partOf x = Option.some l) : PartRep v x := by
  cases h with
  | none => exact .none
  | some r =>
    rename_i x
    induction x using V.casesOn with
    | int i => obtain ⟨t, rfl⟩ := r.int_inv; exact .int _ _
    | _ => exact nn e
section
variable {w : World} {c : Cx} {r : Str → Option X} {A : Around} {g : G} {α β γ δ : Type} {φ : Tab}
theorem sim_opt {e : Option Expr} {x : Option X} (h : match e, x with | .none, .none => True | some e, some x => SE w c r A φ e x | _, _ => False) : Sim w c r A g RepO (valueOrNone (evalOpt e c.env)) (evXo φ x) := by
  induction e using Option.casesOn with
  | none =>
    induction x using Option.casesOn with
    | none => simp only [evXo_e0]; exact sim_pure fun _ _ => .none
    | some _ => exact h.elim
  | some e =>
    induction x using Option.casesOn with
    | none => exact h.elim
    | some x =>
      simp only [evXo_e1]
      exact sim_map (sim_mono (h g) fun g' a b r => r) fun g' a b r => .some r
noncomputable def SlRep (g : G) (i : Value) (lu : Option V × Option V) : Prop := ∃ sl lv uv o, i = .ref sl ∧ g.Z sl = some o ∧ o.cls = .type "slice" ∧ o.data = .fields #[lv, uv, .none] ∧ RepO g lv lu.1 ∧ RepO g uv lu.2
theorem sim_new {R : G → Value → β → Prop} {t : Sem Value} {b : β} {o : Obj} (C : CxOk c) (hf : o.isFreed = false)
    (h : ∀ (s : Shared) (Q : Value → Shared → Prop) (E : Value → Shared → Prop), Q (.ref s.heap.objs.size) { s with heap := s.heap.push o } → wpAny (MM w) A t Q E s) (hR : ∀ g' a, g.le g' → g'.Z a = some o → R g' (.ref a) b) : Sim w c r A g R t (AM.pure b) := fun g₁ le st out e s Q E I P ok ex => by
  obtain rfl := Option.some.inj e
  refine wpC_any (h s Q E ?_)
  have hz : g₁.Z s.heap.objs.size = none := by
    cases e : g₁.Z s.heap.objs.size with
    | none => rfl
    | some o' => have := I.hp.zin _ o' e; rw [get?_size_none] at this; exact nn this
  have le1 := G.le_add (o := o) hz
  exact ok _ _ rfl (g₁.add _ o) _ s.toks _ (Step.of_keeps I.hp le1 rfl (keeps_push _ _)) (I.grown C le1 (I.hp.add (keeps_push _ _) (get?_size_none _) (Heap.get?_push_size _ hf)) fun x ob q _ => ⟨ob.slots, keeps_push _ _ _ _ q⟩)
    (hR _ _ (le.trans le1) (by simp [G.add]))
theorem se_slice (C : CxOk c) {o : Expr} {x : X} {lo hi : Option Expr} {xl xh : Option X} {p pos} (ho : SE w c r A φ o x)
    (hl : match lo, xl with | .none, .none => True | some e, some x => SE w c r A φ e x | _, _ => False) (hh : match hi, xh with | .none, .none => True | some e, some x => SE w c r A φ e x | _, _ => False) : SE w c r A φ (.Subscript o (.Slice lo hi .none p) pos) (.slice x xl xh) := fun g => by
  rw [eval_Subscript]
  simp only [evX_e10]
  refine sim_bind (ho g) fun g' le v u rv => ?_
  have hs : Sim w c r A g' SlRep (eval (.Slice lo hi .none p) c.env) (AM.bind (evXo φ xl) fun l => AM.bind (evXo φ xh) fun u => AM.pure (l, u)) := by
    show Sim w c r A g' SlRep (do
      let l ← valueOrNone (evalOpt lo c.env)
      let u ← holding [l] (valueOrNone (evalOpt hi c.env))
      let s ← holding [l, u] (pure Value.none)
      newFields "slice" [l, u, s]) _
    refine sim_bind (sim_opt hl) fun g1 le1 lv l rl => sim_bind (sim_hold (sim_opt hh)) fun g2 le2 uv u' ru => ?_
    refine sim_peek .none (fun g3 le3 H s I Q E q => wpAny_holding (wpAny_pure (q s.toks))) ?_
    refine sim_new (o := { cls := .type "slice", data := .fields #[lv, uv, .none] }) C rfl (fun s Q E q => ?_) fun g3 a le3 z => ⟨a, lv, uv, _, rfl, z, rfl, rfl, (rl.mono le2).mono le3, ru.mono le3⟩
    exact wpAny_newObj_type q (by show 3 ≤ sizeLine + 2; rw [sizeLine_eq]; omega)
  have e : (AM.bind (evXo φ xl) fun l => AM.bind (evXo φ xh) fun u' => AM.look fun H => sliceV H u l u') = AM.bind (AM.bind (evXo φ xl) fun l => AM.bind (evXo φ xh) fun u => AM.pure (l, u)) fun lu => AM.look fun H => sliceV H u lu.1 lu.2 := by
    simp only [AM.bind_assoc, AM.pure_bind]
  rw [e]
  refine sim_bind (sim_hold hs) fun g'' le' v' lu rs => sim_at ?_
  show Sim w c r A g'' Rep (do let b ← getitemInPython v; let q ← subscripted (.Slice lo hi .none p) b v v'; letTemporaryGo o v q; pure q) _
  rw [show (do let b ← getitemInPython v; let q ← subscripted (.Slice lo hi .none p) b v v'; letTemporaryGo o v q; pure q) = ((getitemInPython v >>= fun b => subscripted (.Slice lo hi .none p) b v v') >>= fun q => letTemporaryGo o v q >>= fun _ => pure q) by simp only [bind_assoc]]
  refine sim_letGo (sim_look C fun g3 le3 H s b hb I => ?_)
  obtain ⟨sl, lv, uv, ob, rfl, z, hc, hd, rl, ru⟩ := rs
  have hpart : (∃ l, partOf lu.1 = some l) ∧ ∃ u, partOf lu.2 = some u := by
    unfold sliceV at hb
    split at hb
    · rename_i l u e1 e2; exact ⟨⟨_, e1⟩, _, e2⟩
    · exact nn hb
  obtain ⟨⟨l, el⟩, u', eu⟩ := hpart
  refine leaf_sub (vs := [.ref sl, v]) I ((rv.mono le').mono le3) (.inr ⟨_, _, _, hb⟩) (fun b hb => rfl) (leaf_slice I ((rv.mono le').mono le3) (rl.part el) (ru.part eu) ⟨ob, I.zin _ _ (le3.1 _ _ z), hc, hd⟩ hb)
theorem se_list (C : CxOk c) {es : List Expr} {xs : List X} {pos} (ha : ∀ g, Sim w c r A g RepL (spliced (backTo pos (starEach es c.env))) (evXs φ xs)) : SE w c r A φ (.List es pos) (.list xs) := fun g => by
  show Sim w c r A g Rep (do standAt pos; newList (← spliced (backTo pos (starEach es c.env)))) _
  simp only [evX_e11]
  refine sim_at (sim_bind (ha g) fun g' le vs as rs => sim_look C fun g1 le1 H s b hb I => ?_)
  split at hb
  · rename_i hz
    obtain rfl := Option.some.inj hb
    refine Leaf.push (o := { cls := .type "list", data := .seq vs.toArray }) I (fun g2 a le2 z => .list (n := 0) z rfl rfl ((rs.mono le1).mono le2)) rfl fun Q E q => wpAny_newObj_type (q s.toks) ?_
    show vs.toArray.size ≤ sizeLine
    rw [List.size_toArray, rs.length, sizeLine_eq]; omega
  · exact nn hb
theorem se_tup (C : CxOk c) {es : List Expr} {xs : List X} {k : Nat} {pos} (ha : ∀ g, Sim w c r A g RepL (spliced (backTo pos (starEach es c.env))) (evXs φ xs)) : SE w c r A φ (.Tuple es k pos) (.tup xs) := fun g => by
  show Sim w c r A g Rep (do standAt pos; newTuple (← spliced (backTo pos (starEach es c.env)))) _
  simp only [evX_e12]
  refine sim_at (sim_bind (ha g) fun g' le vs as rs => sim_look C fun g1 le1 H s b hb I => ?_)
  split at hb
  · rename_i hz
    obtain rfl := Option.some.inj hb
    refine Leaf.push (o := { cls := .type "tuple", data := .seq vs.toArray }) I (fun g2 a le2 z => .tuple (n := 0) z rfl rfl ((rs.mono le1).mono le2)) rfl fun Q E q => wpAny_newObj_type (q s.toks) ?_
    show vs.toArray.size ≤ sizeLine
    rw [List.size_toArray, rs.length, sizeLine_eq]; omega
  · exact nn hb
theorem sim_shown {v : Expr} {x : X} {pos} (hv : SE w c r A φ v x) : Sim w c r A g (fun _ a (_ : Unit) => ∃ y t, a = .str y t ∧ y.length ≤ 1000) (eval (.FormattedValue v (-1) .none pos) c.env) (AM.bind (evX φ x) fun v => AM.look fun _ => (intOf v).bind fun i => if i.natAbs < 10 ^ 100 then some () else .none) := by
  show Sim w c r A g _ (do let u ← eval v c.env; standAt pos; let u' ← holding [u] (pure u); formatField u' Str.empty) _
  refine sim_bind (hv g) fun g' le u x' rx => sim_at ?_
  refine sim_peek u (fun g3 le3 H s I Q E q => wpAny_holding (wpAny_pure (q s.toks))) ?_
  intro g₁ le₁ st out e s Q E I P ok ex
  unfold AM.look at e
  obtain ⟨b, hb, rfl⟩ := Option.map_eq_some_iff.mp e
  obtain ⟨i, hi, hb⟩ := Option.bind_eq_some_iff.mp hb
  split at hb
  · rename_i hz
    obtain rfl := intOf_inv hi
    obtain ⟨t, rfl⟩ := rx.int_inv
    have h2 : i.natAbs.log2 < 1920 := by
      rcases Nat.eq_zero_or_pos i.natAbs with h0 | hp
      · rw [h0]; decide
      · exact (Nat.log2_lt (Nat.ne_of_gt hp)).mpr (Nat.lt_trans hz (by decide))
    refine wpC_any (formatField_int_small h2 (ok _ st rfl g₁ s.heap _ _ (Step.refl I.hp) I ⟨_, _, rfl, ?_⟩))
    have := int_text_length_le10 (k := 100) (by decide) hz
    show (Str.ofString (toString i)).length ≤ 1000
    rw [PySem.ofString_length]; omega
  · exact nn hb
theorem wpC_joinParts_cons {M : Model} {E : Value → Shared → Prop} {s : Shared} {out : Str} {x : Sem Value} {rest : List (Sem Value)} {Q : Value → Shared → Prop}
    (h : wpC M A x (fun v s₁ => ∃ y t, v = .str y t ∧ (out ++ y).length ≤ sizeLine ∧ wpC M A (joinParts (out ++ y) rest) Q E s₁) E s) : wpC M A (joinParts out (x :: rest)) Q E s := by
  rw [joinParts]
  refine wpC_bind (wpC_mono h (fun v s₁ h₁ => ?_) fun _ _ e => e)
  obtain ⟨y, t, rfl, hz, hj⟩ := h₁
  have hz' : ¬ (out.length + y.length > sizeLine) := by rw [← strLen_append]; exact Nat.not_lt.mpr hz
  refine wpC_bind (wpC_pure ?_)
  show wpC M A (if out.length + y.length > sizeLine then _ else _) Q E s₁
  rw [if_neg hz']
  first | exact hj | exact wpC_bind (wpC_pure hj)
theorem sim_joinCons {x : Sem Value} {rest : List (Sem Value)} {out : Str} {m : AM Unit} {k : AM V} (ho : out.length ≤ 20000) (h : Sim w c r A g (fun _ a (_ : Unit) => ∃ y t, a = .str y t ∧ y.length ≤ 1000) x m)
    (hk : ∀ g' y, y.length ≤ 1000 → Sim w c r A g' Rep (joinParts (out ++ y) rest) k) : Sim w c r A g Rep (joinParts out (x :: rest)) (AM.bind m fun _ => k) := fun g₁ le st out' e s Q E I P ok ex => by
  unfold AM.bind at e
  cases q : m st with
  | none => rw [q] at e; exact nn e
  | some o =>
    rw [q] at e
    refine wpC_joinParts_cons (h g₁ le st o q s _ E I P (fun b st' eo g₂ h₂ tk x S I₂ rx => ?_) fun kd st' eo g₂ hr h₂ tk x S I₂ F => ?_)
    · subst eo
      obtain ⟨y, t, rfl, hy⟩ := rx
      refine ⟨y, t, rfl, by rw [strLen_append, sizeLine_eq]; omega, hk g₂ y hy g₂ (.refl _) st' out' e { s with heap := h₂, toks := tk } Q E I₂ P (fun b' st'' eo' g₃ h₃ tk' y S' I₃ ry => ?_) fun kd st'' eo' g₃ hr h₃ tk' y S' I₃ F => ?_⟩
      · exact ok b' st'' eo' g₃ h₃ tk' y (S.trans S') I₃ ry
      · exact ex kd st'' eo' g₃ hr h₃ tk' y (S.trans S') I₃ F
    · subst eo
      obtain rfl := Option.some.inj e
      exact ex kd st' rfl g₂ hr h₂ tk x S I₂ F
theorem sim_join {n : Nat} {ρ : Str → Option X} (IH : ∀ e x, cE n ρ e = some x → SE w c r A φ e x) {es : List Expr} : ∀ {xs : List X} {out : Str} {g : G}, fparts (cE n ρ) es = some xs → out.length + 1000 * es.length ≤ 20000 → Sim w c r A g Rep (joinParts out (evalEach es c.env)) (AM.bind (evF φ xs) fun _ => AM.pure .text) := by
  induction es with
  | nil =>
    intro xs out g hx hz
    obtain rfl := Option.some.inj hx
    simp only [evF_e0]
    show Sim w c r A g Rep (mkStr out) (AM.pure .text)
    refine sim_val fun g s Q E q => wpAny_mkStr (q _ _ (.text out _ (by simp at hz; omega))) (by rw [sizeLine_eq]; simp at hz; omega)
  | cons e es ih =>
    intro xs out g hx hz
    simp only [List.length_cons] at hz
    refine fparts_k hx (fun y k p q hy hx2 => ?_) fun v p x xs' q hx' hxs q' => ?_
    · subst q
      refine sim_joinCons (m := AM.pure ()) (by omega) ?_ fun g' y' hy' => ih hx2 (by rw [strLen_append]; omega)
      intro g₁ le st out' e s Q E I P ok ex
      obtain rfl := Option.some.inj e
      exact wpC_any (Constant_str (ok _ _ rfl g₁ s.heap _ _ (Step.refl I.hp) I ⟨_, _, rfl, hy⟩))
    · subst q q'
      rw [evF_e1]
      have e : ∀ k : AM V, AM.bind (AM.bind (evX φ x) fun v => AM.bind (AM.look fun _ => (intOf v).bind fun i => if i.natAbs < 10 ^ 100 then some () else .none) fun _ => evF φ xs') (fun _ => k) =
          AM.bind (AM.bind (evX φ x) fun v => AM.look fun _ => (intOf v).bind fun i => if i.natAbs < 10 ^ 100 then some () else .none) fun _ => AM.bind (evF φ xs') fun _ => k := fun k => by
        simp only [AM.bind_assoc]
      rw [e]
      exact sim_joinCons (by omega) (sim_shown (IH v x hx')) fun g' y' hy' => ih hxs (by rw [strLen_append]; omega)
theorem se_fstr {n : Nat} {ρ : Str → Option X} (IH : ∀ e x, cE n ρ e = some x → SE w c r A φ e x) {a b : Expr} {es : List Expr} {xs : List X} {pos} (hl : es.length ≤ 8) (h : fparts (cE n ρ) (a :: b :: es) = some xs) : SE w c r A φ (.JoinedStr (a :: b :: es) pos) (.fstr xs) := fun g => by
  show Sim w c r A g Rep (joinParts Str.empty (evalEach (a :: b :: es) c.env)) _
  simp only [evX_e14]
  exact sim_join IH h (by show 0 + _ ≤ _; simp; omega)
end
end Rk
end

section
open PySem PySem.W PySem.Calls PyProof.Rows PySem.Builtin
set_option maxRecDepth 100000
namespace Rk
section
variable {w : World} {c : Cx} {r : Str → Option X} {A : Around} {g : G} {α β γ δ : Type} {φ : Tab}
noncomputable abbrev ST (w : World) (c : Cx) (r : Str → Option X) (A : Around) (φ : Tab) (e : Expr) (t : T) : Prop := ∀ g, Sim w c r A g (fun _ b b' => b = b') (isTrue e c.env (eval e c.env)) (evT φ t)
theorem st_not {e : Expr} {t : T} {pos} (h : ST w c r A φ e t) : ST w c r A φ (.UnaryOp .Not e pos) (.not t) := fun g => by
  show Sim w c r A g _ (do return !(← isTrue e c.env (eval e c.env))) _
  simp -iota only [evT_e2]
  exact sim_bind (h g) fun g' le a b ab => sim_pure fun _ _ => by rw [ab]
theorem st_bool {op : BoolOp} {es : List Expr} {ts : List T} {pos} (hl : es.length = ts.length) (h : ∀ (i : Nat) (e : Expr) (t : T), es[i]? = some e → ts[i]? = some t → ST w c r A φ e t) : ST w c r A φ (.BoolOp op es pos) (.bool op ts) := fun g => by
  show Sim w c r A g _ (allTrue op es c.env) _
  simp -iota only [evT_e3]
  induction es generalizing ts g with
  | nil =>
    induction ts using List.casesOn with
    | nil => simp -iota only [evTs_e0]; exact sim_pure fun _ _ => rfl
    | cons _ _ => cases hl
  | cons e es ih =>
    induction ts using List.casesOn with
    | nil => cases hl
    | cons t ts =>
      simp -iota only [evTs_e1]
      show Sim w c r A g _ (do
        match op, ← isTrue e c.env (eval e c.env) with
        | .And, false => pure false
        | .Or, true => pure true
        | _, _ => allTrue op es c.env) _
      refine sim_bind (h 0 e t rfl rfl g) fun g' le a b ab => ?_
      subst ab
      have ih' := ih (by simpa using hl) (fun i e t he ht => h (i + 1) e t he ht) g'
      induction op using BoolOp.casesOn <;> cases a <;> first | exact sim_pure fun _ _ => rfl | exact ih'
theorem st_cmp {n : Nat} (C : CxOk c) (O : AOk w c A n) {a b : Expr} {x y : X} {op : CmpOp} {pos} (hs : isSet b = false) (ha : SE w c r A φ a x) (hb : SE w c r A φ b y) : ST w c r A φ (.Compare a [op] [b] pos) (.cmp op x y) := fun g => by
  rw [isTrue_Compare1, marked_no hs]
  simp -iota only [evT_e1]
  refine sim_bind (ha g) fun g' le v u rv => sim_bind (sim_hold (hb g')) fun g'' le' v' u' rv' => sim_at ?_
  intro g₁ le₁ st out e s Q E I P ok ex
  unfold AM.look at e
  obtain ⟨q, hq, rfl⟩ := Option.map_eq_some_iff.mp e
  refine wpC_bind (wpC_operate (leaf_cmp I.hp ((rv.mono le').mono le₁) (rv'.mono le₁) hq O.units _ _ fun h' k a g2 le2 eρ hp' kp ra => ?_))
  obtain rfl := ra.bool_inv
  exact wpC_holding (wpC_any (wpAny_truthy_bool (ok q st rfl g2 h' k q (Step.of_keeps I.hp le2 eρ kp) (I.grown C le2 hp' fun x o q _ => ⟨o.slots, kp x o q⟩) rfl)))
theorem st_ex {e : Expr} {x : X} (hT : ∀ whole, isTrue e c.env whole = (do let v ← whole; standAt e.pos; holding [v] (truthy v))) (h : SE w c r A φ e x) : ST w c r A φ e (.ex x) := fun g => by
  rw [hT]
  simp -iota only [evT_e0]
  exact sim_bind (h g) fun g' le v u rv => sim_at (sim_hold (sim_truth rv))
theorem lapp_k {φ : Tab} {x v : V} {s : St} {o : Out V} (e : methDo φ x .lapp [v] s = some o) : ∃ i l, x = .ref i ∧ s.H[i]? = some (.list l) ∧ l.length ≤ 1000000 ∧ o = .ok .none { s with H := s.H.set i (.list (l ++ [v])) } := by
  induction x using V.casesOn with
  | ref i =>
    have e : (match s.H[i]? with | some (.list l) => if l.length ≤ 1000000 then some (Out.ok V.none { s with H := s.H.set i (.list (l ++ [v])) }) else .none | _ => .none) = some o := e
    cases h : s.H[i]? with
    | none => rw [h] at e; exact nn e
    | some ob =>
      rw [h] at e
      induction ob using O.casesOn with
      | list l => exact have z := i2 e; ⟨i, l, rfl, h, z.1, (Option.some.inj z.2).symm⟩
      | _ => exact nn e
  | _ => exact nn e
theorem bapp_k {φ : Tab} {x v : V} {s : St} {o : Out V} (e : methDo φ x .bapp [v] s = some o) : ∃ i n b, x = .ref i ∧ v = .int n ∧ s.H[i]? = some (.barr b) ∧ (0 ≤ n ∧ n < 256 ∧ b.length ≤ 1000000) ∧ o = .ok .none { s with H := s.H.set i (.barr (b ++ [n.toNat.toUInt8])) } := by
  induction x using V.casesOn with
  | ref i =>
    induction v using V.casesOn with
    | int n =>
      have e : (match s.H[i]? with | some (.barr b) => if 0 ≤ n ∧ n < 256 ∧ b.length ≤ 1000000 then some (Out.ok V.none { s with H := s.H.set i (.barr (b ++ [n.toNat.toUInt8])) }) else .none | _ => .none) = some o := e
      cases h : s.H[i]? with
      | none => rw [h] at e; exact nn e
      | some ob =>
        rw [h] at e
        induction ob using O.casesOn with
        | barr b => exact have z := i2 e; ⟨i, n, b, rfl, rfl, h, z.1, (Option.some.inj z.2).symm⟩
        | _ => exact nn e
    | _ => exact nn e
  | _ => exact nn e
theorem bext_k {φ : Tab} {x v : V} {s : St} {o : Out V} (e : methDo φ x .bext [v] s = some o) : ∃ i u b, x = .ref i ∧ v = .bytes u ∧ s.H[i]? = some (.barr b) ∧ b.length + u.length ≤ 1000000 ∧ o = .ok .none { s with H := s.H.set i (.barr (b ++ u)) } := by
  induction x using V.casesOn with
  | ref i =>
    induction v using V.casesOn with
    | bytes u =>
      have e : (match s.H[i]? with | some (.barr b) => if b.length + u.length ≤ 1000000 then some (Out.ok V.none { s with H := s.H.set i (.barr (b ++ u)) }) else .none | _ => .none) = some o := e
      cases h : s.H[i]? with
      | none => rw [h] at e; exact nn e
      | some ob =>
        rw [h] at e
        induction ob using O.casesOn with
        | barr b => exact have z := i2 e; ⟨i, u, b, rfl, rfl, h, z.1, (Option.some.inj z.2).symm⟩
        | _ => exact nn e
    | _ => exact nn e
  | _ => exact nn e
theorem seti_k {x j v : V} {s : St} {o : Out Unit} (e : setiV x j v s = some o) : ∃ i k n b, x = .ref i ∧ j = .int k ∧ v = .int n ∧ s.H[i]? = some (.barr b) ∧ (0 ≤ k ∧ k < b.length ∧ 0 ≤ n ∧ n < 256 ∧ b.length ≤ 16777216) ∧ o = .ok () { s with H := s.H.set i (.barr (b.set k.toNat n.toNat.toUInt8)) } := by
  induction x using V.casesOn with
  | ref i =>
    induction j using V.casesOn with
    | int k =>
      induction v using V.casesOn with
      | int n =>
        have e : (match s.H[i]? with | some (.barr b) => if 0 ≤ k ∧ k < b.length ∧ 0 ≤ n ∧ n < 256 ∧ b.length ≤ 16777216 then some (Out.ok () { s with H := s.H.set i (.barr (b.set k.toNat n.toNat.toUInt8)) }) else .none | _ => .none) = some o := e
        cases h : s.H[i]? with
        | none => rw [h] at e; exact nn e
        | some ob =>
          rw [h] at e
          induction ob using O.casesOn with
          | barr b => exact have z := i2 e; ⟨i, k, n, b, rfl, rfl, rfl, h, z.1, (Option.some.inj z.2).symm⟩
          | _ => exact nn e
      | _ => exact nn e
    | _ => exact nn e
  | _ => exact nn e
theorem seta_k {x v : V} {a : Str} {s : St} {o : Out Unit} (e : setaV x a v s = some o) : ∃ i C at_, x = .ref i ∧ s.H[i]? = some (.inst C at_) ∧ (at_.length ≤ 100 ∧ (attrsOf C).contains a) ∧ o = .ok () { s with H := s.H.set i (.inst C (putAt a v at_)) } := by
  induction x using V.casesOn with
  | ref i =>
    have e : (match s.H[i]? with | some (.inst C at_) => if at_.length ≤ 100 ∧ (attrsOf C).contains a then some (Out.ok () { s with H := s.H.set i (.inst C (putAt a v at_)) }) else .none | _ => .none) = some o := e
    cases h : s.H[i]? with
    | none => rw [h] at e; exact nn e
    | some ob =>
      rw [h] at e
      induction ob using O.casesOn with
      | inst C at_ => exact have z := i2 e; ⟨i, C, at_, rfl, h, z.1, (Option.some.inj z.2).symm⟩
      | _ => exact nn e
  | _ => exact nn e
theorem frz_one (C : CxOk c) {st : St} {h : Heap} {a : Value} {x : V} (I : Inv c r st g h) (ra : Rep g a x) : ∃ u st' g', frzOne x st = some (.ok u st') ∧ Step c g g' h h ∧ Inv c r st' g' h ∧ Rep g' a u := by
  induction x using V.casesOn with
  | ref i =>
    obtain ⟨xx, dd, rfl, q⟩ := ra.ref_inv
    have hi : i < st.H.length := by rw [I.hp.len]; exact (List.getElem?_eq_some_iff.mp q).1
    have hob := I.hp.objs i _ _ q (List.getElem?_eq_getElem hi)
    show ∃ u st' g', (match st.H[i]? with
      | some (.list l) => some (Out.ok (V.list l) { st with H := st.H.set i (.frozen (.list l)) })
      | some (.frozen u) => some (Out.ok u st)
      | _ => some (Out.ok (V.ref i) st)) = some (.ok u st') ∧ _
    rw [List.getElem?_eq_getElem hi]
    generalize hO : st.H[i] = o at hob
    induction o using O.casesOn with
    | list l =>
      obtain ⟨d, n, items, q', ho, rl, z⟩ := hob.list_inv
      obtain ⟨q1, q2⟩ := Prod.mk.inj q'; subst q1 q2
      have le := G.le_add (o := { cls := .type "list", data := .seq items.toArray n }) z
      have rep : Rep (g.add dd { cls := .type "list", data := .seq items.toArray n }) (.ref dd) (.list l) := .list (o := { cls := .type "list", data := .seq items.toArray n }) (n := n) (items := items) (by simp -iota [G.add]) rfl rfl (rl.mono le)
      exact ⟨_, _, _, rfl, Step.of_keeps I.hp le rfl (fun _ _ e => e), I.grown C le (I.hp.freeze q ho z rep) (fun b ob e _ => ⟨ob.slots, e⟩), rep⟩
    | frozen v => exact ⟨_, _, _, rfl, Step.refl I.hp, I, hob.frozen_inv⟩
    | _ => exact ⟨_, _, _, rfl, Step.refl I.hp, I, .ref q⟩
  | _ => exact ⟨_, _, _, rfl, Step.refl I.hp, I, ra⟩
theorem frz_all (C : CxOk c) {h : Heap} : ∀ {vs : List Value} {as : List V} {st : St} {g : G}, Inv c r st g h → RepL g vs as → ∃ us st' g', frzAll as st = some (.ok us st') ∧ Step c g g' h h ∧ Inv c r st' g' h ∧ RepL g' vs us := by
  intro vs
  induction vs with
  | nil => intro as st g I ra; obtain rfl := ra.nil_inv'; exact ⟨_, _, _, rfl, Step.refl I.hp, I, .nil⟩
  | cons v vs ih =>
    intro as st g I ra
    obtain ⟨u0, ul, rfl, r0, rl⟩ := ra.cons_inv'
    obtain ⟨u, st1, g1, e1, S1, I1, ru⟩ := frz_one C I r0
    obtain ⟨us, st2, g2, e2, S2, I2, rus⟩ := ih I1 (rl.mono S1.le)
    refine ⟨u :: us, st2, g2, ?_, S1.trans S2, I2, .cons (ru.mono S2.le) rus⟩
    simp only [frzAll_e1, AM.bind, e1, e2, AM.pure]
theorem sim_frz (C : CxOk c) {R : G → α → β → Prop} {t : Sem α} {vs : List Value} {as : List V} {k : List V → AM β} (ra : RepL g vs as) (h : ∀ g', g.le g' → ∀ us, RepL g' vs us → Sim w c r A g' R t (k us)) : Sim w c r A g R t (AM.bind (frzAll as) k) := fun g₁ le st out e s Q E I P ok ex => by
  obtain ⟨us, st', g', e', S, I', rus⟩ := frz_all C I (ra.mono le)
  unfold AM.bind at e
  rw [e'] at e
  refine h g' (le.trans S.le) us rus g' (.refl _) st' out e s Q E I' P (fun b st'' eo g₃ h₃ tk y S' I₃ ry => ?_) fun kd st'' eo g₃ hr h₃ tk y S' I₃ F => ?_
  · exact ok b st'' eo g₃ h₃ tk y (S.trans S') I₃ ry
  · exact ex kd st'' eo g₃ hr h₃ tk y (S.trans S') I₃ F
theorem Inv.stored (C : CxOk c) {st : St} {h h' : Heap} {i : Nat} {p : Addr × Addr} {o : O} (I : Inv c r st g h) (e : g.ρ[i]? = some p) (s : Heap.SameBut p.2 h h') (z : g.Z p.2 = none) (n : ObjOk g h' p o) (ex : ∃ ob, h'.get? p.2 = some ob) :
    Inv c r { st with H := st.H.set i o } g h' ∧ Step c g g h h' := by
  have ne : ∀ b ∈ c.X, b ≠ p.2 := fun b hb q => I.hp.rx _ (mem_muts e) (q ▸ hb)
  refine ⟨I.grown C (.refl g) (I.hp.store e s z n ex) (fun b o q hb => ⟨o.slots, (s.2 b (ne b hb)).trans q⟩), .refl g, fun b o q hn => ⟨o.slots, (s.2 b fun w => hn (by rw [w]; exact List.mem_append_right _ (mem_muts e))).trans q, fun _ => rfl⟩, fun b m => .inl m, fun b m q => I.hp.rx b m (List.mem_append_left _ q)⟩
theorem obj_at {st : St} {h : Heap} {i : Nat} {o : O} {a : Value} (I : HInv c.B c.X st.H g h) (ra : Rep g a (.ref i)) (e : st.H[i]? = some o) : ∃ p, g.ρ[i]? = some p ∧ a = .ref p.1 ∧ ObjOk g h p o := by
  obtain ⟨x0, d0, rfl, q⟩ := ra.ref_inv
  exact ⟨_, q, rfl, I.objs i _ _ q e⟩
theorem sim_lapp (C : CxOk c) {a v : Value} {x y : V} (ra : Rep g a x) (rv : Rep g v y) : Sim w c r A g Rep (call (.builtin "list.append") [a, v] []) (methDo φ x .lapp [y]) := fun g₁ le st out e s Q E I P ok ex => by
  obtain ⟨i, l, rfl, hl, hz, rfl⟩ := lapp_k e
  obtain ⟨p, hp, rfl, ho⟩ := obj_at I.hp (ra.mono le) hl
  obtain ⟨d, n, items, rfl, hd, rl, z⟩ := ho.list_inv
  have hsz : items.toArray.size ≤ sizeLine := by have := rl.length; simp only [List.size_toArray]; rw [sizeLine_eq]; lia
  refine wpC_any (call_meets PySem.F.slot_list_append ⟨_, hd, rfl⟩ PySem.F.entry_list_append (PySem.F.args_list_append_2 _ _) (list_append d items.toArray n v hsz) ⟨hd, ?_⟩)
  have hs : Heap.SameBut d s.heap (s.heap.update d (Obj.mapSeq fun x_1 => x_1.push v)) := Heap.SameBut.update ..
  have hn := Heap.get?_update_self (Obj.mapSeq fun x_1 => x_1.push v) hd rfl
  have hn' : (s.heap.update d (Obj.mapSeq fun x_1 => x_1.push v)).get? d = some { cls := .type "list", data := .seq (items ++ [v]).toArray (n + 1) } := by
    rw [hn]; simp [Obj.mapSeq]
  obtain ⟨I', S'⟩ := I.stored (o := .list (l ++ [y])) C hp hs z (.list hn' (rl.append (.cons (rv.mono le) .nil)) z) ⟨_, hn'⟩
  exact ok _ _ rfl g₁ _ _ _ S' I' .none
end
end Rk
end

section
open PySem PySem.W PySem.Calls PyProof.Rows PySem.Builtin
set_option maxRecDepth 100000
namespace Rk
section
variable {prog : Program} {w : World} {A : Around} {E : Value → Shared → Prop} {s : Shared} {R : Result → Shared → Prop}
theorem codeC_builtin {id : String} {args : Args} {b : Builtin} (hp : plainId id = true) (hb : entryFor table id = some b)
    (h : wpC (model prog w) A.in1 (b args) (fun fin s' => match fin with | .done f => R (.ok f) s' | .again c' => (c'.quiet = true ∧ okCode c' = true) ∧ codeC (model prog w) A c' R s') (fun e s' => R (.error e) s') s) : codeC (model prog w) A (.builtin id args) R s := by
  refine codeC_of_tree ?_
  rw [Around.under_plainId hp _]
  show wpC _ _ (match entryFor table id with | some b => b args | none => unsupported ((withoutEnding? id "#data").getD id)) _ _ s
  rw [hb]; exact h
theorem codeC_call_builtin {id : String} {args : Args} {b : Builtin} (hp : plainId id = true) (ho : badIds.contains id = false) (hb : entryFor table id = some b)
    (hc : ∀ (Q : Unit → Shared → Prop) (E : Value → Shared → Prop), Q () s → wpAny (model prog w) A.in1 (checkBuiltinCall id args) Q E s)
    (h : wpC (model prog w) A.in1 (b args) (fun fin s' => match fin with | .done f => R (.ok f) s' | .again c' => (c'.quiet = true ∧ okCode c' = true) ∧ codeC (model prog w) A c' R s') (fun e s' => R (.error e) s') s) : codeC (model prog w) A (.call (.builtin id) args) R s := by
  refine codeC_of_tree ?_
  show wpC _ A.in1 (do checkBuiltinCall id args; again (.builtin id args)) _ _ s
  exact wpC_leaf (hc _ _ (wpC_pure ⟨⟨plainId_quiet hp _, by show (!badIds.contains id) = true; rw [ho]; rfl⟩, codeC_builtin hp hb h⟩))
theorem wpC_checkResize {a : Addr} {o : Obj} {b : Array UInt8} {Q : Unit → Shared → Prop} (ho : s.heap.get? a = some o) (hd : o.data = .bytearray b 0) (h : Q () s) : wpC (model prog w) A (Bytes.checkResize (.ref a)) Q E s := by
  unfold Bytes.checkResize
  refine wpC_bind (wpC_bind (wpC_exported ?_))
  show wpC _ _ (Bytes.exportsOf (.ref a) >>= fun n => pure (decide (n > 0))) _ _ _
  refine wpC_bind ?_
  unfold Bytes.exportsOf
  refine wpC_leaf (wpAny_load ho ?_)
  rw [hd]
  refine wpC_pure (wpC_pure ?_)
  exact wpC_pure h
theorem wpAny_write {a : Addr} {o : Obj} {b : Array UInt8} {n : Nat} {f : Array UInt8 → Array UInt8} {Q : Unit → Shared → Prop} (ho : s.heap.get? a = some o) (hd : o.data = .bytearray b n) (hz : (f b).size ≤ sizeLine)
    (h : Q () { s with heap := s.heap.update a (Obj.mapBytearray f) }) : wpAny (model prog w) A (Bytes.write (.ref a) f) Q E s := by
  show wpAny _ _ (updateBytearray a f) _ _ _
  unfold updateBytearray
  refine wpAny_bind (wpAny_load ho ?_)
  obtain ⟨oc, od, odt, os⟩ := o
  simp only at hd
  subst hd
  refine wpAny_bind (wpAny_update ho ?_)
  refine wpAny_lookBehind (Heap.get?_update_self (Obj.mapBytearray f) ho rfl) ?_ h
  show (if (f b).size > sizeLine then some "bytearray:memory" else none) = none
  rw [if_neg (by lia)]
theorem wpAny_byteValue {x : Int} {t : Tok} {Q : UInt8 → Shared → Prop} (h0 : 0 ≤ x) (h1 : x < 256) (h : Q x.toNat.toUInt8 s) : wpAny (model prog w) A (Bytes.byteValue (.int x t)) Q E s := by
  unfold Bytes.byteValue
  refine wpAny_bind (wpAny_of_eq (rfl : asIndex (.int x t) = pure x) ?_)
  exact bm_if_false (by simp only [Bool.or_eq_false_iff, decide_eq_false_iff_not]; lia) (wpAny_pure h)
theorem call_bar_append {a : Addr} {o : Obj} {b : Array UInt8} {x : Int} {t : Tok} {Q : Value → Shared → Prop} (ho : s.heap.get? a = some o) (hc : o.cls = .type "bytearray") (hd : o.data = .bytearray b 0) (hz : b.size + 1 ≤ sizeLine) (h0 : 0 ≤ x) (h1 : x < 256)
    (h : Q .none { s with heap := s.heap.update a (Obj.mapBytearray (·.push x.toNat.toUInt8)) }) : wpC (model prog w) A (call (.builtin "bytearray.append") [.ref a, .int x t] []) Q E s := by
  refine wpC_call (codeC_call_builtin (by decide +kernel) (by decide +kernel) BA.entry_append (fun Q E q => BA.slot_append.check _ _ _ _ _ _ _ _ ⟨o, ho, hc⟩ (BA.args_append _ _) q) ?_)
  unfold Builtin.«bytearray.append»
  show wpC _ _ (Bytes.byteValue (.int x t) >>= fun c => _) _ _ _
  refine wpC_leaf (wpAny_byteValue h0 h1 ?_)
  refine wpC_bind (wpC_checkResize ho hd ?_)
  refine wpC_leaf (wpAny_write ho hd (by rw [Array.size_push]; exact hz) ?_)
  exact wpC_pure h
theorem call_bar_extend {a : Addr} {o : Obj} {b y : Array UInt8} {t : Tok} {Q : Value → Shared → Prop} (ho : s.heap.get? a = some o) (hc : o.cls = .type "bytearray") (hd : o.data = .bytearray b 0) (hz : b.size + y.size ≤ sizeLine)
    (h : Q .none { s with heap := s.heap.update a (Obj.mapBytearray (· ++ y)) }) : wpC (model prog w) A (call (.builtin "bytearray.extend") [.ref a, .bytes y t] []) Q E s := by
  refine wpC_call (codeC_call_builtin (by decide +kernel) (by decide +kernel) BA.entry_extend (fun Q E q => BA.slot_extend.check _ _ _ _ _ _ _ _ ⟨o, ho, hc⟩ (BA.args_extend _ _) q) ?_)
  unfold Builtin.«bytearray.extend»
  show wpC _ _ (specialOf (.bytes y t) "__buffer__" >>= fun c => _) _ _ _
  refine wpC_leaf (wpAny_specialOf (typeIs_bytes s y t) bn_bytes_buffer ?_)
  show wpC _ _ (rule "bytearray.extend.bytes-like" >>= fun _ => Bytes.payload (.ref a) >>= fun p => _) _ _ _
  refine wpC_bind (wpC_rule ?_)
  refine wpC_leaf (wpAny_payload_bar ho hd ?_)
  refine wpC_bind ?_
  unfold Bytes.takeBufferQuiet?
  refine wpC_bind (wpC_attempt ?_)
  unfold Bytes.takeBuffer?
  refine wpC_leaf (wpAny_specialOf (typeIs_bytes s y t) bn_bytes_buffer ?_)
  refine wpC_leaf (slotOwn (typeIs_bytes s y t) bn_bytes_buffer (by decide +kernel) (by decide +kernel) bn_bytes_sub ?_)
  refine wpC_any (bm_if_false rfl ?_)
  refine wpAny_bind (wpAny_specialOf (typeIs_bytes s y t) bn_bytes_buffer ?_)
  refine wpAny_bind (buffer_bytes (wpAny_pure ?_))
  refine wpC_pure ?_
  show wpC _ _ (do if !y.isEmpty then Bytes.checkResize (.ref a)
                   Bytes.write (.ref a) (· ++ y)
                   ret .none) _ _ _
  have fin : wpC (model prog w) A.in1 (do Bytes.write (.ref a) (· ++ y); ret .none) (fun fin s' => match fin with
      | .done f => (match (Except.ok f : Result) with | .ok (.ret v) => Q v s' | .ok _ => False | .error e => E e s')
      | .again c' => (c'.quiet = true ∧ okCode c' = true) ∧ codeC (model prog w) A c' (fun r s' => match r with | .ok (.ret v) => Q v s' | .ok _ => False | .error e => E e s') s') (fun e s' => E e s') s := by
    refine wpC_leaf (wpAny_write ho hd (by rw [Array.size_append]; exact hz) ?_)
    exact wpC_pure h
  cases y.isEmpty
  · exact wpC_bind (wpC_checkResize ho hd fin)
  · exact fin
end
end Rk
end

section
open PySem PySem.W PySem.Calls PyProof.Rows PySem.Builtin
set_option maxRecDepth 100000
namespace Rk
theorem RepA.len {g : G} {es : List DictEntry} {at_ : List (Str × V)} (r : RepA g es at_) : es.length = at_.length := by
  induction es generalizing at_ with
  | nil => cases r; rfl
  | cons e es ih => cases r with | cons _ _ r => simp [ih r]
theorem RepA.put {g : G} {es : List DictEntry} {at_ : List (Str × V)} (r : RepA g es at_) (a : Str) (hsh : Int) (t : Tok) {cv : Value} {v : V} (rv : Rep g cv v) : RepA g (putL a hsh (.str a t) cv es) (putAt a v at_) := by
  induction es generalizing at_ with
  | nil => cases r; exact .cons rfl rv .nil
  | cons e es ih =>
    cases r with
    | cons hk hv r =>
      rename_i x t' v' at_
      have hkey : e.key.isStr a = (x == a) := by rw [hk, isStr_str]
      unfold putL; rw [putAt_e1]
      rw [hkey]
      by_cases q : x = a
      · rw [if_pos (beq_iff_eq.mpr q), if_pos q]; exact .cons hk rv r
      · rw [if_neg (by rw [beq_eq_false_iff_ne.mpr q]; exact Bool.false_ne_true), if_neg q]; exact .cons hk hv (ih r)
theorem putL_len (name : Str) (hsh : Int) (key v : Value) : ∀ es : List DictEntry, (putL name hsh key v es).length ≤ es.length + 1
  | [] => by simp [putL]
  | e :: r => by
    unfold putL
    split
    · simp
    · simp only [List.length_cons]; have := putL_len name hsh key v r; lia
section
variable {prog : Program} {w : World} {A : Around} {E : Value → Shared → Prop} {s : Shared}
theorem setAttr_inst {K : Frag} {x C d : Addr} {es : List DictEntry} {n : Nat} {a : Str} {v : Value} {Q : Unit → Shared → Prop} (X : K.In s.heap) (I : InstAt s.heap x (instObj C d) C (some (dictOf es n))) (k : ClsAttr K C a) (hl : (getL a es).isSome = true) (hz : es.length ≤ 100)
    (h : ∀ h' n' hsh t tk, Heap.SameBut d s.heap h' → h'.get? d = some (dictOf (putL a hsh (.str a t) v es) n') → Q () { s with heap := h', toks := tk }) : wpAny (model prog w) A (setAttr (.ref x) a v) Q E s := by
  refine set_plain X I k.set ?_
  refine osa_open (s := { s with toks := s.toks + 1 }) X I k.over k.taker fun b => ?_
  obtain ⟨cd, hc, hd'⟩ := any_some k.dict
  obtain ⟨hx, hcl, hn, D⟩ := I
  have D : s.heap.get? d = some (dictOf es n) := D
  refine wpAny_bind (wpAny_pure (wpAny_bind (wpAny_bind (wpAny_loadPart hx (wpAny_bind (looks_clsIn (M := model prog w) (h := s.heap) X hc _ _ _ _ (fun _ _ e => e) ?_))))))
  rw [hd']
  refine wpAny_pure (a := some d) (wpAny_bind (wpAny_pure (wpAny_bind ?_)))
  unfold nsSet
  refine wpAny_bind (wpAny_bind (wpAny_askSetting (wpAny_pure (wpAny_bind (wpAny_mkText (wpAny_bind (wpAny_loadPart D ?_)))))))
  have c : (!es.toArray.any (·.key.isStr a) && es.toArray.any (·.refKey)) = false := by
    rw [← Array.any_toList, ← Array.any_toList]
    unfold getL at hl
    split at hl
    · rename_i en he
      rw [List.any_eq_true.mpr ⟨en, List.mem_of_find?_eq_some he, List.find?_some he⟩]; rfl
    · split at hl
      · cases hl
      · rename_i z; rw [Bool.not_eq_true] at z; rw [z, Bool.and_false]
  show wpAny _ _ (if aRefKeyMayBeTheName a es.toArray then unsupported "namespace:key-that-is-no-exact-str" else updatePart d (some (.str a 0)) _) _ _ _
  rw [aRefKeyMayBeTheName_at, c]
  refine wpAny_updatePart D ?_
  have hn' := Heap.get?_update_self (Obj.putName a (PyData.keyHash w.params a) (.str a (s.toks + 1)) v) D (by rw [putName_dict]; rfl)
  refine wpAny_bind (wpAny_lookBehind hn' (by rw [putName_dict]; exact pastItsLine_dict (by rw [List.size_toArray, sizeLine_eq]; have := putL_len a (PyData.keyHash w.params a) (.str a (s.toks + 1)) v es; lia)) ?_)
  rw [putName_dict] at hn'
  exact wpAny_pure (h _ _ _ _ _ (Heap.SameBut.update ..) hn')
end
section
variable {w : World} {c : Cx} {r : Str → Option X} {A : Around} {g : G} {α β γ δ : Type} {φ : Tab}
theorem sim_bapp (C : CxOk c) {a v : Value} {x y : V} (ra : Rep g a x) (rv : Rep g v y) : Sim w c r A g Rep (call (.builtin "bytearray.append") [a, v] []) (methDo φ x .bapp [y]) := fun g₁ le st out e s Q E I P ok ex => by
  obtain ⟨i, n, b, rfl, rfl, hl, hz, rfl⟩ := bapp_k e
  obtain ⟨p, hp, rfl, ho⟩ := obj_at I.hp (ra.mono le) hl
  obtain ⟨d, rfl, hd, z⟩ := ho.barr_inv
  obtain ⟨t, rfl⟩ := rv.int_inv
  refine call_bar_append hd rfl rfl (by simp only [List.size_toArray]; rw [sizeLine_eq]; omega) hz.1 hz.2.1 ?_
  have hs : Heap.SameBut d s.heap (s.heap.update d (Obj.mapBytearray (·.push n.toNat.toUInt8))) := Heap.SameBut.update ..
  have hn := Heap.get?_update_self (Obj.mapBytearray (·.push n.toNat.toUInt8)) hd rfl
  have hn' : (s.heap.update d (Obj.mapBytearray (·.push n.toNat.toUInt8))).get? d = some { cls := .type "bytearray", data := .bytearray (b ++ [n.toNat.toUInt8]).toArray 0 } := by
    rw [hn]; simp [Obj.mapBytearray]
  obtain ⟨I', S'⟩ := I.stored (o := .barr (b ++ [n.toNat.toUInt8])) C hp hs z (.barr hn' z) ⟨_, hn'⟩
  exact ok _ _ rfl g₁ _ s.toks _ S' I' .none
theorem sim_bext (C : CxOk c) {a v : Value} {x y : V} (ra : Rep g a x) (rv : Rep g v y) : Sim w c r A g Rep (call (.builtin "bytearray.extend") [a, v] []) (methDo φ x .bext [y]) := fun g₁ le st out e s Q E I P ok ex => by
  obtain ⟨i, u, b, rfl, rfl, hl, hz, rfl⟩ := bext_k e
  obtain ⟨p, hp, rfl, ho⟩ := obj_at I.hp (ra.mono le) hl
  obtain ⟨d, rfl, hd, z⟩ := ho.barr_inv
  obtain ⟨t, rfl⟩ := rv.bytes_inv
  refine call_bar_extend hd rfl rfl (by simp only [List.size_toArray]; rw [sizeLine_eq]; lia) ?_
  have hs : Heap.SameBut d s.heap (s.heap.update d (Obj.mapBytearray (· ++ u.toArray))) := Heap.SameBut.update ..
  have hn := Heap.get?_update_self (Obj.mapBytearray (· ++ u.toArray)) hd rfl
  have hn' : (s.heap.update d (Obj.mapBytearray (· ++ u.toArray))).get? d = some { cls := .type "bytearray", data := .bytearray (b ++ u).toArray 0 } := by
    rw [hn]; simp [Obj.mapBytearray]
  obtain ⟨I', S'⟩ := I.stored (o := .barr (b ++ u)) C hp hs z (.barr hn' z) ⟨_, hn'⟩
  exact ok _ _ rfl g₁ _ s.toks _ S' I' .none
theorem sim_seti (C : CxOk c) {a i v : Value} {x j y : V} (ra : Rep g a x) (ri : Rep g i j) (rv : Rep g v y) : Sim w c r A g (fun _ _ _ => True) (setItem a i v) (setiV x j y) := fun g₁ le st out e s Q E I P ok ex => by
  obtain ⟨q, k, n, b, rfl, rfl, rfl, hl, hz, rfl⟩ := seti_k e
  obtain ⟨p, hp, rfl, ho⟩ := obj_at I.hp (ra.mono le) hl
  obtain ⟨d, rfl, hd, z⟩ := ho.barr_inv
  obtain ⟨t, rfl⟩ := rv.int_inv; obtain ⟨t2, rfl⟩ := ri.int_inv
  refine wpC_any ?_
  have hs : Heap.SameBut d s.heap (s.heap.update d (Obj.mapBytearray (·.setIfInBounds k.toNat n.toNat.toUInt8))) := Heap.SameBut.update ..
  have hn := Heap.get?_update_self (Obj.mapBytearray (·.setIfInBounds k.toNat n.toNat.toUInt8)) hd rfl
  have hn' : (s.heap.update d (Obj.mapBytearray (·.setIfInBounds k.toNat n.toNat.toUInt8))).get? d = some { cls := .type "bytearray", data := .bytearray (b.set k.toNat n.toNat.toUInt8).toArray 0 } := by
    rw [hn]; simp [Obj.mapBytearray]
  obtain ⟨I', S'⟩ := I.stored (o := .barr (b.set k.toNat n.toNat.toUInt8)) C hp hs z (.barr hn' z) ⟨_, hn'⟩
  unfold setItem
  refine wpAny_holding ?_
  refine wpAny_bind (wpAny_sequenceKey ⟨_, hd, rfl⟩ (by decide) ?_)
  refine wpAny_bind (wpAny_callSpecial?_slot (name := Str.ofString "__setitem__") ⟨_, hd, rfl⟩ BA.slot_setitem (call_meets BA.slot_setitem ⟨_, hd, rfl⟩ BA.entry_setitem (BA.args_setitem _ _ _) (bar_setitem (b := b) (n := 0)) ⟨hd, rfl, hz.1, hz.2.1, by rw [sizeLine_eq]; exact hz.2.2.2.2, hz.2.2.1, hz.2.2.2.1, ?_⟩))
  exact wpAny_pure (ok _ _ rfl g₁ _ s.toks _ S' I' trivial)
theorem sim_seta (C : CxOk c) (k : KOk w c) {a v : Value} {x y : V} {nm : Str} (ra : Rep g a x) (rv : Rep g v y) : Sim w c r A g (fun _ _ _ => True) (setAttr a nm v) (setaV x nm y) := fun g₁ le st out e s Q E I P ok ex => by
  obtain ⟨i, C', at_, rfl, hl, hz, rfl⟩ := seta_k e
  obtain ⟨p, hp, rfl, ho⟩ := obj_at I.hp (ra.mono le) hl
  obtain ⟨xx, d, n, es, rfl, zx, hd, rA, z⟩ := ho.inst_inv
  refine wpC_any (setAttr_inst (I.hp.kin k) ⟨I.hp.zin _ _ zx, rfl, rfl, hd⟩ (cls_attr w.params C' nm hz.2) (getL_rep rA nm).2.2 (by rw [rA.len]; exact hz.1) fun h' n' hsh t tk hs hn' => ?_)
  obtain ⟨I', S'⟩ := I.stored (o := .inst C' (putAt nm y at_)) C hp hs z (.inst zx hn' (rA.put nm hsh t (rv.mono le)) z) ⟨_, hn'⟩
  exact ok _ _ rfl g₁ _ _ _ S' I' trivial
end
end Rk
end

section
set_option genSizeOf false
set_option genCtorIdx false
open PySem PySem.W PySem.Calls PyProof.Rows PySem.Builtin
set_option maxRecDepth 100000
namespace Rk
noncomputable def SimN (w : World) (c : Cx) (r : Str → Option X) (A : Around) (g : G) {α β : Type} (R : G → α → β → Prop) (t : Sem α) (m : AM β) : Prop :=
  ∀ g₁, g.le g₁ → ∀ st out, m st = some out → ∀ (s : Shared) (Q : α → Shared → Prop) (E : Value → Shared → Prop), Inv c r st g₁ s.heap →
    OkC c r g₁ s.heap s R out Q →
    ExC c r g₁ s.heap s out E →
    wpC (MM w) A t Q E s
noncomputable def CallOk (w : World) (B : Heap) (n : Nat) (f : Addr) (ct : Ct) : Prop := ∀ (c : Cx) (r : Str → Option X) (A : Around), c.B = B → CxOk c → AOk w c A n → ∀ g vs us, RepL g vs us → SimN w c r A g Rep (call (.ref f) vs []) (fun s => liftR s (ct us s.H))
noncomputable def MakeOk (w : World) (B : Heap) (n : Nat) (φ : Tab) : Prop := ∀ a fi done, clsInit a = some (fi, done) → ∀ (c : Cx) (r : Str → Option X) (A : Around), c.B = B → CxOk c → AOk w c A n → ∀ g vs us, RepL g vs us →
  SimN w c r A g Rep (call (.ref a) vs []) (AM.bind (AM.alloc (.inst a [])) fun i => AM.bind (useC φ fi (.ref i :: us)) fun v => madeV i done v)
structure TabOk (w : World) (B : Heap) (n : Nat) (φ : Tab) : Prop where
  fn : ∀ f ct, φ.lookup f = some ct → CallOk w B n f ct
  cls : MakeOk w B n φ
section
variable {w : World} {c : Cx} {r : Str → Option X} {A : Around} {g : G} {α β γ δ : Type} {φ : Tab}
theorem SimN.sim {R : G → α → β → Prop} {t : Sem α} {m : AM β} (h : SimN w c r A g R t m) : Sim w c r A g R t m := fun g₁ le st out e s Q E I P ok ex => h g₁ le st out e s Q E I ok ex
theorem sim_use {n : Nat} (T : TabOk w c.B n φ) (C : CxOk c) (O : AOk w c A n) {f : Addr} {vs : List Value} {us : List V} (ra : RepL g vs us) : Sim w c r A g Rep (call (.ref f) vs []) (useC φ f us) := fun g₁ le st out e s Q E I P ok ex => by
  unfold useC at e
  cases hct : φ.lookup f with
  | none => rw [hct] at e; exact nn e
  | some ct => rw [hct] at e; exact T.fn f ct hct c r A rfl C O g vs us ra g₁ le st out e s Q E I ok ex
noncomputable def MRep (v : Value) (k : MK) (p : Value × List Value) : Prop := p.2 = [v] ∧ match k with
  | .lapp => p.1 = .builtin "list.append"
  | .bapp => p.1 = .builtin "bytearray.append"
  | .bext => p.1 = .builtin "bytearray.extend"
  | .fn f => p.1 = .ref f ∧ ∀ P, keepIn (kObjs P) (.ref f) = true
theorem type_list_append : typeOf (.builtin "list.append") = pure (.type "method_descriptor") := by show builtinType _ = _; rw [builtinType_eq_fast]; kernel_rfl
theorem sim_getMethod (k : KOk w c) {v : Value} {x : V} {m : Str} {pl : Sem Bool} (rv : Rep g v x) : Sim w c r A g (fun _ p mk => MRep v mk p) (getMethod v m pl) (AM.look fun H => methK H x m) := sim_read fun g₁ le H s mk hb I => by
  cases hi : instIn' H x with
  | some q =>
    obtain ⟨C, at_⟩ := q
    have hb : (match (methOf C).lookup m, getAt m at_ with | some f, .none => some (MK.fn f) | _, _ => .none) = some mk := by unfold methK at hb; rw [hi] at hb; exact hb
    cases hf : (methOf C).lookup m with
    | none => rw [hf] at hb; exact nn hb
    | some f =>
      cases hn : getAt m at_ with
      | some _ => rw [hf, hn] at hb; exact nn hb
      | none =>
        rw [hf, hn] at hb
        obtain rfl := Option.some.inj hb
        obtain ⟨p, d, es, n, rfl, hI, ra⟩ := instIn_rep I (rv.mono le) hi
        have K := cls_meth w.params C m f hf
        have hl := (getL_rep ra m).2.1 hn
        refine ⟨(.ref f, [.ref p]), ⟨rfl, rfl, fun P => (cls_meth P C m f hf).keep⟩, fun Q E q => method_fn (I.kin k) hI (plainGet_of K.get).1 (plainGet_of K.get).2 K.find (beq_iff_eq.mp K.fn) ?_ (q s.toks)⟩
        show (lookIn m (dictOf es n)).map _ = _
        rw [lookIn_dict, hl]; rfl
  | none =>
    unfold methK at hb
    rw [hi] at hb
    induction x using V.casesOn with
    | ref i =>
      have hb : (match H[i]? with
        | some (.list _) => (if m = Str.ofString "append" then some MK.lapp else .none)
        | some (.barr _) => (if m = Str.ofString "append" then some MK.bapp else if m = Str.ofString "extend" then some MK.bext else .none)
        | _ => .none) = some mk := hb
      cases hl : H[i]? with
      | none => rw [hl] at hb; exact nn hb
      | some ob =>
        rw [hl] at hb
        induction ob using O.casesOn with
        | list l =>
          obtain ⟨hm, hb⟩ := i2 hb
          obtain rfl := Option.some.inj hb; subst hm
          obtain ⟨p, hp, rfl, ho⟩ := obj_at (st := ⟨fun _ => .none, H⟩) I (rv.mono le) hl
          obtain ⟨d, n, items, rfl, hd, rl, z⟩ := ho.list_inv
          exact ⟨_, ⟨rfl, rfl⟩, fun Q E q => getMethod_builtin ⟨_, hd, rfl⟩ PySem.F.plainAttrs_list PySem.F.slot_list_append type_list_append (fun a e => by cases e; exact ⟨_, hd, rfl⟩) (q s.toks)⟩
        | barr b =>
          obtain ⟨p, hp, rfl, ho⟩ := obj_at (st := ⟨fun _ => .none, H⟩) I (rv.mono le) hl
          obtain ⟨d, rfl, hd, z⟩ := ho.barr_inv
          have hb : (if m = Str.ofString "append" then some MK.bapp else if m = Str.ofString "extend" then some .bext else .none) = some mk := hb
          by_cases hm : m = Str.ofString "append"
          · rw [if_pos hm] at hb
            obtain rfl := Option.some.inj hb; subst hm
            exact ⟨_, ⟨rfl, rfl⟩, fun Q E q => getMethod_builtin ⟨_, hd, rfl⟩ BA.plainAttrs BA.slot_append BA.type_append (fun a e => by cases e; exact ⟨_, hd, rfl⟩) (q s.toks)⟩
          · rw [if_neg hm] at hb
            obtain ⟨hm, hb⟩ := i2 hb
            obtain rfl := Option.some.inj hb; subst hm
            exact ⟨_, ⟨rfl, rfl⟩, fun Q E q => getMethod_builtin ⟨_, hd, rfl⟩ BA.plainAttrs BA.slot_extend BA.type_extend (fun a e => by cases e; exact ⟨_, hd, rfl⟩) (q s.toks)⟩
        | _ => exact nn hb
    | _ => exact nn hb
theorem no_lapp0 {φ : Tab} {x : V} {st : St} : methDo φ x .lapp [] st = .none := by induction x using V.casesOn <;> rfl
theorem no_lapp2 {φ : Tab} {x a b : V} {as : List V} {st : St} : methDo φ x .lapp (a :: b :: as) st = .none := by induction x using V.casesOn <;> first | rfl | (induction a using V.casesOn <;> rfl)
theorem no_bapp0 {φ : Tab} {x : V} {st : St} : methDo φ x .bapp [] st = .none := by induction x using V.casesOn <;> rfl
theorem no_bapp2 {φ : Tab} {x a b : V} {as : List V} {st : St} : methDo φ x .bapp (a :: b :: as) st = .none := by induction x using V.casesOn <;> first | rfl | (induction a using V.casesOn <;> rfl)
theorem no_bext0 {φ : Tab} {x : V} {st : St} : methDo φ x .bext [] st = .none := by induction x using V.casesOn <;> rfl
theorem no_bext2 {φ : Tab} {x a b : V} {as : List V} {st : St} : methDo φ x .bext (a :: b :: as) st = .none := by induction x using V.casesOn <;> first | rfl | (induction a using V.casesOn <;> rfl)
theorem sim_methDo {n : Nat} (T : TabOk w c.B n φ) (C : CxOk c) (O : AOk w c A n) {v : Value} {x : V} {k : MK} {p : Value × List Value} (hp : MRep v k p) (rv : Rep g v x) {vs : List Value} {as : List V} (ra : RepL g vs as) : Sim w c r A g Rep (call p.1 (p.2 ++ vs) []) (methDo φ x k as) := by
  obtain ⟨f, first⟩ := p
  obtain ⟨h1, h2⟩ := hp
  simp only at h1 h2
  subst h1
  have none1 : ∀ {t : Sem Value} {m : AM V}, (∀ st, m st = .none) → Sim w c r A g Rep t m := fun h => sim_none h
  induction k using MK.casesOn with
  | fn f' =>
    obtain ⟨rfl, _⟩ := h2
    exact sim_frz C ra fun g' le us rus => sim_use T C O (.cons (rv.mono le) rus)
  | lapp =>
    simp only at h2; subst h2
    rcases as with _ | ⟨a0, _ | ⟨a1, as⟩⟩
    · exact none1 fun st => no_lapp0
    · obtain ⟨v0, rfl, r0⟩ := ra.one_inv; exact sim_lapp C rv r0
    · exact none1 fun st => no_lapp2
  | bapp =>
    simp only at h2; subst h2
    rcases as with _ | ⟨a0, _ | ⟨a1, as⟩⟩
    · exact none1 fun st => no_bapp0
    · obtain ⟨v0, rfl, r0⟩ := ra.one_inv; exact sim_bapp C rv r0
    · exact none1 fun st => no_bapp2
  | bext =>
    simp only at h2; subst h2
    rcases as with _ | ⟨a0, _ | ⟨a1, as⟩⟩
    · exact none1 fun st => no_bext0
    · obtain ⟨v0, rfl, r0⟩ := ra.one_inv; exact sim_bext C rv r0
    · exact none1 fun st => no_bext2
theorem few_M {v : Value} {k : MK} {p : Value × List Value} (K : KOk w c) (hp : MRep v k p) : FewKeep w c p.1 := by
  obtain ⟨_, h2⟩ := hp
  induction k using MK.casesOn <;> simp only at h2
  · rw [h2]; exact few_builtin _
  · rw [h2]; exact few_builtin _
  · rw [h2]; exact few_builtin _
  · rw [h2.1]; exact few_K K (h2.2 _)
theorem se_meth {n : Nat} (T : TabOk w c.B n φ) (C : CxOk c) (O : AOk w c A n) (K : KOk w c) {o : Expr} {x : X} {m : Str} {es : List Expr} {xs : List X} {ap pos : Pos} (hb : okBase o = true) (hline : (ap.endLine == pos.line) = true) (hs : es.any isStar = false) (hl : es.length ≤ 20)
    (ho : SE w c r A φ o x) (ha : ∀ g, Sim w c r A g RepL (spliced (backTo pos (starEach es c.env))) (evXs φ xs)) : SE w c r A φ (.Call (.Attribute o m ap) es [] pos) (.meth x m xs) := fun g => by
  show Sim w c r A g Rep (do
    let ov ← attributeBase o m c.env (eval o c.env)
    standAt ap.atName
    methodCall o m ap pos c.env ov (es.length + 0) (backTo pos (starEach es c.env)) []) _
  rw [base_ok hb]
  simp only [evX_e7]
  refine sim_bind (ho g) fun g' le v u rv => sim_at ?_
  have few : methodCallForm (es.length + 0) (backTo pos (starEach es c.env)) [] = true := by
    have := plain_args (pos := pos) (env := c.env) hs
    unfold methodCallForm
    simp only [List.all_nil, List.isEmpty_nil, if_true, Bool.and_true, Bool.and_eq_true, decide_eq_true_eq]
    refine ⟨?_, by lia⟩
    rw [List.all_eq_true]
    intro p hp
    rw [List.any_eq_false] at this
    simpa using this p hp
  unfold methodCall
  rw [few]
  have hpos : methodCallPos true o c.env ap pos = pure pos := by
    unfold methodCallPos
    rw [hline]; rfl
  rw [hpos]
  show Sim w c r A g' Rep (holding [v] (getMethod v m (do return (← importBound o c.env).getD true)) >>= fun p => callWith pos p.1 p.2 (backTo pos (starEach es c.env)) []) _
  refine sim_bind (sim_hold (sim_getMethod K rv)) fun g'' le' p k hp => ?_
  exact sim_callWith (few_M K hp) hs (ha g'') fun g3 le3 vs as ra => sim_methDo T C O hp ((rv.mono le').mono le3) ra
end
end Rk
end

section
open PySem PySem.W PySem.Calls PyProof.Rows PySem.Builtin
set_option maxRecDepth 100000
set_option maxHeartbeats 0
namespace Rk
section
variable {prog : Program} {w : World} {A : Around} {E : Value → Shared → Prop} {s : Shared} {R : Result → Shared → Prop} {C : Addr}
theorem codeC_entry {id : String} {args : Args} {b : Builtin} (hb : entryFor table id = some b)
    (h : wpC (model prog w) (A.under (.builtin id args)) (b args) (fun fin s' => match fin with | .done f => R (.ok f) s' | .again c' => (c'.quiet = true ∧ okCode c' = true) ∧ codeC (model prog w) A c' R s') (fun e s' => R (.error e) s') s) : codeC (model prog w) A (.builtin id args) R s := by
  refine codeC_of_tree ?_
  show wpC _ _ (match entryFor table id with | some b => b args | none => unsupported ((withoutEnding? id "#data").getD id)) _ _ s
  rw [hb]; exact h
theorem codeC_call_entry {id : String} {args : Args} {b : Builtin} (hq : (Code.builtin id args).quiet = true) (ho : badIds.contains id = false) (hb : entryFor table id = some b)
    (hc : ∀ (Q : Unit → Shared → Prop) (E : Value → Shared → Prop), Q () s → wpAny (model prog w) A.in1 (checkBuiltinCall id args) Q E s)
    (h : wpC (model prog w) (A.under (.builtin id args)) (b args) (fun fin s' => match fin with | .done f => R (.ok f) s' | .again c' => (c'.quiet = true ∧ okCode c' = true) ∧ codeC (model prog w) A c' R s') (fun e s' => R (.error e) s') s) : codeC (model prog w) A (.call (.builtin id) args) R s := by
  refine codeC_of_tree ?_
  show wpC _ A.in1 (do checkBuiltinCall id args; again (.builtin id args)) _ _ s
  exact wpC_leaf (hc _ _ (wpC_pure ⟨⟨hq, by show (!badIds.contains id) = true; rw [ho]; rfl⟩, codeC_entry hb h⟩))
theorem codeC_make {rest : List Value} {init : Value} (Y : Makes (model prog w) s.heap C) (hi : Looks (model prog w) s.heap (typeLookup (.ref C) "__init__") (some init))
    (hb : ∀ self, Looks (model prog w) s.heap (bindSpecial init self) (init, [self])) (hne : (some init != some (Value.builtin "object.__init__")) = true)
    (hq : wpC (model prog w) (A.under (.builtin "type.__call__" ⟨.ref C :: rest, []⟩)) (call init (.ref (s.heap.objs.size + 1) :: rest) []) (fun v s' => v = .none ∧ R (.ok (.ret (.ref (s.heap.objs.size + 1)))) s') (fun e s' => R (.error e) s') { s with heap := (s.heap.push emptyDict).push (instObj C s.heap.objs.size) }) :
    codeC (model prog w) A (.call (.ref C) ⟨rest, []⟩) R s := by
  have Y' := Y
  obtain ⟨⟨oc, od, cd, sl, hC, e1, e2, e4⟩, made, base, self, top, call, typ⟩ := Y
  refine codeC_of_tree ?_
  show wpC _ _ (callAny (.ref C) _) _ _ _
  have pre : ∀ (Q : Fin → Shared → Prop) (E : Value → Shared → Prop), Q (.again (.call (.builtin "type.__call__") ⟨.ref C :: rest, []⟩)) s → wpAny (model prog w) (A.under (.call (.ref C) ⟨rest, []⟩)) (callAny (.ref C) ⟨rest, []⟩) Q E s := fun Q E q => by
    refine nd_load hC ?_
    show wpAny _ _ (callAny.viaDunder (.ref C) _) _ _ _
    unfold callAny.viaDunder
    refine wpAny_bind (call.here ?_)
    dsimp only
    rw [tc_bind]
    refine wpAny_bind (wpAny_pure (wpAny_bind (wpAny_pure ?_)))
    exact wpAny_pure q
  refine wpC_any (pre _ _ ⟨⟨rfl, rfl⟩, ?_⟩)
  refine codeC_call_entry (Code.quiet_builtin _ (by decide +kernel)) (by decide +kernel) entry_typeCall (fun Q E q => check_slot tc_kind tc_split typ (tc_args _ _ _) q) ?_
  unfold Builtin.«type.__call__»
  have hm : Looks (model prog w) s.heap (mroOf (.ref C)) cd.mro := ((Looks.ld (part := none) hC).andThen .now).andThen .now
  show wpC _ _ (mroOf (.ref C) >>= fun m => _) _ _ _
  refine wpC_leaf (hm.here ?_)
  rw [e4]
  show wpC _ _ (Bind.madeBy (.ref C) >>= fun m => _) _ _ _
  refine wpC_leaf (made.here ?_)
  show wpC _ _ (pure (Value.builtin "object.__new__") >>= fun m => _) _ _ _
  refine wpC_bind (wpC_pure ?_)
  obtain ⟨h, g, d, t, os⟩ := s
  refine wpC_bind (wpC_holding (wpC_any (wpAny_call (new_K Y' hi (.inl hne) ?_))))
  have k : ∀ b o, h.get? b = some o → ((h.push emptyDict).push (instObj C h.objs.size)).get? b = some o := fun b o e => Heap.get?_push_of_some _ (Heap.get?_push_of_some _ e)
  have hx : ((h.push emptyDict).push (instObj C h.objs.size)).get? (h.objs.size + 1) = some (instObj C h.objs.size) := by
    have := Heap.get?_push_size (h.push emptyDict) (o := instObj C h.objs.size) rfl
    rwa [Heap.size_push] at this
  have t1 : Looks (model prog w) ((h.push emptyDict).push (instObj C h.objs.size)) (typeOf (.ref (h.objs.size + 1))) (.ref C) := (Looks.ld hx).andThen .now
  have s1 := self.keeps k
  have i1 := hi.keeps k
  have b1 := (hb (.ref (h.objs.size + 1))).keeps k
  have i0 : Looks (model prog w) ((h.push emptyDict).push (instObj C h.objs.size)) (isInstance (.ref (h.objs.size + 1)) (.ref C)) true := by
    unfold isInstance; exact t1.andThen s1
  have sp : Looks (model prog w) ((h.push emptyDict).push (instObj C h.objs.size)) (specialOf (.ref (h.objs.size + 1)) "__init__") (some init) := by
    unfold specialOf; exact t1.andThen i1
  refine wpC_leaf (i0.here ?_)
  show wpC _ _ (holding [.ref (h.objs.size + 1)] (callSpecial? (.ref (h.objs.size + 1)) "__init__" rest []) >>= fun r => _) _ _ _
  refine wpC_bind (wpC_holding ?_)
  unfold callSpecial?
  refine wpC_leaf (sp.here ?_)
  dsimp only
  refine wpC_holding (wpC_leaf (b1.here ?_))
  refine wpC_bind (wpC_mono hq (fun v s' hv => ?_) fun e s' he => he)
  obtain ⟨rfl, hv⟩ := hv
  exact wpC_pure (wpC_pure hv)
end
end Rk
end

section
open PySem PySem.W PySem.Calls PyProof.Rows PySem.Builtin
set_option maxRecDepth 100000
namespace Rk.BA
theorem mro : mroOf (.type "bytearray") = pure [.type "bytearray", .type "object"] := by rw [mroOf_type]; kernel_rfl
theorem lookup_new : typeLookup (.type "bytearray") "__new__" = pure (some (.builtin "bytearray.__new__")) := by rw [typeLookup_type, builtinLookup_eq_fast]; kernel_rfl
theorem lookup_init : typeLookup (.type "bytearray") "__init__" = pure (some (.builtin "bytearray.__init__")) := by rw [typeLookup_type, builtinLookup_eq_fast]; kernel_rfl
theorem slot_init : Slot "bytearray" "__init__" "bytearray.__init__" :=
  .of (owner := "bytearray") (n := "__init__") (by rw [typeLookup_type, builtinLookup_eq_fast]; kernel_rfl) (by decide +kernel) (by decide +kernel) (by decide +kernel)
    (by first | exact .inl (by decide +kernel) | exact .inr (by decide +kernel)) (by rw [isSubtype_type]; kernel_rfl)
theorem entry_init : entryFor table "bytearray.__init__" = some Builtin.«bytearray.__init__» := entryFor_of_tree (by kernel_rfl)
theorem args_init_1 (a : Value) : argsOk "bytearray.__init__" ⟨[a], []⟩ := by unfold argsOk; kernel_rfl
theorem args_init_2 (a b : Value) : argsOk "bytearray.__init__" ⟨[a, b], []⟩ := by unfold argsOk; kernel_rfl
theorem entry_new : entryFor table "bytearray.__new__" = some Builtin.«list.__new__» := entryFor_alias (id' := "list.__new__") (by kernel_rfl) rfl (by decide +kernel) (by kernel_rfl)
theorem plain_new : plainId "bytearray.__new__" = true := by decide +kernel
set_option maxRecDepth 1000000 in
set_option maxHeartbeats 4000000 in
theorem owner_new : ("bytearray.__new__".splitOn ".__new__").headD "" = "bytearray" := by simp +decide [String.splitOn, String.splitOnAux]
theorem called : TypeCalled "bytearray" "bytearray.__new__" "bytearray.__init__" :=
  ⟨by decide +kernel, by decide +kernel, ⟨_, _, mro⟩, madeBy_type mro lookup_new (by decide +kernel), by decide +kernel, by rw [isSubtype_type]; kernel_rfl, slot_init⟩
theorem typeCall_0 : checkTypeCall "bytearray" ⟨[], []⟩ = pure () := by kernel_rfl
theorem typeCall_1 (a : Value) : checkTypeCall "bytearray" ⟨[a], []⟩ = pure () := by kernel_rfl
theorem newCall_0 : checkBuiltinCall "bytearray.__new__" ⟨[.type "bytearray"], []⟩ = pure () := by kernel_rfl
theorem newCall_1 (a : Value) : checkBuiltinCall "bytearray.__new__" ⟨[.type "bytearray", a], []⟩ = pure () := by kernel_rfl
theorem bind_0 : Builtin.Bytes.bindOptional "bytearray.__init__" "bytearray" ["source", "encoding", "errors"] [] [] = pure [none, none, none] := by kernel_rfl
theorem bind_1 (v : Value) : Builtin.Bytes.bindOptional "bytearray.__init__" "bytearray" ["source", "encoding", "errors"] [v] [] = pure [some v, none, none] := by kernel_rfl
theorem bytes_no_index : typeLookup (.type "bytes") "__index__" = pure none := by rw [typeLookup_type, builtinLookup_eq_fast]; kernel_rfl
end Rk.BA
namespace Rk
section
variable {prog : Program} {w : World} {A : Around} {E : Value → Shared → Prop} {s : Shared} {R : Result → Shared → Prop}
theorem bar_code_new {args : List Value} {Q₁ : Value → Shared → Prop} (hc : checkBuiltinCall "bytearray.__new__" ⟨.type "bytearray" :: args, []⟩ = pure ())
    (h : Q₁ (.ref s.heap.objs.size) { s with heap := s.heap.push { cls := .type "bytearray", data := .bytearray #[] } }) :
    codeAny (model prog w) A (.call (.builtin "bytearray.__new__") ⟨.type "bytearray" :: args, []⟩) (wants Q₁ E) s := by
  refine codeAny_of_tree ?_
  show wpAny _ A.in1 (do checkBuiltinCall "bytearray.__new__" ⟨.type "bytearray" :: args, []⟩; again (.builtin "bytearray.__new__" ⟨.type "bytearray" :: args, []⟩)) _ _ s
  refine wpAny_bind (wpAny_of_eq hc (wpAny_pure ⟨plainId_quiet BA.plain_new _, codeAny_builtin_stack BA.entry_new rfl fun p st => ?_⟩))
  rw [Around.under_plainId BA.plain_new _]
  have hsub := bn_bar_sub
  have hown := BA.owner_new
  obtain ⟨hp, g, d, tk, os⟩ := s
  simp only [hown]
  wp_walk
  exact h
theorem bar_init_0 {a : Addr} {Q : Unit → Shared → Prop} (ho : s.heap.get? a = some { cls := .type "bytearray", data := .bytearray #[] }) (h : R (.ok (.ret .none)) { s with heap := s.heap.update a (Obj.mapBytearray fun _ => #[]) }) :
    codeC (model prog w) A (.call (.builtin "bytearray.__init__") ⟨[.ref a], []⟩) R s := by
  refine codeC_call_builtin BA.slot_init.plain (by decide +kernel) BA.entry_init (fun Q E q => BA.slot_init.check _ _ _ _ _ _ _ _ ⟨_, ho, rfl⟩ (BA.args_init_1 _) q) ?_
  unfold Builtin.«bytearray.__init__»
  refine wpC_leaf (ownRel_bar ho rfl ?_)
  refine wpC_ite_neg Bool.false_ne_true ?_
  refine wpC_leaf (wpAny_of_eq BA.bind_0 ?_)
  dsimp only
  refine wpC_leaf (wpAny_of_eq (a := ()) rfl ?_)
  refine wpC_leaf (wpAny_of_eq (a := ()) rfl ?_)
  refine wpC_bind (wpC_bind (wpC_exported ?_))
  show wpC _ _ (Bytes.exportsOf (.ref a) >>= fun n => pure (decide (n > 0))) _ _ _
  refine wpC_bind ?_
  unfold Bytes.exportsOf
  refine wpC_leaf (wpAny_load ho ?_)
  refine wpC_pure (wpC_pure ?_)
  refine wpC_ite_neg (by decide) ?_
  refine wpC_leaf (wpAny_write ho rfl (Nat.zero_le _) ?_)
  exact wpC_pure h
theorem bar_init_1 {a : Addr} {b : Array UInt8} {t : Tok} (ho : s.heap.get? a = some { cls := .type "bytearray", data := .bytearray #[] }) (hz : b.size ≤ sizeLine)
    (h : R (.ok (.ret .none)) { s with heap := (s.heap.update a (Obj.mapBytearray fun _ => #[])).update a (Obj.mapBytearray fun _ => b) }) :
    codeC (model prog w) A (.call (.builtin "bytearray.__init__") ⟨[.ref a, .bytes b t], []⟩) R s := by
  refine codeC_call_builtin BA.slot_init.plain (by decide +kernel) BA.entry_init (fun Q E q => BA.slot_init.check _ _ _ _ _ _ _ _ ⟨_, ho, rfl⟩ (BA.args_init_2 _ _) q) ?_
  unfold Builtin.«bytearray.__init__»
  refine wpC_leaf (ownRel_bar ho rfl ?_)
  refine wpC_ite_neg Bool.false_ne_true ?_
  refine wpC_leaf (wpAny_of_eq (BA.bind_1 _) ?_)
  dsimp only
  refine wpC_leaf (wpAny_of_eq (a := ()) rfl ?_)
  refine wpC_leaf (wpAny_of_eq (a := ()) rfl ?_)
  refine wpC_bind (wpC_bind (wpC_exported ?_))
  show wpC _ _ (Bytes.exportsOf (.ref a) >>= fun n => pure (decide (n > 0))) _ _ _
  refine wpC_bind ?_
  unfold Bytes.exportsOf
  refine wpC_leaf (wpAny_load ho ?_)
  refine wpC_pure (wpC_pure ?_)
  refine wpC_ite_neg (by decide) ?_
  have hn := Heap.get?_update_self (Obj.mapBytearray fun _ => (#[] : Array UInt8)) ho rfl
  refine wpC_leaf (wpAny_write ho rfl (Nat.zero_le _) ?_)
  refine wpC_leaf (wpAny_of_eq (a := (none : Option Str)) rfl ?_)
  refine wpC_ite_neg Bool.false_ne_true ?_
  refine wpC_leaf (wpAny_of_eq (a := ()) rfl ?_)
  refine wpC_leaf (wpAny_specialOf (typeIs_bytes _ b t) BA.bytes_no_index ?_)
  refine wpC_ite_neg Bool.false_ne_true ?_
  refine wpC_leaf (buffer_bytes ?_)
  show wpC _ _ (rule "bytearray.__init__.bytes-like" >>= fun _ => _) _ _ _
  refine wpC_bind (wpC_rule ?_)
  refine wpC_leaf (wpAny_write hn rfl hz ?_)
  exact wpC_pure h
theorem codeC_bar {args : List Value} (hct : checkTypeCall "bytearray" ⟨args, []⟩ = pure ()) (hcn : checkBuiltinCall "bytearray.__new__" ⟨.type "bytearray" :: args, []⟩ = pure ())
    (hq : ∀ (A : Around) (R' : Result → Shared → Prop), (∀ h', R (.ok (.ret (.ref s.heap.objs.size))) { s with heap := h' } → R' (.ok (.ret .none)) { s with heap := h' }) → codeC (model prog w) A (.call (.builtin "bytearray.__init__") ⟨.ref s.heap.objs.size :: args, []⟩) R' { s with heap := s.heap.push { cls := .type "bytearray", data := .bytearray #[] } }) :
    codeC (model prog w) A (.call (.type "bytearray") ⟨args, []⟩) R s := by
  refine codeC_of_tree ?_
  show wpC _ _ (callAny (.type "bytearray") _) _ _ _
  refine wpC_pure ⟨⟨Code.quiet_builtin _ (by decide +kernel), by show (!badIds.contains "type.__call__") = true; decide +kernel⟩, codeC_entry PySem.F.entry_type_call ?_⟩
  rw [Around.under_plain (weight_type_call_type "bytearray" args []) rfl]
  unfold Builtin.«type.__call__»
  dsimp only
  refine wpC_ite_neg (by rw [BA.called.notType]; exact Bool.false_ne_true) ?_
  refine wpC_ite_neg (by rw [BA.called.canCreate]; exact Bool.false_ne_true) ?_
  refine wpC_leaf (wpAny_of_eq hct ?_)
  refine wpC_leaf (wpAny_of_eq BA.mro ?_)
  refine wpC_ite_neg Bool.false_ne_true ?_
  refine wpC_leaf (wpAny_of_eq BA.called.made ?_)
  dsimp only
  refine wpC_bind (wpC_pure ?_)
  refine wpC_bind (wpC_holding (wpC_any (wpAny_call (codeAny_mono (bar_code_new (E := fun _ _ => False) (Q₁ := fun obj s₁ => obj = .ref s.heap.objs.size ∧ s₁ = { s with heap := s.heap.push { cls := .type "bytearray", data := .bytearray #[] } }) hcn ⟨rfl, rfl⟩) fun r s1 hr => ?_))))
  induction r using Except.casesOn with
  | error e => exact hr.elim
  | ok fl =>
    induction fl using Flow.casesOn with
    | ret obj =>
      obtain ⟨rfl, rfl⟩ := hr
      have hT : ({ s with heap := s.heap.push { cls := .type "bytearray", data := .bytearray #[] } } : Shared).TypeIs (.ref s.heap.objs.size) "bytearray" := ⟨_, Heap.get?_push_size _ rfl, rfl⟩
      refine wpC_leaf (wpAny_isInstance hT bn_bar_sub ?_)
      refine wpC_ite_neg Bool.false_ne_true ?_
      refine wpC_bind (wpC_holding ?_)
      unfold callSpecial?
      refine wpC_leaf (wpAny_specialOf hT BA.lookup_init ?_)
      dsimp only
      rw [BA.slot_init.bind]
      refine wpC_holding (wpC_bind (wpC_pure ?_))
      refine wpC_bind (wpC_call (hq _ _ fun h' hR => ?_))
      exact wpC_pure (wpC_pure hR)
    | _ => exact hr.elim
end
end Rk
end

section
open PySem PySem.W PySem.Calls PyProof.Rows PySem.Builtin
set_option maxRecDepth 100000
namespace Rk
section
variable {w : World} {c : Cx} {r : Str → Option X} {A : Around} {g : G} {α β γ δ : Type} {φ : Tab}
theorem Inv.made (C : CxOk c) {st : St} {h h' : Heap} {p : Addr × Addr} {o : O} (I : Inv c r st g h) (k : ∀ b ob, h.get? b = some ob → h'.get? b = some ob) (hn : h.get? p.2 = none) (n : ObjOk (g.grow p) h' p o) (ex : ∃ ob, h'.get? p.2 = some ob) :
    Inv c r { st with H := st.H ++ [o] } (g.grow p) h' ∧ Step c g (g.grow p) h h' ∧ Rep (g.grow p) (.ref p.1) (.ref st.H.length) := by
  refine ⟨I.grown C (g.le_grow p) (I.hp.grow k hn n ex) (fun b o e _ => ⟨o.slots, k _ _ e⟩), ⟨g.le_grow p, .of_keeps k, fun b m => ?_, fun b m q => ?_⟩, ?_⟩
  · rw [show muts (g.grow p) = muts g ++ [p.2] by simp [muts, G.grow]] at m
    rcases List.mem_append.mp m with m | m
    · exact .inl m
    · rw [List.mem_singleton.mp m]; exact .inr hn
  · rw [show muts (g.grow p) = muts g ++ [p.2] by simp [muts, G.grow]] at m
    rcases List.mem_append.mp m with m | m
    · exact I.hp.rx b m (List.mem_append_left _ q)
    · obtain ⟨ob, e⟩ := I.hp.xin b (List.mem_append_left _ q)
      rw [List.mem_singleton.mp m, hn] at e; exact nn e
  · exact .ref (d := p.2) (by rw [I.hp.len]; simp [G.grow])
theorem sim_bar0 (C : CxOk c) : Sim w c r A g Rep (call (.type "bytearray") [] []) (AM.bind (AM.alloc (.barr [])) fun i => AM.pure (.ref i)) := fun g₁ le st out e s Q E I P ok ex => by
  obtain rfl := Option.some.inj e
  refine wpC_call (codeC_bar BA.typeCall_0 BA.newCall_0 fun A' R' hR => bar_init_0 (Q := fun _ _ => True) (Heap.get?_push_size _ rfl) (hR _ ?_))
  have hn := Heap.get?_update_self (Obj.mapBytearray fun _ => (#[] : Array UInt8)) (Heap.get?_push_size s.heap (o := { cls := .type "bytearray", data := .bytearray #[] }) rfl) rfl
  obtain ⟨I', S', rr⟩ := I.made (p := (s.heap.objs.size, s.heap.objs.size)) (o := .barr []) C (h' := (s.heap.push { cls := .type "bytearray", data := .bytearray #[] }).update s.heap.objs.size (Obj.mapBytearray fun _ => #[])) (fun b ob q => by
    have : s.heap.objs.size ≠ b := fun z => Nat.lt_irrefl _ (z ▸ Heap.lt_size q)
    exact (Heap.get?_update_other _ _ this).trans (Heap.get?_push_of_some _ q)) (get?_size_none _) (.barr hn (by
      show g₁.Z _ = none
      cases e : g₁.Z s.heap.objs.size with
      | none => rfl
      | some o' => have := I.hp.zin _ o' e; rw [get?_size_none] at this; exact nn this)) ⟨_, hn⟩
  exact ok _ _ rfl _ _ s.toks _ S' I' rr
theorem sim_bar1 (C : CxOk c) {b : List UInt8} {t : Tok} (hz : b.length ≤ 16777216) : Sim w c r A g Rep (call (.type "bytearray") [.bytes b.toArray t] []) (AM.bind (AM.alloc (.barr b)) fun i => AM.pure (.ref i)) := fun g₁ le st out e s Q E I P ok ex => by
  obtain rfl := Option.some.inj e
  refine wpC_call (codeC_bar (BA.typeCall_1 _) (BA.newCall_1 _) fun A' R' hR => bar_init_1 (Heap.get?_push_size _ rfl) (by rw [sizeLine_eq]; simpa using hz) (hR _ ?_))
  have hn0 := Heap.get?_update_self (Obj.mapBytearray fun _ => (#[] : Array UInt8)) (Heap.get?_push_size s.heap (o := { cls := .type "bytearray", data := .bytearray #[] }) rfl) rfl
  have hn := Heap.get?_update_self (Obj.mapBytearray fun _ => b.toArray) hn0 rfl
  obtain ⟨I', S', rr⟩ := I.made (p := (s.heap.objs.size, s.heap.objs.size)) (o := .barr b) C (h' := ((s.heap.push { cls := .type "bytearray", data := .bytearray #[] }).update s.heap.objs.size (Obj.mapBytearray fun _ => #[])).update s.heap.objs.size (Obj.mapBytearray fun _ => b.toArray)) (fun b ob q => by
    have : s.heap.objs.size ≠ b := fun z => Nat.lt_irrefl _ (z ▸ Heap.lt_size q)
    exact (Heap.get?_update_other _ _ this).trans ((Heap.get?_update_other _ _ this).trans (Heap.get?_push_of_some _ q))) (get?_size_none _) (.barr hn (by
      show g₁.Z _ = none
      cases e : g₁.Z s.heap.objs.size with
      | none => rfl
      | some o' => have := I.hp.zin _ o' e; rw [get?_size_none] at this; exact nn this)) ⟨_, hn⟩
  exact ok _ _ rfl _ _ s.toks _ S' I' rr
theorem callV_c {φ : Tab} {a fi : Addr} {done : Bool} {as : List V} (hc : clsInit a = some (fi, done)) : callV φ (.ref a) as = AM.bind (frzAll as) fun us => AM.bind (AM.alloc (.inst a [])) fun i => AM.bind (useC φ fi (.ref i :: us)) fun v => madeV i done v := by
  unfold callV; dsimp only; rw [hc]
theorem callV_r {φ : Tab} {a : Addr} {as : List V} (hc : clsInit a = .none) : callV φ (.ref a) as = AM.bind (frzAll as) fun us => useC φ a us := by
  unfold callV; dsimp only; rw [hc]
theorem isinst_3 {φ : Tab} {v t u : V} {as : List V} {s : St} : callV φ (.builtin "isinstance") (v :: t :: u :: as) s = .none := by
  induction t using V.casesOn with
  | fn f => induction f using Value.casesOn <;> rfl
  | _ => rfl
theorem sim_callV {n : Nat} (T : TabOk w c.B n φ) (C : CxOk c) (O : AOk w c A n) {f : Value} {vs : List Value} {as : List V} (ra : RepL g vs as) : Sim w c r A g Rep (call f vs []) (callV φ f as) := by
  induction f using Value.casesOn with
  | ref a =>
    cases hc : clsInit a with
    | some q =>
      obtain ⟨fi, done⟩ := q
      rw [callV_c hc]
      exact sim_frz C ra fun g' le us rus => (T.cls a fi done hc c r A rfl C O g' vs us rus).sim
    | none =>
      rw [callV_r hc]
      exact sim_frz C ra fun g' le us rus => sim_use T C O rus
  | builtin id =>
    by_cases hid : id = "isinstance"
    · subst hid
      rcases as with _ | ⟨v, _ | ⟨t, _ | ⟨_, _⟩⟩⟩
      · exact sim_none fun _ => rfl
      · exact sim_none fun _ => rfl
      · induction t using V.casesOn with
        | fn f =>
          induction f using Value.casesOn with
          | type t =>
            obtain ⟨a0, a1, rfl, r0, r1⟩ := ra.two_inv
            obtain rfl := r1.fn_inv
            rw [show callV φ (.builtin "isinstance") [v, .fn (.type t)] = AM.look fun _ => (isInst v t).map .bool from rfl]
            refine sim_look C fun g1 le H s b hb I => ?_
            obtain ⟨q, hq, rfl⟩ := Option.map_eq_some_iff.mp hb
            exact leaf_isInst I (r0.mono le) hq
          | _ => exact sim_none fun _ => rfl
        | _ => exact sim_none fun _ => rfl
      · exact sim_none fun _ => isinst_3
    · rw [show callV φ (.builtin id) as = AM.look fun H => builtinV H id as from if_neg hid]
      exact sim_look C fun g1 le H s b hb I => leaf_builtin I O.hh (ra.mono le) hb
  | type id =>
    by_cases hid : id = "bytearray"
    · subst hid
      rcases as with _ | ⟨v, _ | ⟨_, _⟩⟩
      · obtain rfl := ra.nil_inv; exact sim_bar0 C
      · induction v using V.casesOn with
        | bytes b =>
          obtain ⟨a0, rfl, r0⟩ := ra.one_inv
          obtain ⟨t, rfl⟩ := r0.bytes_inv
          by_cases hz : b.length ≤ 16777216
          · rw [show callV φ (.type "bytearray") [.bytes b] = AM.bind (AM.alloc (.barr b)) fun i => AM.pure (.ref i) from if_pos hz]
            exact sim_bar1 C hz
          · rw [show callV φ (.type "bytearray") [.bytes b] = fun _ => .none from if_neg hz]
            exact sim_none fun _ => rfl
        | _ => exact sim_none fun _ => rfl
      · induction v using V.casesOn <;> exact sim_none fun _ => rfl
    · rw [show callV φ (.type id) as = AM.look fun H => typeV H id as from if_neg hid]
      exact sim_look C fun g1 le H s b hb I => leaf_type I O.hh (ra.mono le) hb
  | _ => exact sim_none fun _ => rfl
theorem se_call {n : Nat} (T : TabOk w c.B n φ) (C : CxOk c) (O : AOk w c A n) (K : KOk w c) (N : NameOk w c r) {f : Str} {v : Value} {es : List Expr} {xs : List X} {p pos : Pos} (hf : calleeOf' r f = some v) (hs : es.any isStar = false)
    (ha : ∀ g, Sim w c r A g RepL (spliced (backTo pos (starEach es c.env))) (evXs φ xs)) : SE w c r A φ (.Call (.Name f p) es [] pos) (.call v xs) := fun g => by
  obtain ⟨hd, hv, hc⟩ := calleeOf_k hf
  have hr : r f = some (.val (.fn v)) ∧ FewKeep w c v := ⟨hv, by
    induction v using Value.casesOn with
    | ref a =>
      have := callees_keep w.params
      rw [List.all_eq_true] at this
      exact few_K K (this a (List.contains_iff_mem.mp hc))
    | builtin id => exact few_builtin _
    | type id => exact few_type _
    | _ => exact ff hc⟩
  show Sim w c r A g Rep (eval (.Name f p) c.env >>= fun q => callWith pos q [] (backTo pos (starEach es c.env)) []) _
  simp only [evX_e6]
  rw [eval_Name c.env f p (notDebug hd)]
  refine sim_peek v (fun g1 le H s I Q E q => ?_) ?_
  · obtain ⟨cv, rv, h⟩ := N f _ hr.1 A g1 H s I
    obtain rfl := rv.fn_inv
    exact wpAny_bind (wpAny_standAt (h Q E (q s.toks)))
  · exact sim_callWith hr.2 hs (ha g) fun g' le vs as ra => sim_callV T C O ra
end
end Rk
end

section
set_option genSizeOf false
set_option genCtorIdx false
open PySem PySem.W PySem.Calls PyProof.Rows PySem.Builtin
set_option maxRecDepth 100000
namespace Rk
structure RsOk (c : Cx) (r : Str → Option X) : Prop where
  inj : ∀ x y i, r x = some (.loc i) → r y = some (.loc i) → x = y
  kind : ∀ x i, r x = some (.loc i) → c.env.kindOf x = some .local ∨ (c.env.kindOf x = some .cell ∧ ∃ a, c.env.cells.lookup x = some a ∧ a ∈ c.own)
  noClassdict : ∀ i, r (Str.ofString "__classdict__") ≠ some (.loc i)
  big : ∀ x i, r x = some (.loc i) → 100 ≤ i → c.env.kindOf x = some .cell
theorem ns_not_cell {h : Heap} {L a : Addr} {m : Str → Option Value} {o : Obj} {v : Option Value} (n : h.Ns L m) (e : h.get? a = some o) (d : o.data = .cell v) : a ≠ L := fun q => by
  obtain ⟨o', es, ep, e', d', _⟩ := n
  rw [q, e'] at e; obtain rfl := Option.some.inj e; rw [d] at d'; cases d'
section
variable {w : World} {c : Cx} {r : Str → Option X} {A : Around} {g : G} {α β γ δ : Type} {φ : Tab}
theorem HInv.own {B : Heap} {X : List Addr} {H : List O} {g : G} {h h' : Heap} {L : Addr} (I : HInv B X H g h) (hL : L ∈ X) (s : Heap.SameBut L h h') (ex : ∃ o, h'.get? L = some o) : HInv B X H g h' :=
  I.without (fun b o n e => (s.2 b (fun q => n (q ▸ hL))).trans e) fun b hb => by
    by_cases q : b = L
    · subst q; exact ex
    · obtain ⟨o, e⟩ := I.xin b hb; exact ⟨o, (s.2 b q).trans e⟩
theorem Step.own {c : Cx} {g : G} {h h' : Heap} {H : List O} {L : Addr} (I : HInv c.B c.X H g h) (hL : L ∈ c.own) (s : Heap.SameBut L h h') : Step c g g h h' :=
  ⟨.refl g, fun b o e n => ⟨o.slots, (s.2 b fun q => n (List.mem_append_left _ (q ▸ hL))).trans e, fun _ => rfl⟩, fun b m => .inl m, fun b m q => I.rx b m (List.mem_append_left _ q)⟩
theorem sim_setl (C : CxOk c) (RO : RsOk c r) {x : Str} {i : Nat} (hr : r x = some (.loc i)) {cv : Value} {v : V} (rv : Rep g cv v) : Sim w c r A g (fun _ _ _ => True) (storeName c.env x cv) (AM.setl i v) := fun g₁ le st out e s Q E I P ok ex => by
  obtain rfl := Option.some.inj e
  refine wpC_any ?_
  have rv1 := rv.mono le
  have frame : ∀ (h' : Heap) (L : Addr), L ∈ c.X → Heap.SameBut L s.heap h' → (∃ o, h'.get? L = some o ∧ ∀ vs, o.data ≠ .fields vs) → FrOk c.X h' c.frs := fun h' L hL hs ⟨o', e', nf⟩ e he => by
    obtain ⟨a, F, o, b, d, q, z⟩ := I.fr e he
    by_cases w : F = L
    · exact ⟨a, F, o', b, d, by rw [w]; exact e', nf⟩
    · exact ⟨a, F, o, b, d, (hs.2 F w).trans q, z⟩
  rcases RO.kind x i hr with hk | ⟨hk, a, ha, haown⟩
  · obtain ⟨m, hm⟩ := I.ns
    refine wpAny_storeName_local hk hm (fun h' hn hs => ?_) (by rw [C.fn]; rfl)
    have hL : c.env.locals ∈ c.X := List.mem_append_left _ C.lown
    obtain ⟨oL, es, ep, hoL, hdL, _⟩ := id hn
    have hp' := I.hp.own hL hs ⟨_, hoL⟩
    refine ok () _ rfl g₁ h' _ () (Step.own I.hp C.lown hs) ⟨hp', frame h' _ hL hs ⟨oL, hoL, fun vs q => by rw [hdL] at q; cases q⟩, fun y j v' hy hv' => ?_, ⟨_, hn⟩, fun y b e => ?_⟩ trivial
    · by_cases hji : j = i
      · subst hji
        have hyx := RO.inj y x j hy hr
        subst hyx
        have hv'' : some v = some v' := by simpa using hv'
        obtain rfl := Option.some.inj hv''
        exact ⟨cv, rv1, .inl ⟨hk, _, hn, by simp⟩⟩
      · have hv'' : st.σ j = some v' := by simpa [hji] using hv'
        have hne : y ≠ x := fun q => hji (by subst q; rw [hr] at hy; cases hy; rfl)
        obtain ⟨cv', rv', h⟩ := I.loc y j v' hy hv''
        refine ⟨cv', rv', h.imp (fun ⟨k, m', hm', e⟩ => ⟨k, _, hn, ?_⟩) fun ⟨k, b, o, hb, ho, hd⟩ => ⟨k, b, o, hb, (hs.2 b (ns_not_cell hm ho hd)).trans ho, hd⟩⟩
        rw [if_neg hne]
        have : m = m' := by
          obtain ⟨o1, e1, p1, q1, d1, k1, f1⟩ := hm
          obtain ⟨o2, e2, p2, q2, d2, k2, f2⟩ := hm'
          rw [q1] at q2; obtain rfl := Option.some.inj q2; rw [d1] at d2; cases d2
          funext z; rw [← f1 z, ← f2 z]
        rw [this]; exact e
    · obtain ⟨o, v', q, d⟩ := I.cel y b e
      exact ⟨o, v', (hs.2 b (ns_not_cell hm q d)).trans q, d⟩
  · obtain ⟨o, v0, ho, hd⟩ := I.cel x a ha
    obtain ⟨m, hm⟩ := I.ns
    refine wpAny_storeName_cell C.fn hk ha ⟨o, ho, hd⟩ fun h' hv hs => ?_
    obtain ⟨o', ho', hd'⟩ := hv
    have hL : a ∈ c.X := List.mem_append_left _ haown
    have hp' := I.hp.own hL hs ⟨_, ho'⟩
    have hnL : c.env.locals ≠ a := Ne.symm (ns_not_cell hm ho hd)
    refine ok () _ rfl g₁ h' _ () (Step.own I.hp haown hs) ⟨hp', frame h' _ hL hs ⟨o', ho', fun vs q => by rw [hd'] at q; cases q⟩, fun y j v' hy hv' => ?_, ⟨m, hm.sameBut hs hnL⟩, fun y b e => ?_⟩ trivial
    · by_cases hji : j = i
      · subst hji
        have hyx := RO.inj y x j hy hr
        subst hyx
        have hv'' : some v = some v' := by simpa using hv'
        obtain rfl := Option.some.inj hv''
        exact ⟨cv, rv1, .inr ⟨.inl hk, a, o', ha, ho', hd'⟩⟩
      · have hv'' : st.σ j = some v' := by simpa [hji] using hv'
        have hne : y ≠ x := fun q => hji (by subst q; rw [hr] at hy; cases hy; rfl)
        obtain ⟨cv', rv', h⟩ := I.loc y j v' hy hv''
        refine ⟨cv', rv', h.imp (fun ⟨k, m', hm', e⟩ => ⟨k, m', hm'.sameBut hs hnL, e⟩) fun ⟨k, b, o2, hb, ho2, hd2⟩ => ⟨k, b, o2, hb, (hs.2 b fun q => ?_).trans ho2, hd2⟩⟩
        subst q; exact hne (C.inj y x b hb ha)
    · by_cases q : b = a
      · subst q; exact ⟨o', _, ho', hd'⟩
      · obtain ⟨o2, v', q2, d⟩ := I.cel y b e
        exact ⟨o2, v', (hs.2 b q).trans q2, d⟩
end
end Rk
end

section
open PySem PySem.W PySem.Calls PyProof.Rows PySem.Builtin
set_option maxRecDepth 100000
namespace Rk
noncomputable def FRep (g : G) (fl : Flow) (o : Option V) : Prop := match o with
  | .none => fl = .next
  | some v => ∃ cv, fl = .ret cv ∧ Rep g cv v
section
variable {w : World} {c : Cx} {r : Str → Option X} {A : Around} {g : G} {α β γ δ : Type} {φ : Tab} {k : Nat}
noncomputable abbrev SY (w : World) (c : Cx) (r : Str → Option X) (A : Around) (φ : Tab) (k : Nat) (st : Stmt) (y : Y) : Prop := ∀ g, Sim w c r A g FRep (exec st c.env) (evY φ k y)
theorem not_inter (C : CxOk c) : interactive c.env = false := by unfold interactive; rw [C.fn]; rfl
theorem no_swap {e : Expr} (h : isComp e = false) (t : Option Expr) (l : Nat) (env : Env) : swapsWith e t l env = pure false := by
  induction e using Expr.casesOn <;> first | rfl | cases h
theorem sy_expr (C : CxOk c) {e : Expr} {x : X} {pos} (h : isComp e = false) (he : SE w c r A φ e x) : SY w c r A φ k (.Expr e pos) (.expr x) := fun g => by
  rw [exec_Expr c.env e pos (not_inter C) (no_swap h _ _ _)]
  simp -iota only [evY_e0]
  refine sim_at (sim_bind (he g) fun g' le v u rv => ?_)
  induction u using V.casesOn with
  | none => obtain rfl := rv.none_inv; rw [dropValue_plain (fun a q => by cases q)]; exact sim_pure fun _ _ => rfl
  | _ => exact sim_none fun _ => rfl
theorem sy_ret {e : Expr} {x : X} {pos} (he : SE w c r A φ e x) : SY w c r A φ k (.Return (some e) pos) (.ret x) := fun g => by
  rw [exec_Return_some]
  simp -iota only [evY_e1]
  exact sim_at (sim_bind (he g) fun g' le v u rv => sim_pure fun _ le' => ⟨v, rfl, rv.mono le'⟩)
theorem sim_bindName (C : CxOk c) (RO : RsOk c r) {x : Str} {i : Nat} (hr : r x = some (.loc i)) {cv : Value} {v : V} (rv : Rep g cv v) : Sim w c r A g (fun _ _ _ => True) (bindName c.env x cv) (AM.setl i v) := fun g₁ le st out e s Q E I P ok ex => by
  unfold bindName
  refine wpC_bind (wpC_holding (wpC_point ?_))
  exact wpC_bind (sim_setl C RO hr rv g₁ le st out e s _ E I P (fun b st' eo g₂ h₂ tk x S I₂ rx => wpC_point (ok b st' eo g₂ h₂ tk x S I₂ rx)) ex)
theorem sy_set (C : CxOk c) (RO : RsOk c r) {x : Str} {i : Nat} (hr : r x = some (.loc i)) {e : Expr} {y : X} {p pos} (h : isComp e = false) (he : SE w c r A φ e y) : SY w c r A φ k (.Assign [.Name x p] e pos) (.set i y) := fun g => by
  rw [exec_Assign_Name c.env x p e pos (no_swap h _ _ _)]
  simp -iota only [evY_e2]
  exact sim_at (sim_bind (he g) fun g' le v u rv => sim_at (sim_bind (sim_bindName C RO hr rv) fun _ _ _ _ _ => sim_pure fun _ _ => rfl))
theorem sim_newl (C : CxOk c) {vs : List Value} {as : List V} (ra : RepL g vs as) (hz : as.length ≤ 1000000) : Sim w c r A g (fun g a j => Rep g a (.ref j)) (newList vs) (AM.alloc (.list as)) := fun g₁ le st out e s Q E I P ok ex => by
  obtain rfl := Option.some.inj e
  have hsz : vs.toArray.size ≤ sizeLine := by rw [List.size_toArray, ra.length, sizeLine_eq]; lia
  obtain ⟨I', S', rr⟩ := I.made (p := (s.heap.objs.size, s.heap.objs.size)) (o := .list as) C (h' := s.heap.push { cls := .type "list", data := .seq vs.toArray }) (keeps_push _ _) (get?_size_none _) (.list (Heap.get?_push_size _ rfl) ((ra.mono le).mono (g₁.le_grow _)) (by
      show g₁.Z _ = none
      cases e : g₁.Z s.heap.objs.size with
      | none => rfl
      | some o' => have := I.hp.zin _ o' e; rw [get?_size_none] at this; exact nn this)) ⟨_, Heap.get?_push_size _ rfl⟩
  exact wpC_any (wpAny_newObj_type (ok _ _ rfl _ _ s.toks _ S' I' rr) hsz)
theorem sy_newl (C : CxOk c) (RO : RsOk c r) {x : Str} {i : Nat} (hr : r x = some (.loc i)) {es : List Expr} {xs : List X} {p q pos} (ha : ∀ g, Sim w c r A g RepL (spliced (backTo q (starEach es c.env))) (evXs φ xs)) : SY w c r A φ k (.Assign [.Name x p] (.List es q) pos) (.newl i xs) := fun g => by
  rw [exec_Assign_Name c.env x p (.List es q) pos rfl]
  simp -iota only [evY_e3]
  show Sim w c r A g FRep (standAt pos >>= fun _ => (standAt q >>= fun _ => spliced (backTo q (starEach es c.env)) >>= fun vs => newList vs) >>= fun v => standAt p >>= fun _ => bindName c.env x v >>= fun _ => pure .next) _
  simp -iota only [bind_assoc]
  refine sim_at (sim_at (sim_bind (ha g) fun g' le vs as ra => ?_))
  split
  · rename_i hz
    exact sim_bind (sim_newl C ra hz) fun g'' le' a j ra => sim_at (sim_bind (sim_bindName C RO hr ra) fun _ _ _ _ _ => sim_pure fun _ _ => rfl)
  · exact sim_none fun _ => rfl
theorem sim_inOrder (C : CxOk c) (RO : RsOk c r) {es : List Expr} {is : List Nat} (hn : mapO (nameIx r) es = some is) : ∀ {g : G} {vs : List Value} {as : List V}, RepL g vs as → Sim w c r A g (fun _ _ _ => True) (assignInOrder ((assignEach es c.env).map (·.2)) vs) (setAll is as) := by
  induction es generalizing is with
  | nil =>
    intro g vs as ra
    obtain rfl := Option.some.inj hn
    induction vs using List.casesOn with
    | nil => obtain rfl := ra.nil_inv'; exact sim_pure fun _ _ => trivial
    | cons _ _ => obtain ⟨_, _, rfl, _, _⟩ := ra.cons_inv'; exact sim_none fun _ => rfl
  | cons e es ih =>
    intro g vs as ra
    obtain ⟨i, is', h1, h2, rfl⟩ := mapO_c hn
    obtain ⟨x, p, rfl, hr⟩ := nameIx_k h1
    induction vs using List.casesOn with
    | nil => obtain rfl := ra.nil_inv'; exact sim_none fun _ => rfl
    | cons v vs =>
      obtain ⟨a, as', rfl, r0, r1⟩ := ra.cons_inv'
      show Sim w c r A g _ (assignInOrder (assign (.Name x p) c.env :: (assignEach es c.env).map (·.2)) (v :: vs)) _
      rw [setAll_e1, show assignInOrder (assign (.Name x p) c.env :: (assignEach es c.env).map (·.2)) (v :: vs) = (do holding vs (assign (.Name x p) c.env v); assignInOrder ((assignEach es c.env).map (·.2)) vs) from rfl]
      have one : Sim w c r A g (fun _ _ _ => True) (standAt p >>= fun _ => bindName c.env x v) (AM.setl i a) := sim_at (sim_bindName C RO hr r0)
      exact sim_bind (R := fun _ _ _ => True) (sim_hold one) fun g' le _ _ _ => ih h2 (r1.mono le)
theorem assignEach_len {es : List Expr} {env : Env} (hs : es.any isStar = false) : (assignEach es env).length = es.length ∧ (assignEach es env).findIdx? (·.1) = none := by
  induction es with
  | nil => exact ⟨rfl, rfl⟩
  | cons e es ih =>
    simp -iota only [List.any_cons, Bool.or_eq_false_iff] at hs
    obtain ⟨h1, h2⟩ := ih hs.2
    have hst : assignEach (e :: es) env = (false, assign e env) :: assignEach es env := by
      induction e using Expr.casesOn <;> first | rfl | exact tf hs.1
    rw [hst]
    exact ⟨by simp -iota [h1], by simp -iota [List.findIdx?_cons, h2]⟩
theorem mapO_len {α β : Type} {f : α → Option β} : ∀ {l : List α} {m : List β}, mapO f l = some m → l.length = m.length
  | [], m, e => by obtain rfl := Option.some.inj e; rfl
  | a :: l, m, e => by
    obtain ⟨b, bs, h1, h, rfl⟩ := mapO_c e
    simp -iota [mapO_len h]
theorem setAll_len : ∀ {is : List Nat} {as : List V} {st out}, setAll is as st = some out → is.length = as.length
  | [], [], _, _, _ => rfl
  | i :: is, a :: as, st, out, e => by
    simp -iota only [setAll_e1, AM.bind, AM.setl] at e
    simp -iota [setAll_len e]
  | [], _ :: _, _, _, e => by exact nn e
  | _ :: _, [], _, _, e => by exact nn e
theorem sim_unpack {n : Nat} (C : CxOk c) (O : AOk w c A n) (RO : RsOk c r) {es : List Expr} {is : List Nat} {q : Pos} {kk : Nat} (hs : es.any isStar = false) (hn : mapO (nameIx r) es = some is) {v : Value} {as : List V} (rv : Rep g v (.tuple as)) :
    Sim w c r A g (fun _ _ _ => True) (assign (.Tuple es kk q) c.env v) (setAll is as) := by
  show Sim w c r A g _ (standAt q >>= fun _ => unpack v (assignEach es c.env)) _
  refine sim_at fun g₁ le st out e s Q E I P ok ex => ?_
  obtain ⟨p, it, rfl, ht, rl⟩ := tuple_rep I.hp (rv.mono le)
  have hl := setAll_len e
  have h1 := assignEach_len (env := c.env) hs
  have h2 := mapO_len hn
  have h3 := rl.length
  simp -iota only [Array.length_toList] at h3
  unfold unpack
  rw [h1.2, h1.1, show es.length = it.size by lia]
  refine wpC_leaf (wpAny_holding (unpackItems_tuple O.hh ht fun h' hx => ?_))
  have kp : ∀ b o, s.heap.get? b = some o → h'.get? b = some o := fun b o e => hx b o (fun q => by rw [q, get?_size_none] at e; exact nn e) e
  have I' : Inv c r st g₁ h' := I.grown C (.refl g₁) (I.hp.keeps kp) fun b o e _ => ⟨o.slots, kp b o e⟩
  have S1 := Step.of_keeps I.hp (.refl g₁) rfl kp
  exact sim_inOrder C RO hn rl g₁ (.refl _) st out e { s with heap := h' } Q E I' P (fun b st' eo g₂ h₂ tk x S I₂ rx => ok b st' eo g₂ h₂ tk x (S1.trans S) I₂ rx) fun kd st' eo g₂ hr h₂ tk x S I₂ F => ex kd st' eo g₂ hr h₂ tk x (S1.trans S) I₂ F
theorem sy_unp {n : Nat} (C : CxOk c) (O : AOk w c A n) (RO : RsOk c r) {es : List Expr} {is : List Nat} {q pos : Pos} {kk : Nat} {e : Expr} {y : X} (hs : es.any isStar = false) (ht : isTup e = false) (hc : isComp e = false) (hn : mapO (nameIx r) es = some is) (he : SE w c r A φ e y) :
    SY w c r A φ k (.Assign [.Tuple es kk q] e pos) (.unp is y) := fun g => by
  rw [exec_Assign]
  rw [show swapsWithSole [.Tuple es kk q] e pos.line c.env = pure false from no_swap hc (some (.Tuple es kk q)) pos.line c.env]
  have hw : swappedStores [.Tuple es kk q] e c.env = pure none := by induction e using Expr.casesOn <;> first | rfl | cases ht
  rw [hw]
  simp -iota only [evY_e4]
  show Sim w c r A g FRep (standAt pos >>= fun _ => eval e c.env >>= fun v => assign (.Tuple es kk q) c.env v >>= fun _ => pure .next) _
  refine sim_at (sim_bind (he g) fun g' le v u rv => ?_)
  split
  · split
    · exact sim_bind (sim_unpack C O RO hs hn rv) fun _ _ _ _ _ => sim_pure fun _ _ => rfl
    · exact sim_none fun _ => rfl
  · exact sim_none fun _ => rfl
theorem sy_seta (C : CxOk c) (K : KOk w c) {o e : Expr} {x y : X} {a : Str} {q pos : Pos} (hc : isComp e = false) (ho : SE w c r A φ o x) (he : SE w c r A φ e y) : SY w c r A φ k (.Assign [.Attribute o a q] e pos) (.seta x a y) := fun g => by
  rw [exec_Assign]
  rw [show swapsWithSole [.Attribute o a q] e pos.line c.env = pure false from no_swap hc (some (.Attribute o a q)) pos.line c.env]
  have hw : swappedStores [.Attribute o a q] e c.env = pure none := by induction e using Expr.casesOn <;> rfl
  rw [hw]
  simp -iota only [evY_e5]
  show Sim w c r A g FRep (standAt pos >>= fun _ => eval e c.env >>= fun v => (holding [v] (eval o c.env) >>= fun ov => standAt q.atName >>= fun _ => holding [v, ov] (setAttr ov a v) >>= fun _ => release [v, ov] []) >>= fun _ => pure .next) _
  simp -iota only [bind_assoc]
  refine sim_at (sim_bind (he g) fun g' le v u rv => sim_bind (sim_hold (ho g')) fun g'' le' ov ou ro => sim_at (sim_bind (sim_hold (sim_seta C K ro (rv.mono le'))) fun _ _ _ _ _ => sim_release (sim_pure fun _ _ => rfl)))
theorem sy_seti (C : CxOk c) {o i e : Expr} {x j y : X} {q pos : Pos} (hc : isComp e = false) (hsl : isSlice i = false) (ho : SE w c r A φ o x) (hi : SE w c r A φ i j) (he : SE w c r A φ e y) : SY w c r A φ k (.Assign [.Subscript o i q] e pos) (.seti x j y) := fun g => by
  rw [exec_Assign]
  rw [show swapsWithSole [.Subscript o i q] e pos.line c.env = pure false from no_swap hc (some (.Subscript o i q)) pos.line c.env]
  have hw : swappedStores [.Subscript o i q] e c.env = pure none := by induction e using Expr.casesOn <;> rfl
  rw [hw]
  simp -iota only [evY_e6]
  have hrel : ∃ f : Value → Value → Value → List Value, ∀ v, assign (.Subscript o i q) c.env v = (holding [v] (eval o c.env) >>= fun ov => holding [v, ov] (eval i c.env) >>= fun iv => standAt q >>= fun _ => holding [v, ov, iv] (setItem ov iv v) >>= fun _ => release (f v ov iv) []) := ⟨_, fun v => rfl⟩
  obtain ⟨f, hf⟩ := hrel
  show Sim w c r A g FRep (standAt pos >>= fun _ => eval e c.env >>= fun v => assign (.Subscript o i q) c.env v >>= fun _ => pure .next) _
  simp -iota only [hf]
  simp -iota only [bind_assoc]
  refine sim_at (sim_bind (he g) fun g' le v u rv => sim_bind (sim_hold (ho g')) fun g'' le' ov ou ro => sim_bind (sim_hold (hi g'')) fun g3 le3 iv iu ri => sim_at (sim_bind (sim_hold (sim_seti C (ro.mono le3) ri ((rv.mono le').mono le3))) fun _ _ _ _ _ => sim_release (sim_pure fun _ _ => rfl)))
theorem leaf_aug {H : List O} {s : Shared} (I : HInv c.B c.X H g s.heap) {op : Operator} {a b : Value} {x y v : V} (ha : Rep g a x) (hb : Rep g b y) (e : augV op x y = some v) : Leaf w c A H g s (inplaceOp op a b) v := by
  induction x using V.casesOn with
  | int i =>
    induction y using V.casesOn with
    | int j =>
      obtain ⟨t, rfl⟩ := ha.int_inv
      obtain ⟨u, rfl⟩ := hb.int_inv
      induction op using Operator.casesOn with
      | Add => obtain rfl := Option.some.inj e; exact Leaf.int I fun Q E q => PyProof.Rows.iadd_int (q _ _)
      | BitOr => obtain rfl := Option.some.inj e; exact Leaf.int I fun Q E q => PyProof.Rows.ior_int (q _ _)
      | RShift =>
        obtain ⟨hz, e⟩ := i2 (show (if 0 ≤ j then some (V.int (i.fdiv (2 ^ j.toNat))) else .none) = some v from e)
        obtain rfl := Option.some.inj e; exact Leaf.int I fun Q E q => PyProof.Rows.irshift_int hz (q _ _)
      | _ => exact nn e
    | _ => exact nn e
  | _ => exact nn e
theorem sy_aug (C : CxOk c) (RO : RsOk c r) {x : Str} {i : Nat} (hr : r x = some (.loc i)) {op : Operator} {e : Expr} {y : X} {p pos : Pos} (he : SE w c r A φ e y) : SY w c r A φ k (.AugAssign (.Name x p) op e pos) (.aug i op y) := fun g => by
  have hn : x ≠ Str.ofString "__classdict__" := fun q => RO.noClassdict i (q ▸ hr)
  rw [exec_AugAssign_Name]
  simp -iota only [evY_e7]
  refine sim_at (sim_bind (sim_loadLoc C hr hn) fun g' le v u rv => sim_bind (sim_hold (he g')) fun g'' le' v' u' rv' => sim_at (sim_bind (sim_operate (sim_look C fun g3 le3 H s b hb I => leaf_aug I ((rv.mono le').mono le3) (rv'.mono le3) hb)) fun g3 le3 nv nu rn => sim_at (sim_bind (sim_bindName C RO hr rn) fun _ _ _ _ _ => sim_pure fun _ _ => rfl)))
theorem sim_attrV (C : CxOk c) (K : KOk w c) {v : Value} {x : V} {a : Str} {b : Bool} (rv : Rep g v x) : Sim w c r A g Rep (getAttr v a b) (attrV x a) := by
  unfold attrV
  refine sim_look C fun g3 le3 H s b hb I => ?_
  split at hb
  · rename_i C' at_ hi
    split at hb
    · rename_i hc
      split at hb
      · exact nn hb
      · rename_i z
        exact leaf_attr I K (rv.mono le3) hi hc hb (fun f q => z f (by rw [hb, q]))
    · exact nn hb
  · exact nn hb
theorem sy_auga (C : CxOk c) (K : KOk w c) {o e : Expr} {x y : X} {a : Str} {op : Operator} {q pos : Pos} (ho : SE w c r A φ o x) (he : SE w c r A φ e y) : SY w c r A φ k (.AugAssign (.Attribute o a q) op e pos) (.auga x a op y) := fun g => by
  show Sim w c r A g FRep (standAt pos >>= fun _ => eval o c.env >>= fun ov => holding [ov] (standAt q.atName >>= fun _ => getAttr ov a true >>= fun old => holding [old] (eval e c.env) >>= fun v => standAt pos >>= fun _ => operate [old, v] (inplaceOp op old v)) >>= fun new =>
    standAt q.atName >>= fun _ => holding [new, ov] (setAttr ov a new) >>= fun _ => release [new, ov] [] >>= fun _ => pure .next) _
  simp -iota only [evY_e8]
  have e1 : ∀ (x : V), (AM.bind (attrV x a) fun u => AM.bind (evX φ y) fun b => AM.bind (AM.look fun _ => augV op u b) fun v => AM.bind (setaV x a v) fun _ => AM.pure (.none : Option V)) =
      AM.bind (AM.bind (attrV x a) fun u => AM.bind (evX φ y) fun b => AM.look fun _ => augV op u b) fun v => AM.bind (setaV x a v) fun _ => AM.pure .none := fun x => by simp -iota only [AM.bind_assoc]
  simp -iota only [e1]
  refine sim_at (sim_bind (ho g) fun g' le ov ou ro => sim_bind (sim_hold (sim_at (sim_bind (sim_attrV C K ro) fun g'' le' v u rv => sim_bind (sim_hold (he g'')) fun g3 le3 v' u' rv' => sim_at (sim_operate (sim_look C fun g4 le4 H s b hb I => leaf_aug I ((rv.mono le3).mono le4) (rv'.mono le4) hb))))) fun g5 le5 nv nu rn => sim_at (sim_bind (sim_hold (sim_seta C K (ro.mono le5) rn)) fun _ _ _ _ _ => sim_release (sim_pure fun _ _ => rfl)))
theorem sim_execs {ss : List Stmt} {ys : List Y} (hl : ss.length = ys.length) (h : ∀ (i : Nat) (s : Stmt) (y : Y), ss[i]? = some s → ys[i]? = some y → SY w c r A φ k s y) : ∀ g, Sim w c r A g FRep (execs ss c.env) (evYs φ k ys) := by
  induction ss generalizing ys with
  | nil =>
    induction ys using List.casesOn with
    | nil => intro g; simp -iota only [evYs_e0]; exact sim_pure fun _ _ => rfl
    | cons _ _ => cases hl
  | cons s ss ih =>
    induction ys using List.casesOn with
    | nil => cases hl
    | cons y ys =>
      intro g
      rw [execs_cons]
      simp -iota only [evYs_e1]
      refine sim_bind (h 0 s y rfl rfl g) fun g' le fl o fr => ?_
      induction o using Option.casesOn with
      | none => cases fr; exact ih (by simpa using hl) (fun i s y hs hy => h (i + 1) s y hs hy) g'
      | some v => obtain ⟨cv, rfl, rv⟩ := fr; exact sim_pure fun _ le' => ⟨cv, rfl, rv.mono le'⟩
theorem sy_if {t : Expr} {tt : T} {b e : List Stmt} {yb ye : List Y} {pos : Pos} (ht : ST w c r A φ t tt) (hb : ∀ g, Sim w c r A g FRep (execs b c.env) (evYs φ k yb)) (he : ∀ g, Sim w c r A g FRep (execs e c.env) (evYs φ k ye)) : SY w c r A φ k (.If t b e pos) (.ifs tt yb ye) := fun g => by
  rw [exec_If]
  simp -iota only [evY_e9]
  refine sim_at (sim_bind (ht g) fun g' le b b' hb' => ?_)
  subst hb'
  induction b using Bool.casesOn
  · exact he g'
  · exact hb g'
end
end Rk
end

section
open PySem PySem.W PySem.Calls PyProof.Rows PySem.Builtin
set_option maxRecDepth 100000
namespace Rk
section
variable {w : World} {c : Cx} {r : Str → Option X} {A : Around} {g : G} {α β γ δ : Type} {φ : Tab} {k : Nat}
noncomputable abbrev LoopR (w : World) (c : Cx) (A : Around) (Q : Flow → Shared → Prop) (E : Value → Shared → Prop) : Result → Shared → Prop := fun rr s' => match rr with
  | .ok f => Q f s'
  | .error e => cameBackBy (MM w) A c.env E e s'
theorem loop_raise {E : Value → Shared → Prop} {s : Shared} {t : Sem Fin} {Q : Fin → Shared → Prop} (P : PassesOwn (MM w) A c.env E) (h : wpC (MM w) A t Q E s) :
    wpC (MM w) A (t.onRaise fun x => do noteFrame x c.env; theTreesLotGoes x) Q (fun e s' => cameBackBy (MM w) A c.env E e s') s :=
  wpC_onRaise (wpC_mono h (fun _ _ x => x) fun e s' he => wpC_any (wpAny_bind (wpAny_mono (P e s' he) (fun _ _ h => wpAny_theTreesLotGoes h) fun _ _ h => h)))
theorem wpC_runOwn {cd : Code} {Q : Flow → Shared → Prop} {E : Value → Shared → Prop} {s : Shared} (ok : okCode cd = true) (h : codeC (MM w) A cd (LoopR w c A Q E) s) : wpC (MM w) A (runOwn cd c.env none) Q E s := by
  unfold runOwn
  refine wpC_onRaise (wpC_run ok ?_ fun q => nomatch q)
  have hA : A.mark none = A := by induction A using Around.casesOn; rfl
  rw [hA]
  exact codeC_mono h fun rr s' hr => by
    induction rr using Except.casesOn with
    | ok f => exact hr
    | error e => exact wpC_any hr
theorem while_code {test : Expr} {t : T} {body : List Stmt} {yb : List Y} (ht : ST w c r A φ test t) (hb : ∀ g, Sim w c r A g FRep (execs body c.env) (evYs φ k yb)) :
    ∀ (n : Nat) (g₁ : G) (st : St) out, whileV (evT φ t) (evYs φ k yb) n st = some out → ∀ (s : Shared) (Q : Flow → Shared → Prop) (E : Value → Shared → Prop), Inv c r st g₁ s.heap → PassesOwn (MM w) A c.env E →
    OkC c r g₁ s.heap s FRep out Q →
    ExC c r g₁ s.heap s out E →
    codeC (MM w) A (.whileLoop test body [] c.env) (LoopR w c A Q E) s := by
  intro n
  induction n with
  | zero => intro g₁ st out e; exact nn e
  | succ n ih =>
    intro g₁ st out e s Q E I P ok ex
    refine codeC_of_tree ?_
    have hA : A.under (.whileLoop test body [] c.env) = A := Around.under_of_weight rfl
    rw [hA]
    show wpC _ A ((whileTurn test body [] c.env).onRaise (fun x => do noteFrame x c.env; theTreesLotGoes x)) _ _ s
    refine loop_raise P ?_
    unfold whileTurn
    simp -iota only [whileV_e1, AM.bind] at e
    cases q : evT φ t st with
    | none => rw [q] at e; exact nn e
    | some o =>
      rw [q] at e
      refine wpC_bind (ht g₁ g₁ (.refl _) st o q s _ E I P (fun b st' eo g₂ h₂ tk x S I₂ rx => ?_) fun kd st' eo g₂ hr h₂ tk x S I₂ F => ?_)
      · subst eo
        subst rx
        simp only at e
        induction x using Bool.casesOn with
        | false =>
          simp -iota only [Bool.false_eq_true, if_false] at e ⊢
          obtain rfl := Option.some.inj e
          refine wpC_bind ?_
          rw [execs_nil]
          exact wpC_pure (wpC_pure (ok _ _ rfl g₂ h₂ tk .next S I₂ rfl))
        | true =>
          simp -iota only [if_true] at e ⊢
          unfold AM.bind at e
          cases q2 : evYs φ k yb st' with
          | none => rw [q2] at e; exact nn e
          | some o2 =>
            rw [q2] at e
            refine wpC_bind (hb g₂ g₂ (.refl _) st' o2 q2 { s with heap := h₂, toks := tk } _ E I₂ P (fun f st'' eo g₃ h₃ tk' fl S' I₃ fr => ?_) fun kd st'' eo g₃ hr h₃ tk' y S' I₃ F => ?_)
            · subst eo
              simp only at e
              induction f using Option.casesOn with
              | none =>
                cases fr
                simp only at e
                refine wpC_pure ⟨⟨rfl, rfl⟩, ih g₃ st'' out e { s with heap := h₃, toks := tk' } Q E I₃ P (fun b' st3 eo' g₄ h₄ tk'' a S'' I₄ ra => ?_) fun kd st3 eo' g₄ hr h₄ tk'' y S'' I₄ F => ?_⟩
                · exact ok b' st3 eo' g₄ h₄ tk'' a ((S.trans S').trans S'') I₄ ra
                · exact ex kd st3 eo' g₄ hr h₄ tk'' y ((S.trans S').trans S'') I₄ F
              | some v =>
                obtain ⟨cv, rfl, rv⟩ := fr
                obtain rfl := Option.some.inj e
                exact wpC_pure (ok _ _ rfl g₃ h₃ tk' _ (S.trans S') I₃ ⟨cv, rfl, rv⟩)
            · subst eo
              obtain rfl := Option.some.inj e
              exact ex kd st'' rfl g₃ hr h₃ tk' y (S.trans S') I₃ F
      · subst eo
        obtain rfl := Option.some.inj e
        exact ex kd st' rfl g₂ hr h₂ tk x S I₂ F
theorem sy_while {test : Expr} {t : T} {body : List Stmt} {yb : List Y} {pos : Pos} (ht : ST w c r A φ test t) (hb : ∀ g, Sim w c r A g FRep (execs body c.env) (evYs φ k yb)) : SY w c r A φ k (.While test body [] pos) (.whl t yb) := fun g => by
  rw [exec_While]
  simp -iota only [evY_e10]
  exact sim_at fun g₁ le st out e s Q E I P ok ex => wpC_runOwn rfl (while_code ht hb k g₁ st out e s Q E I P ok ex)
end
end Rk
end

section
set_option genSizeOf false
set_option genCtorIdx false
open PySem PySem.W PySem.Calls PyProof.Rows PySem.Builtin
set_option maxRecDepth 100000
namespace Rk
noncomputable abbrev Cx.wi (c : Cx) (I : Addr) : Cx := { c with out := I :: c.out }
structure ItAt (c : Cx) (g : G) (h : Heap) (I : Addr) : Prop where
  z : g.Z I = none
  m : I ∉ muts g
  ex : ∃ o, h.get? I = some o
theorem mem_wi {c : Cx} {I b : Addr} : b ∈ (c.wi I).X ↔ b = I ∨ b ∈ c.X := by
  show b ∈ c.own ++ I :: c.out ↔ b = I ∨ b ∈ c.own ++ c.out
  simp only [List.mem_append, List.mem_cons]
  constructor
  · rintro (h | h | h)
    · exact .inr (.inl h)
    · exact .inl h
    · exact .inr (.inr h)
  · rintro (h | h | h)
    · exact .inr (.inl h)
    · exact .inl h
    · exact .inr (.inr h)
theorem HInv.widen {c : Cx} {H : List O} {g : G} {h : Heap} {I : Addr} (V : HInv c.B c.X H g h) (a : ItAt c g h I) : HInv c.B (c.wi I).X H g h where
  base := V.base
  zin := V.zin
  zx := fun b hb => by rcases mem_wi.mp hb with rfl | hb; exact a.z; exact V.zx b hb
  rx := fun b hb hx => by rcases mem_wi.mp hx with rfl | hx; exact a.m hb; exact V.rx b hb hx
  nd := V.nd
  len := V.len
  objs := V.objs
  inh := V.inh
  xin := fun b hb => by rcases mem_wi.mp hb with rfl | hb; exact a.ex; exact V.xin b hb
theorem HInv.narrow {c : Cx} {H : List O} {g : G} {h : Heap} {I : Addr} (V : HInv c.B (c.wi I).X H g h) : HInv c.B c.X H g h where
  base := V.base
  zin := V.zin
  zx := fun b hb => V.zx b (mem_wi.mpr (.inr hb))
  rx := fun b hb hx => V.rx b hb (mem_wi.mpr (.inr hx))
  nd := V.nd
  len := V.len
  objs := V.objs
  inh := V.inh
  xin := fun b hb => V.xin b (mem_wi.mpr (.inr hb))
theorem ItAt.of {c : Cx} {H : List O} {g : G} {h : Heap} {I : Addr} (V : HInv c.B (c.wi I).X H g h) : ItAt c g h I :=
  ⟨V.zx I (mem_wi.mpr (.inl rfl)), fun m => V.rx I m (mem_wi.mpr (.inl rfl)), V.xin I (mem_wi.mpr (.inl rfl))⟩
section
variable {w : World} {c : Cx} {r : Str → Option X} {A : Around} {g : G} {α β γ δ : Type} {φ : Tab} {k : Nat}
theorem Inv.widen {st : St} {h : Heap} {I : Addr} (V : Inv c r st g h) (a : ItAt c g h I) : Inv (c.wi I) r st g h where
  hp := V.hp.widen a
  fr := fun e he => let ⟨k, F, o, b, d, q⟩ := V.fr e he; ⟨k, F, o, b, mem_wi.mpr (.inr d), q⟩
  loc := V.loc
  ns := V.ns
  cel := V.cel
theorem Inv.narrow {st : St} {g' : G} {h' : Heap} {I : Addr} (V : Inv (c.wi I) r st g' h') (f : ∀ e ∈ c.frs, ∃ F, e.frame = some F ∧ F ∈ c.X) : Inv c r st g' h' where
  hp := V.hp.narrow
  fr := fun e he => by
    obtain ⟨k, F, o, b, d, q⟩ := V.fr e he
    obtain ⟨F', b', d'⟩ := f e he
    rw [b] at b'; obtain rfl := Option.some.inj b'
    exact ⟨k, F, o, b, d', q⟩
  loc := V.loc
  ns := V.ns
  cel := V.cel
theorem Step.wi {g' : G} {h h' : Heap} {I : Addr} (S : Step (c.wi I) g g' h h') : Step c g g' h h' := ⟨S.le, S.keep, S.fresh, S.nown⟩
theorem Inv.next {st : St} {h h' : Heap} {I : Addr} (C : CxOk c) (V : Inv c r st g h) (a : ItAt c g h I) (hX : I ∉ c.X) (kp : ∀ b o, b ≠ I → h.get? b = some o → h'.get? b = some o) (ex : ∃ o, h'.get? I = some o) : Inv c r st g h' ∧ ItAt c g h' I := by
  have W := (V.hp.widen a).without (h' := h') (fun b o n e => kp b o (fun q => n (mem_wi.mpr (.inl q))) e) fun b hb => by
    by_cases q : b = I
    · rw [q]; exact ex
    · obtain ⟨o, e⟩ := (V.hp.widen a).xin b hb; exact ⟨o, kp b o q e⟩
  refine ⟨V.grown C (.refl g) W.narrow fun b o e hb => ⟨o.slots, kp b o (fun q => hX (q ▸ hb)) e⟩, ⟨a.z, a.m, ex⟩⟩
theorem Step.next {g₁ : G} {h₀ h h' : Heap} {I : Addr} (S : Step c g₁ g h₀ h) (hn : h₀.get? I = none) (kp : ∀ b o, b ≠ I → h.get? b = some o → h'.get? b = some o) : Step c g₁ g h₀ h' :=
  ⟨S.le, fun b o e n => by
    obtain ⟨sl, e', f⟩ := S.keep b o e n
    exact ⟨sl, kp b _ (fun q => by rw [q, hn] at e; exact nn e) e', f⟩, S.fresh, S.nown⟩
structure Iter (w : World) (A : Around) (g : G) (I : Addr) (xs : List V) (fp : List Addr) (P : Nat → Value → Prop) (St' : Nat → Heap → Prop) : Prop where
  W : Walks PySem.Challenge.pw_xw0265_01 w A I fp [I] xs.length P St'
  ex : ∀ i h, St' i h → ∃ o, h.get? I = some o
  fp : ∀ b ∈ fp, b = I ∨ ∃ o, g.Z b = some o
  rep : ∀ i v, i < xs.length → P i v → ∃ x, xs[i]? = some x ∧ Rep g v x
theorem CxOk.wi (C : CxOk c) (I : Addr) : CxOk (c.wi I) := ⟨C.fn, C.lown, C.frm, fun x a e => mem_wi.mpr (.inr (C.cel x a e)), C.inj⟩
end
end Rk
end

section
open PySem PySem.W PySem.Calls PyProof.Rows PySem.Builtin
set_option maxRecDepth 100000
namespace Rk
section
variable {w : World} {c : Cx} {r : Str → Option X} {A : Around} {g : G} {α β γ δ : Type} {φ : Tab} {k : Nat}
theorem fr_own {st : St} {h : Heap} (V : Inv c r st g h) : ∀ e ∈ c.frs, ∃ F, e.frame = some F ∧ F ∈ c.X := fun e he => let ⟨_, F, _, b, d, _⟩ := V.fr e he; ⟨F, b, d⟩
theorem frA_sub {st : St} {h : Heap} (V : Inv c r st g h) {b : Addr} (hb : b ∈ frA c.outer) : b ∈ c.X := by
  obtain ⟨e, he, q⟩ := List.mem_filterMap.mp hb
  obtain ⟨F, q', d⟩ := fr_own V e (List.mem_cons_of_mem _ he)
  rw [q] at q'; obtain rfl := Option.some.inj q'; exact d
theorem HInv.off {B : Heap} {X : List Addr} {H : List O} {g : G} {h h' : Heap} {I : Addr} (V : HInv B X H g h) (kp : ∀ b o, b ≠ I → h.get? b = some o → h'.get? b = some o) (hX : I ∉ X) (z : g.Z I = none) (m : I ∉ muts g) : HInv B X H g h' where
  base := V.base
  zin := fun b o e => kp b o (fun q => by rw [q, z] at e; exact nn e) (V.zin b o e)
  zx := V.zx
  rx := V.rx
  nd := V.nd
  len := V.len
  objs := fun i p o e e' => (V.objs i p o e e').move (.refl g) (fun ob q => kp _ _ (fun w => m (w ▸ mem_muts e)) q) id
  inh := fun b e => let ⟨o, q⟩ := V.inh b e; ⟨o, kp _ _ (fun w => m (w ▸ e)) q⟩
  xin := fun b e => let ⟨o, q⟩ := V.xin b e; ⟨o, kp _ _ (fun w => hX (w ▸ e)) q⟩
theorem for_code {x : Str} {i : Nat} {p : Pos} {body : List Stmt} {yb : List Y} {g₀ : G} {I : Addr} {xs : List V} {fp : List Addr} {P : Nat → Value → Prop} {St' : Nat → Heap → Prop} (C : CxOk c) (RO : RsOk c r) (hr : r x = some (.loc i))
    (hb : ∀ g, Sim w (c.wi I) r A g FRep (execs body c.env) (evYs φ k yb)) (It : Iter w A g₀ I xs fp P St') (hX : I ∉ c.X) {h₀ : Heap} (hn : h₀.get? I = none) {g₁ : G} :
    ∀ (m j : Nat), j + m = xs.length → ∀ (g : G) (st : St) out, g₀.le g → forV (fun v => AM.bind (AM.setl i v) fun _ => evYs φ k yb) (xs.drop j) st = some out → ∀ (s : Shared) (Q : Flow → Shared → Prop) (E : Value → Shared → Prop), St' j s.heap → Inv c r st g s.heap → ItAt c g s.heap I → Step c g₁ g h₀ s.heap → PassesOwn (MM w) A c.env E →
    OkC c r g₁ h₀ s FRep out Q →
    ExC c r g₁ h₀ s out E →
    codeC (MM w) A (.forLoop (.Name x p) (.ref I) body [] c.env) (LoopR w c A Q E) s := by
  intro m
  induction m with
  | zero =>
    intro j hj g st out le e s Q E hst V a S P ok ex
    have hj' : j = xs.length := by omega
    subst hj'
    rw [List.drop_length] at e
    obtain rfl := Option.some.inj e
    refine codeC_of_tree ?_
    have hA : A.under (.forLoop (.Name x p) (.ref I) body [] c.env) = A := Around.under_of_weight rfl
    rw [hA]
    show wpC _ A ((forTurn (.Name x p) (.ref I) body [] c.env).onRaise (fun x => do noteFrame x c.env; theTreesLotGoes x)) _ _ s
    refine loop_raise P ?_
    unfold forTurn
    refine wpC_bind (wpC_standAt (wpC_bind (wpC_onRaise (wpC_any (It.W.done s _ _ hst fun h' tk kp => ?_)))))
    refine wpC_pure ⟨⟨rfl, rfl⟩, codeC_of_tree ?_⟩
    have hA2 : A.under (.block [] c.env) = A := Around.under_of_weight rfl
    rw [hA2]
    have kp' : ∀ b o, b ≠ I → s.heap.get? b = some o → h'.get? b = some o := fun b o n e => kp b o (by simpa using n) e
    show wpC _ A ((execs [] c.env).onRaise (fun x => do noteFrame x c.env; theTreesLotGoes x) >>= fun f => pure (Fin.done f)) _ _ _
    refine wpC_bind (wpC_onRaise ?_)
    rw [execs_nil]
    have V' : Inv c r st g h' := V.grown C (.refl g) (V.hp.off kp' hX a.z a.m) fun b o e hb => ⟨o.slots, kp' b o (fun q => hX (q ▸ hb)) e⟩
    exact wpC_pure (wpC_pure (ok _ _ rfl g h' tk .next (S.next hn kp') V' rfl))
  | succ m ih =>
    intro j hj g st out le e s Q E hst V a S P ok ex
    have hlt : j < xs.length := by omega
    rw [List.drop_eq_getElem_cons hlt] at e
    refine codeC_of_tree ?_
    have hA : A.under (.forLoop (.Name x p) (.ref I) body [] c.env) = A := Around.under_of_weight rfl
    rw [hA]
    show wpC _ A ((forTurn (.Name x p) (.ref I) body [] c.env).onRaise (fun x => do noteFrame x c.env; theTreesLotGoes x)) _ _ s
    refine loop_raise P ?_
    unfold forTurn
    refine wpC_bind (wpC_standAt (wpC_bind (wpC_onRaise (wpC_any (It.W.item j s _ _ hlt hst fun v h' tk hv hst' kp => ?_)))))
    have kp' : ∀ b o, b ≠ I → s.heap.get? b = some o → h'.get? b = some o := fun b o n e => kp b o (by simpa using n) e
    obtain ⟨V1, a1⟩ := V.next C a hX kp' (It.ex _ _ hst')
    have S1 := S.next hn kp'
    obtain ⟨x', hx', rx⟩ := It.rep j v hlt hv
    rw [List.getElem?_eq_getElem hlt] at hx'
    obtain rfl := Option.some.inj hx'
    have V2 := V1.widen a1
    simp only [forV_e1] at e
    have RO' : RsOk (c.wi I) r := ⟨RO.inj, RO.kind, RO.noClassdict, RO.big⟩
    have one : Sim w (c.wi I) r A g FRep (assign (.Name x p) c.env v >>= fun _ => execs body c.env) (AM.bind (AM.setl i xs[j]) fun _ => evYs φ k yb) := by
      show Sim w (c.wi I) r A g FRep ((standAt p >>= fun _ => bindName c.env x v) >>= fun _ => execs body c.env) _
      simp only [bind_assoc]
      exact sim_at (sim_bind (R := fun _ _ _ => True) (sim_bindName (C.wi I) RO' hr (rx.mono le)) fun g' _ _ _ _ => hb g')
    unfold AM.bind at e
    cases q : (AM.bind (AM.setl i xs[j]) fun _ => evYs φ k yb) st with
    | none =>
      unfold AM.bind at q
      rw [q] at e; exact nn e
    | some o =>
      have q' := q
      unfold AM.bind at q'
      rw [q'] at e
      refine wpC_bind (wpC_of_eq (a := ()) rfl ?_)
      have step := one g (.refl _) st o q { s with heap := h', toks := tk }
      rw [← bind_assoc]
      refine wpC_bind (step _ E V2 P (fun f st'' eo g₃ h₃ tk' fl S' I₃ fr => ?_) fun kd st'' eo g₃ hr h₃ tk' y S' I₃ F => ?_)
      · subst eo
        have I3' := I₃.narrow (fr_own V1)
        have S3 := S1.trans S'.wi
        simp only at e
        induction f using Option.casesOn with
        | none =>
          cases fr
          simp only at e
          have a3 : ItAt c g₃ h₃ I := ItAt.of (c := c) I₃.hp
          have le3 : g₀.le g₃ := le.trans S'.le
          refine wpC_pure ⟨⟨rfl, rfl⟩, ih (j + 1) (by omega) g₃ st'' out le3 e { s with heap := h₃, toks := tk' } Q E (It.W.frame _ _ _ hst' fun b hbf o eo => ?_) I3' a3 S3 P ok ex⟩
          rcases It.fp b hbf with rfl | ⟨ob, z⟩
          · obtain ⟨sl, e1, f1⟩ := S'.keep b o eo fun q => (List.mem_append.mp q).elim (fun q => hX (List.mem_append_left _ q)) a1.m
            have : sl = o.slots := f1 fun q => hX (frA_sub V1 q)
            rw [e1, this]
          · have h1 := V1.hp.zin b ob (le.1 _ _ z)
            rw [h1] at eo; obtain rfl := Option.some.inj eo
            exact I3'.hp.zin b _ (le3.1 _ _ z)
        | some v' =>
          obtain ⟨cv, rfl, rv⟩ := fr
          obtain rfl := Option.some.inj e
          exact wpC_pure (ok _ _ rfl g₃ h₃ tk' _ S3 I3' ⟨cv, rfl, rv⟩)
      · subst eo
        obtain rfl := Option.some.inj e
        exact ex kd st'' rfl g₃ hr h₃ tk' y (S1.trans S'.wi) (I₃.narrow (fr_own V1)) F
end
end Rk
end

section
open PySem PySem.W PySem.Calls PyProof.Rows PySem.Builtin
set_option maxRecDepth 100000
namespace Rk
section
variable {w : World} {c : Cx} {r : Str → Option X} {A : Around} {g : G} {α β γ δ : Type} {φ : Tab} {k : Nat}
theorem Iter.of {I : Addr} {xs : List Rk.V} {fp : List Addr} {P : Nat → Value → Prop} {St' : Nat → Heap → Prop} {n : Nat} (W : Walks PySem.Challenge.pw_xw0265_01 w A I fp [I] n P St') (hn : n = xs.length) (ex : ∀ i h, St' i h → ∃ o, h.get? I = some o)
    (hf : ∀ b ∈ fp, b = I ∨ ∃ o, g.Z b = some o) (rep : ∀ i v, i < xs.length → P i v → ∃ x, xs[i]? = some x ∧ Rep g v x) : Iter w A g I xs fp P St' := by subst hn; exact ⟨W, ex, hf, rep⟩
noncomputable def PyIt (w : World) (A : Around) (g : G) (s : Shared) (a : Value) (xs : List Rk.V) : Prop := ∀ (Q : Value → Shared → Prop) (E : Value → Shared → Prop),
    (∀ o fp P St', o.isFreed = false → Iter w A g s.heap.objs.size xs fp P St' → St' 0 (s.heap.push o) → Q (.ref s.heap.objs.size) { s with heap := s.heap.push o }) → wpAny (MM w) A (pyIter a) Q E s
section
variable {H : List O} {s : Shared} (hh : A.handled = none) (V : HInv c.B c.X H g s.heap)
include V in
theorem pi_z {b : Addr} {o : Obj} (e : g.Z b = some o) : b ≠ s.heap.objs.size := fun z => by
  have := V.zin _ _ e; rw [z, get?_size_none] at this; exact nn this
theorem pi_rep {items : List Value} {xs : List Rk.V} (rl : RepL g items xs) (i : Nat) (v : Value) (hv : items.toArray[i]? = some v) : ∃ x, xs[i]? = some x ∧ Rep g v x := by
  have hv' : items[i]? = some v := List.getElem?_toArray ▸ hv
  have hlt := (List.getElem?_eq_some_iff.mp hv').1
  have hlt' : i < xs.length := rl.length ▸ hlt
  have := rl.get hlt hlt'
  rw [(List.getElem?_eq_some_iff.mp hv').2] at this
  exact ⟨_, List.getElem?_eq_getElem hlt', this⟩
theorem pi_fp {ad I : Addr} {o : Obj} (z : g.Z ad = some o) : ∀ b ∈ [I, ad], b = I ∨ ∃ o, g.Z b = some o := fun b hb => by
  rcases List.mem_cons.mp hb with e | hb
  · exact .inl e
  · rw [List.mem_singleton.mp hb]; exact .inr ⟨_, z⟩
include hh V
theorem pi_tuple {a : Value} {l : List Rk.V} (ra : Rep g a (.tuple l)) : PyIt w A g s a l := fun Q E q => by
  obtain ⟨ad, o, n, items, rfl, z, hc, hd, rl⟩ := ra.tuple_inv
  have ht : s.heap.IsTuple ad items.toArray := ⟨o, V.zin _ _ z, hc, n, hd⟩
  exact wpAny_pyIter_tuple ht (q _ _ _ _ rfl (Iter.of (Walks.tuple hh _ ad (pi_z V z) items.toArray) rl.length (fun i h st => let ⟨o, e, _⟩ := st.1; ⟨o, e⟩) (pi_fp z) (fun i v _ hv => pi_rep rl i v hv)) ⟨⟨_, Heap.get?_push_size _ rfl, rfl, rfl⟩, ht.push _⟩)
theorem pi_list {a : Value} {l : List Rk.V} (ra : Rep g a (.list l)) : PyIt w A g s a l := fun Q E q => by
  obtain ⟨ad, o, n, items, rfl, z, hc, hd, rl⟩ := ra.list_inv
  have ht : s.heap.IsList ad items.toArray := ⟨o, V.zin _ _ z, hc, n, hd⟩
  exact wpAny_pyIter_list ht (q _ _ _ _ rfl (Iter.of (Walks.list hh _ ad (pi_z V z) items.toArray) rl.length (fun i h st => let ⟨o, e, _⟩ := st.1; ⟨o, e⟩) (pi_fp z) (fun i v _ hv => pi_rep rl i v hv)) ⟨⟨_, Heap.get?_push_size _ rfl, rfl, rfl⟩, ht.push _⟩)
theorem pi_bytes {a : Value} {b : List UInt8} (ra : Rep g a (.bytes b)) : PyIt w A g s a (b.map fun x => .int x.toNat) := fun Q E q => by
  obtain ⟨t, rfl⟩ := ra.bytes_inv
  refine KBw.pyIter_bytes (q _ _ _ _ rfl (Iter.of (KBw.walks hh _ b.toArray t) (by simp) (fun i h st => let ⟨o, e, _⟩ := st; ⟨o, e⟩) (fun b hb => .inl (List.mem_singleton.mp hb)) (fun i v hi hv => ?_)) ⟨_, Heap.get?_push_size _ rfl, rfl, rfl⟩)
  obtain ⟨u, t', hu, rfl⟩ := hv
  have hu' : b[i]? = some u := by simpa using hu
  exact ⟨.int u.toNat, by rw [List.getElem?_map, hu']; rfl, .int _ _⟩
theorem pi_str {a : Value} {st : Str} (ha : st.cps.all (· < 128) = true) (ra : Rep g a (.str st)) : PyIt w A g s a (st.cps.toList.map fun n => .str (oneStr n)) := fun Q E q => by
  obtain ⟨t, rfl⟩ := ra.str_inv
  refine wpAny_pyIter_ascii ha (q _ _ _ _ rfl (Iter.of (Walks.strAscii hh _ st t) (by simp) (fun i h st => let ⟨o, e, _⟩ := st; ⟨o, e⟩) (fun b hb => .inl (List.mem_singleton.mp hb)) (fun i v hi hv => ?_)) ⟨_, Heap.get?_push_size _ rfl, rfl, rfl⟩)
  obtain ⟨u, t', hu, rfl⟩ := hv
  exact ⟨.str (oneStr u), by simp [hu], .str _ _⟩
end
theorem na_b {i : Int} {n : Nat} (h : i.natAbs < n) : -(n : Int) < i ∧ i < n := by omega
theorem dv_b {a b : Int} (ha : 0 ≤ a) (hb : 0 < b) : 0 ≤ a / b + 1 ∧ a / b + 1 ≤ a + 1 := ⟨Int.le_trans (Int.ediv_nonneg ha (Int.le_of_lt hb)) (Int.le_of_lt (Int.lt_succ _)), Int.add_le_add_right (Int.ediv_le_self _ ha) 1⟩
theorem rs_bd {i j l : Int} (hi : -1099511627776 < i ∧ i < 1099511627776) (hj : -1099511627776 < j ∧ j < 1099511627776) (hl : l ≠ 0) : 0 ≤ Builtin.Range.rangeSize i j l ∧ Builtin.Range.rangeSize i j l ≤ 4398046511104 := by
  unfold Builtin.Range.rangeSize
  split
  · split
    · have := dv_b (a := j - i - 1) (b := l) (by lia) (by omega); omega
    · decide
  · split
    · have := dv_b (a := i - j - 1) (b := -l) (by lia) (by lia); omega
    · decide
theorem rs_small {i j l : Int} (hi : -1099511627776 < i ∧ i < 1099511627776) (hj : -1099511627776 < j ∧ j < 1099511627776) (hl : -1048576 < l ∧ l < 1048576) (h : 0 ≤ Builtin.Range.rangeSize i j l ∧ Builtin.Range.rangeSize i j l ≤ 4398046511104) : Builtin.Range.small i j l = true := by
  unfold Builtin.Range.small
  simp only [Builtin.Range.rangeFitsLong, Bool.and_eq_true, Bool.or_eq_true, decide_eq_true_eq, beq_iff_eq]
  refine ⟨⟨⟨⟨⟨by lia, by lia⟩, by lia, by lia⟩, by lia, by lia⟩, by lia, by omega⟩, .inr ?_⟩
  split <;> simp only [Bool.and_eq_true, decide_eq_true_eq] <;> lia
theorem pi_rng {H : List O} {s : Shared} (hh : A.handled = none) (V : HInv c.B c.X H g s.heap) {a : Value} {i j l : Int} (hz : i.natAbs < 2 ^ 40 ∧ j.natAbs < 2 ^ 40 ∧ l.natAbs < 2 ^ 20 ∧ l ≠ 0) (ra : Rep g a (.rng i j l)) : PyIt w A g s a ((rngItems i j l).map .int) := fun Q E q => by
  obtain ⟨ad, t, u, v, rfl, z⟩ : ∃ ad t u v, a = .ref ad ∧ g.Z ad = some { cls := .type "range", data := .fields #[.int i t, .int j u, .int l v] } := by cases ra with | rng z => exact ⟨_, _, _, _, rfl, z⟩
  have hb := rs_bd (na_b hz.1) (na_b hz.2.1) hz.2.2.2
  have hcast : ((Builtin.Range.rangeSize i j l).toNat : Int) = Builtin.Range.rangeSize i j l := Int.toNat_of_nonneg hb.1
  have hsm := rs_small (na_b hz.1) (na_b hz.2.1) (na_b hz.2.2.1) hb
  refine wpAny_pyIter_range (V.zin _ _ z) hsm (q _ _ _ _ rfl (Iter.of (Walks.range hh _ i l (Builtin.Range.rangeSize i j l).toNat) (by simp [rngItems]) (fun i h st => ⟨_, st⟩) (fun b hb => .inl (List.mem_singleton.mp hb)) (fun k v hk hv => ?_)) ?_)
  · obtain ⟨t', rfl⟩ := hv
    have hk' : k < (Builtin.Range.rangeSize i j l).toNat := by simpa [rngItems] using hk
    refine ⟨.int (i + (k : Int) * l), ?_, .int _ _⟩
    simp [rngItems, hk']
  · show Heap.get? _ _ = _
    rw [Heap.get?_push_size _ rfl, hcast]
    simp
theorem iter_make {H : List O} {s : Shared} (hh : A.handled = none) (V : HInv c.B c.X H g s.heap) {a : Value} {x : Rk.V} {xs : List Rk.V} (ra : Rep g a x) (e : itemsV H x = some xs) : PyIt w A g s a xs := by
  induction x using Rk.V.casesOn with
  | tuple l => obtain rfl : l = xs := Option.some.inj e; exact pi_tuple hh V ra
  | list l => obtain rfl : l = xs := Option.some.inj e; exact pi_list hh V ra
  | bytes l => exact Option.some.inj e ▸ pi_bytes hh V ra
  | str st => obtain ⟨ha, e⟩ := i2 (show (if st.cps.all (· < 128) then some (st.cps.toList.map fun n => Rk.V.str (oneStr n)) else .none) = some xs from e); exact Option.some.inj e ▸ pi_str hh V ha ra
  | rng i j l => obtain ⟨ha, e⟩ := i2 (show (if i.natAbs < 2 ^ 40 ∧ j.natAbs < 2 ^ 40 ∧ l.natAbs < 2 ^ 20 ∧ l ≠ 0 then some ((rngItems i j l).map Rk.V.int) else .none) = some xs from e); exact Option.some.inj e ▸ pi_rng hh V ha ra
  | _ => exact nn e
end
end Rk
end

section
open PySem PySem.W PySem.Calls PyProof.Rows PySem.Builtin
set_option maxRecDepth 100000
namespace Rk
section
variable {w : World} {c : Cx} {r : Str → Option X} {A : Around} {g : G} {α β γ δ : Type} {φ : Tab} {k : Nat}
theorem sy_for {n : Nat} (C : CxOk c) (O : AOk w c A n) (RO : RsOk c r) {x : Str} {i : Nat} (hr : r x = some (.loc i)) {it : Expr} {y : X} {body : List Stmt} {yb : List Y} {p pos : Pos} (hs : isSet it = false) (he : SE w c r A φ it y)
    (hb : ∀ I g, Sim w (c.wi I) r A g FRep (execs body c.env) (evYs φ k yb)) : SY w c r A φ k (.For (.Name x p) it body [] pos) (.fors i y yb) := fun g => by
  rw [exec_For]
  have hf : ∀ v, foldedSetIterable it c.env v = pure v := fun v => by induction it using Expr.casesOn <;> first | rfl | cases hs
  simp only [hf]
  simp only [evY_e11]
  show Sim w c r A g FRep (standAt pos >>= fun _ => eval it c.env >>= fun v => pure v >>= fun v => standAt it.pos >>= fun _ => holding [v] (pyIter v) >>= fun q => runOwn (.forLoop (.Name x p) q body [] c.env) c.env) _
  refine sim_at (sim_bind (he g) fun g' le v u rv => ?_)
  rw [pure_bind]
  refine sim_at ?_
  intro g₁ le₁ st out e s Q E V P ok ex
  have key : ∀ (f : List Rk.V → AM (Option Rk.V)), AM.bind (AM.look fun H => itemsV H u) f st = match itemsV st.H u with | some xs => f xs st | .none => .none := fun f => by
    unfold AM.bind AM.look
    dsimp only
    cases itemsV st.H u <;> rfl
  rw [key] at e
  cases q : itemsV st.H u with
  | none => rw [q] at e; exact nn e
  | some xs =>
    rw [q] at e
    refine wpC_bind (wpC_holding (wpC_any (iter_make O.hh V.hp (rv.mono le₁) q _ E fun o fp P' St' hfr It hst => ?_)))
    have kp := keeps_push s.heap o
    have hX : s.heap.objs.size ∉ c.X := fun m => by obtain ⟨ob, e⟩ := V.hp.xin _ m; rw [get?_size_none] at e; exact nn e
    have a : ItAt c g₁ (s.heap.push o) s.heap.objs.size := by
      refine ⟨?_, fun m => ?_, ⟨_, Heap.get?_push_size _ hfr⟩⟩
      · cases e : g₁.Z s.heap.objs.size with
        | none => rfl
        | some o' => have := V.hp.zin _ o' e; rw [get?_size_none] at this; exact nn this
      · obtain ⟨ob, e⟩ := V.hp.inh _ m; rw [get?_size_none] at e; exact nn e
    have V1 : Inv c r st g₁ (s.heap.push o) := V.grown C (.refl g₁) (V.hp.keeps kp) fun b ob e _ => ⟨ob.slots, kp b ob e⟩
    have S1 : Step c g₁ g₁ s.heap (s.heap.push o) := Step.of_keeps V.hp (.refl g₁) rfl kp
    refine wpC_runOwn rfl (for_code C RO hr (hb _) It hX (h₀ := s.heap) (get?_size_none _) xs.length 0 (by lia) g₁ st out (.refl g₁) (by rw [List.drop_zero]; exact e) _ Q E hst V1 a S1 P (fun b st' eo g₂ h' k a S I₂ rr => ok b st' eo g₂ h' k a S I₂ rr) fun kd st' eo g₂ hr' h' k e S I₂ F => ex kd st' eo g₂ hr' h' k e S I₂ F)
end
end Rk
end

section
open PySem PySem.W PySem.Calls PyProof.Rows PySem.Builtin
set_option maxRecDepth 100000
namespace Rk
section
variable {w : World} {A : Around} {E : Value → Shared → Prop} {h : Heap} {P : Params}
theorem ns_K (X : (kObjs P).In h) {N : Addr} {es : Array DictEntry} {n : Nat} (e : (kObjs P).lookup N = some { cls := .type "dict", data := .dict es n }) (hk : ∀ e ∈ es, ∃ n t, e.key = .str n t) (hf : (es.find? (·.key.isStr "__init__")) = none) :
    ∃ mN, h.Ns N mN ∧ mN (Str.ofString "__init__") = none :=
  ⟨fun x => (es.find? (·.key.isStr x)).map (·.val), ⟨_, es, n, X _ _ e, rfl, hk, fun x => rfl⟩, by show (es.find? (·.key.isStr "__init__")).map _ = none; rw [hf]; rfl⟩
theorem ns30 (X : (kObjs P).In h) : ∃ mN, h.Ns 30 mN ∧ mN (Str.ofString "__init__") = none := ns_K X rfl (by simp) (by rfl)
theorem ns43 (X : (kObjs P).In h) : ∃ mN, h.Ns 43 mN ∧ mN (Str.ofString "__init__") = none := ns_K X rfl (by simp) (by rfl)
theorem ns55 (X : (kObjs P).In h) : ∃ mN, h.Ns 55 mN ∧ mN (Str.ofString "__init__") = none := ns_K X rfl (by simp) (by rfl)
theorem ns67 (X : (kObjs P).In h) : ∃ mN, h.Ns 67 mN ∧ mN (Str.ofString "__init__") = none := ns_K X rfl (by simp) (by rfl)
noncomputable abbrev exB : List Value := [.type "Exception", .type "BaseException", .type "object"]
theorem tail44 (X : (kObjs P).In h) : OwnTail h exB [.ref 44, .ref 31, .type "Exception", .type "BaseException", .type "object"] := by
  obtain ⟨m1, n1, i1⟩ := ns43 X
  obtain ⟨m2, n2, i2⟩ := ns30 X
  exact .own (X 44 _ rfl) n1 i1 (.own (X 31 _ rfl) n2 i2 .base)
theorem tail56 (X : (kObjs P).In h) : OwnTail h exB [.ref 56, .ref 44, .ref 31, .type "Exception", .type "BaseException", .type "object"] := by
  obtain ⟨m1, n1, i1⟩ := ns55 X
  exact .own (X 56 _ rfl) n1 i1 (tail44 X)
theorem call_own_exc {s : Shared} {C : Addr} (hC : C = 56 ∨ C = 68) (X : (kObjs P).In s.heap) {v : Value} {Q : Value → Shared → Prop}
    (hq : ∀ h' e, Heap.MadeExcOf s.heap h' e (.ref C) [v] → Q (.ref e) { s with heap := h' }) : wpAny (MM w) A (call (.ref C) [v]) Q E s := by
  obtain ⟨h, g, d, t, os⟩ := s
  rcases hC with rfl | rfl
  · obtain ⟨m1, n1, i1⟩ := ns55 X
    exact wpAny_call_exc_subU PySem.F.excBase_Exception (by decide) PySem.F.excBase_Exception (tail44 X) (X 56 _ rfl) n1 i1 hq (by show 1 ≤ sizeLine; rw [sizeLine_eq]; omega)
  · obtain ⟨m1, n1, i1⟩ := ns67 X
    exact wpAny_call_exc_subU PySem.F.excBase_Exception (by decide) PySem.F.excBase_Exception (tail56 X) (X 68 _ rfl) n1 i1 hq (by show 1 ≤ sizeLine; rw [sizeLine_eq]; omega)
theorem raise_own {s : Shared} {C : Addr} {env : Env} (hC : C = 56 ∨ C = 68) (X : (kObjs P).In s.heap) (hh : A.handled = none) {e t : Addr} {Q : Flow → Shared → Prop}
    (he : s.heap.get? e = some { cls := .ref C, data := .fields #[.ref t, .none, .none, .none, .bool false, .none] }) (hE : E (.ref e) s) : wpAny (MM w) A (raiseStmt env (some (pure (.ref e))) none) Q E s := by
  rcases hC with rfl | rfl
  · exact wpAny_raiseStmt_made_sub (by decide) hh (wpAny_pure ⟨e, t, rfl, X 56 _ rfl, he, hE⟩)
  · exact wpAny_raiseStmt_made_sub (by decide) hh (wpAny_pure ⟨e, t, rfl, X 68 _ rfl, he, hE⟩)
end
end Rk
end

section
open PySem PySem.W PySem.Calls PyProof.Rows PySem.Builtin
set_option maxRecDepth 100000
namespace Rk
theorem funFrames_of {X : List Addr} {hr h' : Heap} {as : List Addr} (k : ∀ b o, hr.get? b = some o → h'.get? b = some o) : ∀ {l : List Env}, FrOk X hr l → (∀ e ∈ l, ∀ F, e.frame = some F → F ∈ as) → h'.FunFrames (hideAll hr as) l
  | [], _, _ => trivial
  | env :: l, f, m => by
    obtain ⟨a, F, o, b, c, d, q⟩ := f env (List.mem_cons_self)
    exact ⟨a, ⟨F, o, b, hideAll_none _ (m env List.mem_cons_self F b), k _ _ d, q⟩, funFrames_of k (fun e he => f e (List.mem_cons_of_mem _ he)) fun e he => m e (List.mem_cons_of_mem _ he)⟩
theorem flies_made {X : List Addr} {frs : List Env} {hr h' : Heap} {e C : Addr} {vs : List Value} (f : FrOk X hr frs) (x : Heap.MadeExcOf hr h' e (.ref C) vs) : Flies frs hr h' C e where
  out := by
    obtain ⟨t, h1, h2, h3⟩ := x.there
    have mem : ∀ env ∈ frs, ∀ F, env.frame = some F → F ∈ frA frs := fun env he F q => List.mem_filterMap.mpr ⟨env, he, q⟩
    refine ⟨hideAll hr (frA frs), fun b o q n => hideAll_get _ q n, fun b m => hideAll_none _ m, ?_, fun b o q => ?_, funFrames_of x.keeps f mem, .inl ⟨_, _, _, h1, rfl, rfl, rfl, rfl⟩⟩
    · cases q : (hideAll hr (frA frs)).get? e with
      | none => rfl
      | some o => have := of_hideAll _ q; rw [x.new] at this; exact nn this
    · exact x.keeps _ _ (of_hideAll _ q)
  frames := fun b m o q => ⟨o.slots, x.keeps _ _ q⟩
section
variable {w : World} {c : Cx} {r : Str → Option X} {A : Around} {g : G} {φ : Tab} {k : Nat}
theorem sy_raise {n : Nat} (C : CxOk c) (O : AOk w c A n) (K : KOk w c) (N : NameOk w c r) {cn : Str} {a : Addr} (hr : r cn = some (.val (.fn (.ref a)))) (ha : a = 56 ∨ a = 68) (hd : cn ≠ Str.ofString "__debug__") {es : List Expr} {xs : List X} {p cpos pos : Pos} (hs : es.any isStar = false) (hk : keepIn (kObjs w.params) (.ref a) = true)
    (hx : ∀ g, Sim w c r A g RepL (spliced (backTo cpos (starEach es c.env))) (evXs φ xs)) : SY w c r A φ k (.Raise (some (.Call (.Name cn p) es [] cpos)) none pos) (.raise a xs) := fun g => by
  have split : ∀ x : Sem Value, raiseStmt c.env (some x) none = (x >>= fun v => raiseStmt c.env (some (pure v)) none) := fun x => by
    unfold raiseStmt; simp only [pure_bind]
  show Sim w c r A g FRep (standAt pos >>= fun _ => raiseStmt c.env (some (eval (.Call (.Name cn p) es [] cpos) c.env >>= fun v => standAt pos >>= fun _ => pure v)) none) _
  rw [split]
  simp only [evY_e12]
  refine sim_at ?_
  intro g₁ le st out e s Q E V P ok ex
  refine wpC_bind (wpC_bind ?_)
  show wpC _ A (eval (.Name cn p) c.env >>= fun q => callWith cpos q [] (backTo cpos (starEach es c.env)) []) _ _ _
  rw [eval_Name c.env cn p (notDebug hd)]
  obtain ⟨cv, rv, h⟩ := N cn _ hr A g₁ st.H s V.hp
  obtain rfl := rv.fn_inv
  refine wpC_leaf (wpAny_bind (wpAny_standAt (h _ _ ?_)))
  refine wpC_callWith (plain_args hs) ?_
  unfold AM.bind at e
  cases q : evXs φ xs st with
  | none => rw [q] at e; exact nn e
  | some o =>
    rw [q] at e
    refine hx g₁ g₁ (.refl _) st o q s _ E V P (fun b st' eo g₂ h₂ tk vs S I₂ rx => ⟨few_K K hk g₂ st'.H _ I₂.hp, ?_⟩) fun kd st' eo g₂ hr h₂ tk x S I₂ F => ?_
    · subst eo
      simp only at e
      split at e
      · rename_i hz
        obtain rfl := Option.some.inj e
        have hl := rx.length
        cases rx with
        | nil => simp at hz
        | cons r0 rr =>
          cases rr with
          | nil =>
            refine wpC_any (call_own_exc ha (I₂.hp.kin K) fun h' e M => ?_)
            refine wpC_bind (wpC_standAt (wpC_pure ?_))
            obtain ⟨t, h1, h2, h3⟩ := M.there
            exact wpC_any (raise_own ha ((I₂.hp.kin K).keeps M.keeps) O.hh h1 (ex a _ rfl g₂ h₂ h' tk e S I₂ (flies_made I₂.fr M)))
          | cons _ _ => simp at hz
      · exact nn e
    · subst eo
      obtain rfl := Option.some.inj e
      exact ex kd st' rfl g₂ hr h₂ tk x S I₂ F
end
end Rk
end

section
open PySem PySem.W PySem.Calls PyProof.Rows PySem.Builtin
set_option maxRecDepth 100000
namespace Rk
section
variable {w : World} {c : Cx} {r : Str → Option X} {A : Around} {g : G} {φ : Tab} {k : Nat}
theorem wpC_tryStmt {body : Sem Flow} {h₀ : ExceptHandler} {hs : List ExceptHandler} {Q : Flow → Shared → Prop} {E : Value → Shared → Prop} {s : Shared} {M : Model} {env : Env}
    (h : wpC M A body Q (fun e s₁ => wpAny M A (noteFrame e env) (fun _ s₂ => wpAny M A (setFlight e none) (fun _ s₃ => wpAny M A (handleBy e env (h₀ :: hs)) Q E s₃) E s₂) E s₁) s) :
    wpC M A (tryStmt false body (h₀ :: hs) (execs [] env) [] env) Q E s := by
  unfold tryStmt
  simp -iota only [List.isEmpty_nil, if_true, List.isEmpty_cons, Bool.false_and, Bool.false_eq_true, if_false]
  refine wpC_bind (wpC_attempt (wpC_mono h (fun f s₁ h₁ => ?_) fun e s₁ h₁ => ?_))
  · induction f using Flow.casesOn
    · rw [execs_nil]; exact wpC_pure h₁
    · exact wpC_pure h₁
    · exact wpC_pure h₁
    · exact wpC_pure h₁
  · exact wpC_any (wpAny_bind (wpAny_mono h₁ (fun _ _ h₂ => wpAny_bind h₂) fun _ _ x => x))
theorem flies_noted {frs : List Env} {env : Env} {outer : List Env} {L e kd : Addr} {hr : Heap} {s : Shared} {M : Model} {Q : Unit → Shared → Prop} {E : Value → Shared → Prop} (hfr : A.frames = some (env :: outer)) (hf : env.frame = some L) (F : Flies (env :: outer) hr s.heap kd e)
    (hQ : ∀ base a0 h', (∀ b o, hr.get? b = some o → b ∉ frA (env :: outer) → base.get? b = some o) → Heap.HeldW base (env :: outer) e (.ref kd) a0 L h' → s.heap.UpToSlots h' → Q () { s with heap := h' }) : wpAny M A (noteFrame (.ref e) env) Q E s := by
  obtain ⟨base, b1, b2, b3, b4, b5, b6⟩ := F.out
  rcases b6 with ⟨oe, vs, a0, he, hc, hd, h1, h0⟩ | ⟨a0, ht⟩
  · unfold noteFrame
    simp -iota only [hf]
    refine wpAny_bind (wpAny_field he hd h1 ?_)
    rw [if_neg (by decide)]
    refine wpAny_entryW hfr b5 hf he b4 b3 hd (Array.getElem?_eq_some_iff.mp h1).1 h0 fun h' hN => ?_
    obtain ⟨k1, k2, k3, k4⟩ := hN
    rw [hc] at k3
    exact hQ base a0 h' b1 ⟨k1, b3, k2, k3⟩ k4
  · exact wpAny_looks_onW hfr hf ⟨b4, b3, b5, ht⟩ fun h' hH hu => hQ base a0 h' b1 hH hu
theorem Inv.caught {st : St} {hr h' h'' : Heap} {e kd : Addr} {base : Heap} {a0 : Value} (C : CxOk c) (hfl : c.env.frame = some c.env.locals) (I : Inv c r st g hr) (F : Flies c.frs hr h' kd e) (b1 : ∀ b o, hr.get? b = some o → b ∉ frA c.frs → base.get? b = some o)
    (y : Heap.FlyingW base c.frs e (.ref kd) a0 h'') (u : h'.UpToSlots h'') : Inv c r st g h'' ∧ Step c g g hr h'' := by
  have frX : ∀ b ∈ frA c.frs, b ∈ c.X ∧ ∀ o, hr.get? b = some o → ∀ vs, o.data ≠ .fields vs := fun b hb => by
    obtain ⟨en, he, hq⟩ := List.mem_filterMap.mp hb
    obtain ⟨_, F', o, e1, e2, e3, e4⟩ := I.fr en he
    have : F' = b := Option.some.inj (e1.symm.trans hq)
    subst this
    exact ⟨e2, fun o' h => by rw [e3] at h; obtain rfl := Option.some.inj h; exact e4⟩
  have out : ∀ b o, b ∉ frA c.frs → hr.get? b = some o → h''.get? b = some o := fun b o hb q => y.1 b o (b1 b o q hb)
  have inn : ∀ b o, hr.get? b = some o → ∃ sl, h''.get? b = some { o with slots := sl } := fun b o q => by
    by_cases hb : b ∈ frA c.frs
    · obtain ⟨sl, q'⟩ := F.frames b hb o q
      obtain ⟨sl', q''⟩ := u b _ q' ((frX b hb).2 o q)
      exact ⟨sl', q''⟩
    · exact ⟨o.slots, out b o hb q⟩
  have hp : HInv c.B c.X st.H g h'' := I.hp.without (fun b o hb q => out b o (fun z => hb (frX b z).1) q) fun b hb => by
    obtain ⟨o, q⟩ := I.hp.xin b hb
    obtain ⟨sl, q'⟩ := inn b o q
    exact ⟨_, q'⟩
  refine ⟨I.grown C (.refl g) hp fun b o q _ => inn b o q, .refl g, fun b o q hn => ?_, fun b m => .inl m, fun b m q => I.hp.rx b m (List.mem_append_left _ q)⟩
  obtain ⟨sl, q'⟩ := inn b o q
  refine ⟨sl, q', fun hb => ?_⟩
  have hb' : b ∉ frA c.frs := fun z => by
    have : frA c.frs = c.env.locals :: frA c.outer := by show List.filterMap _ (_ :: _) = _; rw [List.filterMap_cons, hfl]; rfl
    rw [this] at z
    rcases List.mem_cons.mp z with z | z
    · exact hn (z ▸ List.mem_append_left _ C.lown)
    · exact hb z
  have := out b o hb' q
  rw [this] at q'
  exact (congrArg Obj.slots (Option.some.inj q')).symm
end
end Rk
end

section
open PySem PySem.W PySem.Calls PyProof.Rows PySem.Builtin
set_option maxRecDepth 100000
namespace Rk
theorem exc_match (P : Params) {kd a : Addr} (hk : kd = 56 ∨ kd = 68) (ha : a = 56 ∨ a = 68) : exmOne (kObjs P) (.ref kd) (.ref a) = some ((subOf kd).contains a) := by
  rcases hk with rfl | rfl <;> rcases ha with rfl | rfl <;> rfl
noncomputable def ChOf (r : Str → Option X) (h : ExceptHandler) (p : Addr × X) : Prop := ∃ cn cp x xp kz kk kp q1 q2 q3 a i, h = .ExceptHandler (some (.Name cn cp)) none [.Return (some (.Compare (.Name x xp) [.Eq] [.Constant (.int kz) kk kp] q1)) q2] q3 ∧
    cn ≠ Str.ofString "__debug__" ∧ x ≠ Str.ofString "__debug__" ∧ r cn = some (.val (.fn (.ref a))) ∧ (a = 56 ∨ a = 68) ∧ r x = some (.loc i) ∧ p = (a, .cmp .Eq (.loc i) (.val (.int kz)))
theorem ch_shape {n : Nat} {r : Str → Option X} {h : ExceptHandler} {p : Addr × X} (e : cH n r h = some p) : ChOf r h p := by
  obtain ⟨t, nm, b, q3⟩ := h
  induction t using Option.casesOn with
  | none => exact nn e
  | some t =>
    induction nm using Option.casesOn with
    | some _ => exact nn e
    | none =>
      induction b using List.casesOn with
      | nil => exact nn e
      | cons s b =>
        induction b using List.casesOn with
        | cons _ _ => exact nn e
        | nil =>
          refine bind_k e fun cn h1 e1 => bind_k e1 fun ex h2 e2 => bind_k e2 fun q h3 e3 => bind_k e3 fun x h4 e4 => bind_k e4 fun kz h5 e5 => ?_
          clear e e1 e2 e3 e4
          obtain ⟨l, rr⟩ := q
          obtain ⟨cp, rfl⟩ := vName_inv h1
          obtain ⟨q2, rfl⟩ := vRet_inv h2
          obtain ⟨q1, rfl⟩ := vEq_inv h3
          obtain ⟨xp, rfl⟩ := vName_inv h4
          obtain ⟨kk, kp, rfl⟩ := vInt_inv h5
          by_cases hd : cn = Str.ofString "__debug__" ∨ x = Str.ofString "__debug__"
          · rw [if_pos hd] at e5; exact nn e5
          · rw [if_neg hd] at e5
            refine o2_k (P := fun p => ChOf r _ p) e5 fun a i h6 h7 => ?_
            obtain ⟨h8, h9⟩ := excOf_inv h6
            exact ⟨cn, cp, x, xp, kz, kk, kp, q1, q2, q3, a, i, rfl, fun z => hd (.inl z), fun z => hd (.inr z), h8, h9, vLoc_inv h7, rfl⟩
section
variable {w : World} {c : Cx} {r : Str → Option X} {A : Around} {g : G} {φ : Tab} {k : Nat}
theorem wpAny_flown {base : Heap} {l : List Env} {e kd : Addr} {a0 : Value} {M : Model} {s : Shared} {h' : Heap} {Q : Unit → Shared → Prop} {E : Value → Shared → Prop} (y : Heap.FlyingW base l e (.ref kd) a0 s.heap) (u : h'.UpToSlots s.heap)
    (hQ : ∀ h2, Heap.FlyingW base l e (.ref kd) a0 h2 → h'.UpToSlots h2 → Q () { s with heap := h2 }) : wpAny M A (setFlight (.ref e) none) Q E s := by
  obtain ⟨f1, f2, f3, f4⟩ := y
  refine wpAny_setFlight_noneW f1 f3 f4.at fun h2 k1 k2 k3 k4 => hQ h2 ⟨k1, f2, k2, k3⟩ (u.trans fun b o hb hn => ⟨o.slots, k4 b o hb hn⟩)
theorem wpName {y : Str} {p : Pos} {s : Shared} {Q : Value → Shared → Prop} {E : Value → Shared → Prop} (hd : y ≠ Str.ofString "__debug__") (h : wpAny (MM w) A (loadName c.env y) Q E s) : wpAny (MM w) A (eval (.Name y p) c.env) Q E s := by
  rw [eval_Name c.env y p (notDebug hd)]; exact wpAny_bind (wpAny_standAt h)
theorem cmp_loc_inv {i : Nat} {kz : Int} {st : St} {out : Out V} (ev : evX φ (.cmp .Eq (.loc i) (.val (.int kz))) st = some out) : ∃ z, st.σ i = some (.int z) ∧ out = .ok (.bool (z == kz)) st := by
  simp -iota only [evX_e0, evX_e1, evX_e5, AM.bind, AM.pure, AM.look] at ev
  cases h : st.σ i with
  | none => rw [h] at ev; exact nn ev
  | some v =>
    rw [h] at ev
    induction v using V.casesOn with
    | int z => exact ⟨z, rfl, (Option.some.inj ev).symm⟩
    | _ => exact nn ev
theorem ret_cmp {x : Str} {kz : Int} {kk : Nat} {xp kp q1 q2 : Pos} {s : Shared} {z : Int} {t : Tok} {Q : Flow → Shared → Prop} {E : Value → Shared → Prop} (hd : x ≠ Str.ofString "__debug__") (hl : ∀ (Q : Value → Shared → Prop) (E : Value → Shared → Prop), Q (.int z t) s → wpAny (MM w) A (loadName c.env x) Q E s)
    (h : ∀ tk, Q (.ret (.bool (z == kz))) { s with toks := tk }) : wpAny (MM w) A (execs [.Return (some (.Compare (.Name x xp) [.Eq] [.Constant (.int kz) kk kp] q1)) q2] c.env) Q E s := by
  rw [execs_cons, exec_Return_some, eval_Compare1, marked_no rfl]
  refine wpAny_bind (wpAny_bind (wpAny_standAt (wpAny_bind (wpAny_bind (wpName hd (hl _ _ ?_))))))
  refine wpAny_bind (wpAny_holding (wpAny_Constant_int ?_))
  refine wpAny_bind (wpAny_standAt (wpAny_operate' ?_))
  exact eq_int (wpAny_pure (wpAny_pure (h _)))
theorem handle_by {n : Nat} (C : CxOk c) (K : KOk w c) (N : NameOk w c r) (RO : RsOk c r) (hfl : c.env.frame = some c.env.locals) {st : St} {hr h' : Heap} {e kd : Addr} {base : Heap} {a0 : Value} (I : Inv c r st g hr) (F : Flies c.frs hr h' kd e)
    (b1 : ∀ b o, hr.get? b = some o → b ∉ frA c.frs → base.get? b = some o) (hk : kd = 56 ∨ kd = 68) {Q : Flow → Shared → Prop} {E : Value → Shared → Prop} {out : Out V} {hs : List ExceptHandler} : ∀ {hs' : List (Addr × X)}, mapO (cH n r) hs = some hs' → ∀ {p}, (hs'.find? fun p => (subOf kd).contains p.1) = some p → evX φ p.2 st = some out →
    ∀ {s : Shared}, Heap.FlyingW base c.frs e (.ref kd) a0 s.heap → h'.UpToSlots s.heap → (∀ h2 tk b, Heap.FlyingW base c.frs e (.ref kd) a0 h2 → h'.UpToSlots h2 → out = .ok (.bool b) st → Q (.ret (.bool b)) { s with heap := h2, toks := tk }) →
    wpAny (MM w) A (handleBy (.ref e) c.env hs) Q E s := by
  induction hs with
  | nil => intro hs' h; obtain rfl := Option.some.inj h; intro p hp; exact nn hp
  | cons hd hs ih =>
    intro hs' hm p hp ev s y u ok
    obtain ⟨x, xs, h1, h2, rfl⟩ := mapO_c hm
    obtain ⟨cn, cp, x, xp, kz, kk, kp, q1, q2, q3, a, i, rfl, hd1, hd2, ra, ha, rx, rfl⟩ := ch_shape h1
    have I2 := (I.caught C hfl F b1 y u).1
    obtain ⟨cv, rv, hN⟩ := N cn _ ra (A.mark (some (.ref e))) g st.H s I2.hp
    obtain rfl := rv.fn_inv
    have LT : Looks (MM w) s.heap (typeOf (.ref e)) (.ref kd) := by obtain ⟨oe, vs, he, hc, _⟩ := y.first; exact hc ▸ (Looks.ld he).andThen .now
    have ex := exm_one (I2.hp.kin K) LT (exc_match _ hk ha)
    rw [List.find?_cons] at hp
    refine wpAny_handleBy_cons (codeAny_handlers_test (wpName hd1 (hN _ _ (ex _ _ _ _ (fun _ _ e => e) ?_)))) (fun q => nomatch q)
    cases hcn : (subOf kd).contains a with
    | false =>
      rw [hcn] at hp
      exact ih h2 hp ev y u ok
    | true =>
      rw [hcn] at hp
      obtain rfl := Option.some.inj hp
      refine codeAny_handlers_suite (wpAny_flown y u fun h2 y2 u2 => ?_)
      refine hide fun QQ dn => ?_
      obtain ⟨z, hz, eo⟩ := cmp_loc_inv ev
      obtain ⟨cv, rv, hl⟩ := locAt_load (w := w) (A := A.mark (some (.ref e))) (s := { s with heap := h2 }) C ((I.caught C hfl F b1 y2 u2).1.loc x i _ rx hz) fun q => RO.noClassdict i (q ▸ rx)
      obtain ⟨t, rfl⟩ := rv.int_inv
      exact dn (ret_cmp hd2 hl fun tk => ok h2 _ _ y2 u2 eo)
end
end Rk
end

section
open PySem PySem.W PySem.Calls PyProof.Rows PySem.Builtin
set_option maxRecDepth 100000
namespace Rk
section
variable {w : World} {c : Cx} {r : Str → Option X} {A : Around} {g : G} {φ : Tab} {k : Nat}
theorem sub_some {kd a : Addr} (h : (subOf kd).contains a = true) : kd = 56 ∨ kd = 68 := by
  unfold subOf at h
  split at h
  · exact .inr ‹_›
  · split at h
    · exact .inl ‹_›
    · simp -iota at h
theorem sy_try {n m : Nat} (C : CxOk c) (O : AOk w c A n) (K : KOk w c) (N : NameOk w c r) (RO : RsOk c r) (hfl : c.env.frame = some c.env.locals) {body : List Stmt} {yb : List Y} {h0 : ExceptHandler} {hs : List ExceptHandler} {hs' : List (Addr × X)} {pos : Pos}
    (hm : mapO (cH m r) (h0 :: hs) = some hs') (hb : ∀ g, Sim w c r A g FRep (execs body c.env) (evYs φ k yb)) : SY w c r A φ k (.Try body (h0 :: hs) [] [] pos) (.tries yb hs') := fun g => by
  rw [arm_exec_Try]
  simp -iota only [evY_e13]
  refine sim_at fun g₁ le st out e s Q E I P ok ex => ?_
  refine wpC_tryStmt ?_
  cases q : evYs φ k yb st with
  | none => rw [q] at e; exact nn e
  | some o =>
    rw [q] at e
    refine hb g g₁ le st o q s Q _ I PassesOwn.looking (fun b st' eo g₂ h₂ tk x S I₂ rx => ?_) fun kd st' eo g₂ hr h₂ tk x S I₂ F => ?_
    · subst eo; obtain rfl := Option.some.inj e
      exact ok _ _ rfl g₂ h₂ tk x S I₂ rx
    · subst eo
      simp only at e
      split at e
      · rename_i p hp
        have hk : kd = 56 ∨ kd = 68 := sub_some (a := p.1) (List.find?_some (p := fun p : Addr × X => (subOf kd).contains p.1) hp)
        unfold AM.bind at e
        cases ev : evX φ p.2 st' with
        | none => rw [ev] at e; exact nn e
        | some o2 =>
          rw [ev] at e
          refine flies_noted (frs := c.frs) O.frames hfl F fun base a0 h3 b1 hH u => ?_
          refine wpAny_landsW hH fun h4 hF u2 => ?_
          refine handle_by C K N RO hfl I₂ F b1 hk hm hp ev hF (u.trans u2) fun h5 tk5 b hF5 u5 eo => ?_
          subst eo
          obtain rfl := Option.some.inj e
          obtain ⟨I5, S5⟩ := I₂.caught C hfl F b1 hF5 u5
          exact ok _ _ rfl g₂ h5 tk5 _ (S.trans S5) I5 ⟨_, rfl, .bool b⟩
      · exact nn e
end
end Rk
end

section
open PySem PySem.W PySem.Calls PyProof.Rows
set_option maxRecDepth 100000
namespace Rk
noncomputable def compNames (env : Env) (names : List (Str × NameKind)) : List (Str × NameKind) := names.map fun (n, k) => if (k == .free && env.scope.kind == .function && env.kindOf n == some .cell) = true then (n, .cell) else (n, k)
noncomputable def compEnv (env : Env) (scope : Scope) (L : Addr) (clos : List (Str × Addr)) : Env :=
  { newEnv scope L env.globals clos env.qual none .none (some env) builtinsNs with scope := { scope with names := compNames env scope.names } }
theorem lookup_compNames {env : Env} (y : Str) : ∀ (l : List (Str × NameKind)), (compNames env l).lookup y = (l.lookup y).map fun k => if (k == .free && env.scope.kind == .function && env.kindOf y == some .cell) = true then .cell else k
  | [] => rfl
  | (n, k) :: l => by
    have ih := lookup_compNames (env := env) y l
    unfold compNames at ih ⊢
    simp -iota only [List.map_cons]
    by_cases h : y = n
    · subst h
      by_cases hc : (k == .free && env.scope.kind == .function && env.kindOf y == some .cell) = true
      · simp only [hc, if_true, List.lookup_cons_self, Option.map_some]
      · simp only [hc, if_false, List.lookup_cons_self, Option.map_some, Bool.false_eq_true]
    · have hb : (y == n) = false := beq_eq_false_iff_ne.mpr h
      by_cases hc : (k == .free && env.scope.kind == .function && env.kindOf n == some .cell) = true
      · simp only [hc, if_true, List.lookup_cons, hb]; exact ih
      · simp only [hc, if_false, List.lookup_cons, hb, Bool.false_eq_true]; exact ih
noncomputable def closL (env : Env) : List (Str × NameKind) → List (Str × Addr) → List (Str × Addr)
  | [], acc => acc
  | (n, k) :: l, acc => if (k == .free) = true then closL env l ((n, (env.cells.lookup n).getD 0) :: acc) else closL env l acc
theorem closL_e0 : closL env [] acc = acc := rfl
theorem closL_e1 : closL env ((n, k) :: l) acc = if (k == .free) = true then closL env l ((n, (env.cells.lookup n).getD 0) :: acc) else closL env l acc := rfl
theorem closureFor_eq {env : Env} {scope : Scope} (h : ∀ p ∈ scope.names, p.2 = .free → ∃ a, env.cells.lookup p.1 = some a) : closureFor scope env = pure (closL env scope.names []) := by
  have key : ∀ (l : List (Str × NameKind)) (acc : List (Str × Addr)), (∀ p ∈ l, p.2 = .free → ∃ a, env.cells.lookup p.1 = some a) →
      (forIn l acc fun (x : Str × NameKind) (r : List (Str × Addr)) => (do
        if (x.2 == NameKind.free) = true then do
            let y ← cellOf env x.1
            pure (ForInStep.yield ((x.1, y) :: r))
          else pure (ForInStep.yield r) : Sem (ForInStep (List (Str × Addr))))) = pure (closL env l acc) := by
    intro l
    induction l with
    | nil => intro acc _; rfl
    | cons p l ih =>
      intro acc hp
      obtain ⟨n, k⟩ := p
      simp -iota only [List.forIn_cons]
      rw [closL_e1]
      by_cases hk : (k == NameKind.free) = true
      · obtain ⟨a, ha⟩ := hp (n, k) List.mem_cons_self (beq_iff_eq.mp hk)
        have hc : cellOf env n = pure a := by unfold cellOf; rw [ha]
        simp -iota only [hk, if_true, hc, pure_bind, ha, Option.getD_some]
        exact ih _ fun q hq => hp q (List.mem_cons_of_mem _ hq)
      · simp -iota only [hk, if_false, pure_bind, Bool.false_eq_true]
        exact ih _ fun q hq => hp q (List.mem_cons_of_mem _ hq)
  unfold closureFor
  exact (congrArg (· >>= fun cs => pure cs) (key scope.names [] h)).trans (pure_bind _ _)
theorem closL_mem {env : Env} : ∀ (l : List (Str × NameKind)) (acc : List (Str × Addr)), (∀ p ∈ acc, env.cells.lookup p.1 = some p.2) → (∀ p ∈ l, p.2 = .free → ∃ a, env.cells.lookup p.1 = some a) →
    (∀ p ∈ closL env l acc, env.cells.lookup p.1 = some p.2) ∧ (∀ p ∈ acc, p ∈ closL env l acc) ∧ ∀ y, (y, NameKind.free) ∈ l → ∃ a, (y, a) ∈ closL env l acc
  | [], acc, h, _ => ⟨h, fun p hp => hp, fun y hy => nomatch hy⟩
  | (n, k) :: l, acc, h, hp => by
    rw [closL_e1]
    by_cases hk : (k == NameKind.free) = true
    · rw [if_pos hk]
      obtain ⟨a, ha⟩ := hp (n, k) List.mem_cons_self (beq_iff_eq.mp hk)
      simp only at ha
      rw [ha, Option.getD_some]
      obtain ⟨h1, h2, h3⟩ := closL_mem l ((n, a) :: acc) (fun p hp' => by
        rcases List.mem_cons.mp hp' with rfl | hp'
        · exact ha
        · exact h p hp') fun q hq => hp q (List.mem_cons_of_mem _ hq)
      refine ⟨h1, fun p hp' => h2 p (List.mem_cons_of_mem _ hp'), fun y hy => ?_⟩
      rcases List.mem_cons.mp hy with e | hy
      · cases e; exact ⟨a, h2 _ List.mem_cons_self⟩
      · exact h3 y hy
    · rw [if_neg hk]
      obtain ⟨h1, h2, h3⟩ := closL_mem l acc h fun q hq => hp q (List.mem_cons_of_mem _ hq)
      refine ⟨h1, h2, fun y hy => ?_⟩
      rcases List.mem_cons.mp hy with e | hy
      · cases e; exact absurd rfl hk
      · exact h3 y hy
theorem lookup_mem {α : Type} {l : List (Str × α)} {y : Str} {a : α} (h : l.lookup y = some a) : (y, a) ∈ l := by
  induction l with
  | nil => cases h
  | cons p l ih =>
    obtain ⟨n, b⟩ := p
    rw [List.lookup_cons] at h
    by_cases e : (y == n) = true
    · simp -iota only [e] at h; obtain rfl := Option.some.inj h; rw [beq_iff_eq.mp e]; exact List.mem_cons_self
    · simp -iota only [e] at h; exact List.mem_cons_of_mem _ (ih h)
theorem mem_lookup {α : Type} {l : List (Str × α)} {y : Str} {a : α} (h : (y, a) ∈ l) : ∃ b, l.lookup y = some b := by
  induction l with
  | nil => cases h
  | cons p l ih =>
    obtain ⟨n, b⟩ := p
    rw [List.lookup_cons]
    by_cases e : (y == n) = true
    · simp -iota only [e]; exact ⟨_, rfl⟩
    · simp -iota only [e]
      rcases List.mem_cons.mp h with q | h
      · cases q; simp -iota at e
      · exact ih h
theorem closL_lookup {env : Env} {l : List (Str × NameKind)} (hp : ∀ p ∈ l, p.2 = .free → ∃ a, env.cells.lookup p.1 = some a) {y : Str} (hy : (y, NameKind.free) ∈ l) : (closL env l []).lookup y = env.cells.lookup y := by
  obtain ⟨h1, h2, h3⟩ := closL_mem l [] (fun p h => nomatch h) hp
  obtain ⟨a, ha⟩ := h3 y hy
  obtain ⟨b, hb⟩ := mem_lookup ha
  rw [hb]
  exact (h1 _ (lookup_mem hb)).symm
noncomputable def CompR (M : Model) (A : Around) (E : Value → Shared → Prop) (use : Option (Value → Sem Unit)) (Q : Value → Shared → Prop) (acc : Value) (L : Addr) : Result → Shared → Prop := fun r s' => ∃ m, s'.heap.Ns L m ∧ match r, use with
  | .ok _, none => ∀ h', Heap.SameBut L s'.heap h' → Q acc { s' with heap := h' }
  | .ok _, some u => wpC M A (u acc) (fun _ s'' => ∃ m', s''.heap.Ns L m' ∧ ∀ h', Heap.SameBut L s''.heap h' → Q .none { s'' with heap := h' }) E s'
  | .error _, _ => False
section
variable {M : Model} {A : Around} {E : Value → Shared → Prop} {s : Shared} {env : Env}
theorem wpC_comprehension {e : Expr} {scope : Scope} {pos : Pos} {newAcc first : Sem Value} {g : Comprehension} {gs : List Comprehension} {use : Option (Value → Sem Unit)} {clos : List (Str × Addr)} {Q : Value → Shared → Prop}
    (hcl : clausesOf e = g :: gs) (hs : ∀ x, foldedSetIterable g.iter env x = pure x) (hclos : closureFor scope env = pure clos) (hkind : scope.kind = .function) (hnames : ∀ x ∈ scope.names, x.2 = .local → scope.names.lookup x.1 = some .local) (hnc : ∀ x ∈ scope.names, x.2 ≠ .cell)
    (h : wpC M A first (fun x s₁ => wpC M A (pyIter x) (fun it s₂ => wpC M A newAcc (fun acc s₃ => ∀ h₄, h₄.Ns s₃.heap.objs.size (fun _ => none) → Heap.SameBut s₃.heap.objs.size (s₃.heap.push { cls := .type "dict", data := .dict #[] }) h₄ →
        codeC M A (.compStart e 0 it acc (compEnv env scope s₃.heap.objs.size clos)) (CompR M A E use Q acc s₃.heap.objs.size) { s₃ with heap := h₄ }) E s₂) E s₁) E s) :
    wpC M A (comprehension e scope env pos newAcc false first use) Q E s := by
  unfold comprehension
  rw [hclos, hcl]
  refine wpC_bind (wpC_mono h (fun x s₁ h₁ => wpC_bind (wpC_standAt (wpC_bind (wpC_of_eq (hs x) (wpC_bind (wpC_holding (wpC_mono h₁ (fun it s₂ h₂ => ?_) fun _ _ h' => h'))))))) fun _ _ h' => h')
  have rest : wpC M A newAcc (fun acc s₃ => ∀ h₄, h₄.Ns s₃.heap.objs.size (fun _ => none) → Heap.SameBut s₃.heap.objs.size (s₃.heap.push { cls := .type "dict", data := .dict #[] }) h₄ →
        codeC M A (.compStart e 0 it acc (compEnv env scope s₃.heap.objs.size clos)) (CompR M A E use Q acc s₃.heap.objs.size) { s₃ with heap := h₄ }) E s₂ := h₂
  have std : ∀ {t : Sem Value}, wpC M A t Q E s₂ → wpC M A (if use.isSome = true then (standAt e.pos >>= fun _ => t) else t) Q E s₂ := fun ht => by
    split
    · exact wpC_bind (wpC_standAt ht)
    · exact ht
  refine std (wpC_bind (wpC_mono rest (fun acc s₃ h₃ => wpC_bind (wpC_pure (wpC_leaf ?_))) fun _ _ h' => h'))
  refine wpAny_newFunctionEnv hnc (fun x hx => nomatch hx) (fun h₄ hn hsb => ?_) hkind
  have h₅ := h₃ h₄ hn hsb
  have hv : ∀ x ∈ (scope.names.filter fun x => (x.2 == .local || x.2 == .cell) && x.1 != (".0" : Str)), x.2 = .local → Env.kindOf (compEnv env scope s₃.heap.objs.size clos) x.1 = some .local := fun x hx hl => by
    show (compNames env scope.names).lookup x.1 = some .local
    rw [lookup_compNames, hnames x (List.mem_filter.mp hx).1 hl]
    rfl
  have hv1 : ∀ x ∈ (scope.names.filter fun x => (x.2 == .local || x.2 == .cell) && x.1 != (".0" : Str)).reverse, x.2 = .local → Env.kindOf (compEnv env scope s₃.heap.objs.size clos) x.1 = some .local := fun x hx => hv x (List.mem_reverse.mp hx)
  have hv2 : ∀ x ∈ (scope.names.filter fun x => (x.2 == .local || x.2 == .cell) && x.1 != (".0" : Str)).reverse.drop 1 ++ (scope.names.filter fun x => (x.2 == .local || x.2 == .cell) && x.1 != (".0" : Str)).reverse.take 1, x.2 = .local → Env.kindOf (compEnv env scope s₃.heap.objs.size clos) x.1 = some .local := fun x hx => by
    rcases List.mem_append.mp hx with hx | hx
    · exact hv1 x (List.mem_of_mem_drop hx)
    · exact hv1 x (List.mem_of_mem_take hx)
  have hkc : (compEnv env scope s₃.heap.objs.size clos).scope.kind = .function := hkind
  refine wpC_holding (wpC_bind (wpC_attempt (wpC_holding (wpC_run rfl (codeC_mono h₅ fun r s' hr => ?_) (by intro q; cases q)))))
  obtain ⟨m, hn', hr⟩ := hr
  induction r using Except.casesOn with
  | error x => induction use using Option.casesOn <;> exact hr.elim
  | ok f =>
    induction use using Option.casesOn with
    | none => exact wpC_bind (wpC_holding (wpC_any (wpAny_comp_letGo hkc _ s' m hv1 hn' fun h' m' _ hs' => wpC_pure (hr h' hs'))))
    | some u =>
      refine wpC_bind (wpC_rule (wpC_bind (wpC_holding (wpC_mono hr (fun _ s'' hr' => ?_) fun _ _ h' => h'))))
      obtain ⟨m', hn'', hr''⟩ := hr'
      exact wpC_bind (wpC_any (wpAny_comp_letGo hkc _ s'' m' hv2 hn'' fun h' m'' _ hs' => wpC_pure (hr'' h' hs')))
end
end Rk
end

section
open PySem PySem.W PySem.Calls PyProof.Rows PySem.Builtin
set_option maxRecDepth 100000
namespace Rk
section
variable {w : World} {c : Cx} {r : Str → Option X} {A : Around} {g : G} {φ : Tab} {k : Nat} {H : List O} {s : Shared}
theorem Leaf.bindV {t : Sem Value} {f : Value → Sem Value} {b b' : V} (L : Leaf w c A H g s t b)
    (k : ∀ h' tk a g', g.le g' → g'.ρ = g.ρ → HInv c.B c.X H g' h' → (∀ x o, s.heap.get? x = some o → h'.get? x = some o) → Rep g' a b → Leaf w c A H g' { s with heap := h', toks := tk } (f a) b') : Leaf w c A H g s (t >>= f) b' :=
  fun Q E q => wpC_bind (L _ E fun h' tk a g' le eρ hp kp ra => k h' tk a g' le eρ hp kp ra Q E fun h'' tk' a' g'' le' eρ' hp' kp' ra' => q h'' tk' a' g'' (le.trans le') (eρ'.trans eρ) hp' (fun x o e => kp' x o (kp x o e)) ra')
theorem Leaf.at {t : Sem Value} {b : V} {pos : Pos} (L : Leaf w c A H g s t b) : Leaf w c A H g s (standAt pos >>= fun _ => t) b := fun Q E q => wpC_bind (wpC_standAt (L Q E q))
theorem Leaf.hold {t : Sem Value} {b : V} {vs : List Value} (L : Leaf w c A H g s t b) : Leaf w c A H g s (holding vs t) b := fun Q E q => wpC_holding (L Q E q)
theorem Leaf.oper {t : Sem Value} {b : V} {vs : List Value} (L : Leaf w c A H g s t b) : Leaf w c A H g s (operate vs t) b := fun Q E q => wpC_operate (L Q E q)
theorem Leaf.letGo {t : Sem Value} {b : V} {e : Expr} {o : Value} (L : Leaf w c A H g s t b) : Leaf w c A H g s (t >>= fun v => letTemporaryGo e o v >>= fun _ => pure v) b := fun Q E q =>
  wpC_bind (wpC_mono (L Q E q) (fun v s' h => wpC_bind (wpC_any (wpAny_letTemporaryGo (wpC_pure h)))) fun _ _ x => x)
noncomputable def Loads (w : World) (env : Env) (g : G) (h : Heap) (r' : Str → Option X) (σ : Nat → Option V) : Prop := ∀ y i v, r' y = some (.loc i) → σ i = some v → ∃ cv, Rep g cv v ∧
  ∀ (A : Around) (s : Shared), (∀ b o, h.get? b = some o → s.heap.get? b = some o) → ∀ (Q : Value → Shared → Prop) (E : Value → Shared → Prop), Q cv s → wpAny (MM w) A (loadName env y) Q E s
theorem Loads.keeps {env : Env} {g g' : G} {h h' : Heap} {r' : Str → Option X} {σ : Nat → Option V} (L : Loads w env g h r' σ) (le : g.le g') (k : ∀ b o, h.get? b = some o → h'.get? b = some o) : Loads w env g' h' r' σ := fun y i v e e' => by
  obtain ⟨cv, rv, q⟩ := L y i v e e'
  exact ⟨cv, rv.mono le, fun A s k' => q A s fun b o e => k' b o (k b o e)⟩
theorem pureE_k {m : Nat} {e : Expr} {P : Expr → Prop} (h : pureE (m + 1) e = true) (kc : ∀ i k p, P (.Constant (.int i) k p)) (kn : ∀ x p, P (.Name x p)) (kb : ∀ a op b p, pureE m a = true → pureE m b = true → P (.BinOp a op b p)) (ks : ∀ o i p, isSlice i = false → pureE m o = true → pureE m i = true → P (.Subscript o i p)) : P e := by
  induction e using Expr.casesOn with
  | Constant v k p => induction v using Const.casesOn <;> first | exact kc _ _ _ | exact ff h
  | Name x p => exact kn x p
  | BinOp a op b p => exact kb a op b p (and_t (and_t h).1).2 (and_t h).2
  | Subscript o i p => exact ks o i p (not_t (and_t (and_t h).1).1) (and_t (and_t h).1).2 (and_t h).2
  | _ => exact ff h
theorem cE_item {n : Nat} {r' : Str → Option X} {o i : Expr} {p : Pos} {x : X} (hs : isSlice i = false) (h : cE (n + 1) r' (.Subscript o i p) = some x) : o2 X.item (cE n r' o) (cE n r' i) = some x := by
  induction i using Expr.casesOn <;> first | exact h | cases hs
theorem name_inv {r' : Str → Option X} (hr : ∀ y x, r' y = some x → ∃ i, x = .loc i) {n : Nat} {y : Str} {p : Pos} {x : X} (h : cE (n + 1) r' (.Name y p) = some x) : y ≠ Str.ofString "__debug__" ∧ ∃ i, x = .loc i ∧ r' y = some (.loc i) := by
  have h : (if y = Str.ofString "__debug__" then none else r' y) = some x := h
  by_cases hd : y = Str.ofString "__debug__"
  · rw [if_pos hd] at h; exact nn h
  · rw [if_neg hd] at h
    obtain ⟨i, rfl⟩ := hr y x h
    exact ⟨hd, i, rfl, h⟩
theorem loc_inv {i : Nat} {st : St} {out : Out V} (ev : evX φ (.loc i) st = some out) : ∃ v, st.σ i = some v ∧ out = .ok v st := by
  have ev : (match st.σ i with | some v => some (.ok v st) | .none => .none) = some out := ev
  cases h : st.σ i with
  | none => rw [h] at ev; exact nn ev
  | some v => rw [h] at ev; exact ⟨v, rfl, (Option.some.inj ev).symm⟩
theorem two_inv {m1 m2 : AM V} {f : List O → V → V → Option V} {st : St} {out : Out V} (ha : ∀ o, m1 st = some o → ∃ v, o = .ok v st) (hb : ∀ o, m2 st = some o → ∃ v, o = .ok v st)
    (ev : (AM.bind m1 fun x => AM.bind m2 fun y => AM.look fun H => f H x y) st = some out) : ∃ va vb v, m1 st = some (.ok va st) ∧ m2 st = some (.ok vb st) ∧ f st.H va vb = some v ∧ out = .ok v st := by
  unfold AM.bind at ev
  cases e1 : m1 st with
  | none => rw [e1] at ev; exact nn ev
  | some o =>
    obtain ⟨va, rfl⟩ := ha o e1
    rw [e1] at ev
    dsimp only at ev
    cases e2 : m2 st with
    | none => rw [e2] at ev; exact nn ev
    | some o =>
      obtain ⟨vb, rfl⟩ := hb o e2
      rw [e2] at ev
      obtain ⟨v, hv, q⟩ := Option.map_eq_some_iff.mp (show (f st.H va vb).map (fun b => Out.ok b st) = some out from ev)
      exact ⟨va, vb, v, rfl, rfl, hv, q.symm⟩
theorem pure_same {r' : Str → Option X} (hr : ∀ y x, r' y = some x → ∃ i, x = .loc i) : ∀ (n m : Nat) (e : Expr) (x : X), cE n r' e = some x → pureE m e = true → ∀ st out, evX φ x st = some out → ∃ b, out = .ok b st := by
  intro n
  induction n with
  | zero => intro m e x h; exact nn h
  | succ n ih =>
    intro m e x h hp st out ev
    induction m using Nat.casesOn with
    | zero => exact ff hp
    | succ m =>
      revert h
      refine pureE_k (P := fun e => cE (n + 1) r' e = some x → ∃ b, out = .ok b st) hp (fun i k p h => ?_) (fun y p h => ?_) (fun a op b p pa pb h => ?_) (fun o i p hs pa pb h => ?_)
      · obtain rfl := Option.some.inj h
        exact ⟨_, (Option.some.inj ev).symm⟩
      · obtain ⟨_, i, rfl, _⟩ := name_inv hr h
        obtain ⟨v, _, q⟩ := loc_inv ev
        exact ⟨v, q⟩
      · revert ev
        refine o2_k (P := fun x => evX φ x st = some out → _) (i1 h).2 fun xa xb ha hb ev => ?_
        simp only [evX_e2] at ev
        obtain ⟨_, _, v, _, _, _, q⟩ := two_inv (f := fun H => binV H op) (ih m a xa ha pa st) (ih m b xb hb pb st) ev
        exact ⟨v, q⟩
      · revert ev
        refine o2_k (P := fun x => evX φ x st = some out → _) (cE_item hs h) fun xa xb ha hb ev => ?_
        simp only [evX_e9] at ev
        obtain ⟨_, _, v, _, _, _, q⟩ := two_inv (f := itemV) (ih m o xa ha pa st) (ih m i xb hb pb st) ev
        exact ⟨v, q⟩
theorem pure_leaf' {env : Env} {r' : Str → Option X} (hr : ∀ y x, r' y = some x → ∃ i, x = .loc i) : ∀ (n m : Nat) (e : Expr) (x : X), cE n r' e = some x → pureE m e = true → ∀ {g : G} {s : Shared} {σ : Nat → Option V}, Loads w env g s.heap r' σ → HInv c.B c.X H g s.heap →
    ∀ b, evX φ x ⟨σ, H⟩ = some (.ok b ⟨σ, H⟩) → Leaf w c A H g s (eval e env) b := by
  intro n
  induction n with
  | zero => intro m e x h; exact nn h
  | succ n ih =>
    intro m e x h hp g s σ L I b ev
    induction m using Nat.casesOn with
    | zero => exact ff hp
    | succ m =>
      revert h
      refine pureE_k (P := fun e => cE (n + 1) r' e = some x → Leaf w c A H g s (eval e env) b) hp (fun i k p h => ?_) (fun y p h => ?_) (fun a op b' p pa pb h => ?_) (fun o i p hs pa pb h => ?_)
      · obtain rfl := Option.some.inj h
        obtain rfl : V.int i = b := (Out.ok.inj (Option.some.inj ev)).1
        exact fun Q E q => wpC_any (wpAny_Constant_int (q s.heap _ _ g (.refl g) rfl I (fun _ _ e => e) (.int _ _)))
      · obtain ⟨hd, i, rfl, hi⟩ := name_inv hr h
        obtain ⟨v, hv, q⟩ := loc_inv ev
        obtain rfl : b = v := (Out.ok.inj q).1
        obtain ⟨cv, rv, q⟩ := L y i b hi hv
        refine fun Q E q' => ?_
        rw [eval_Name env y p (notDebug hd)]
        exact wpC_any (wpAny_bind (wpAny_standAt (q A s (fun _ _ e => e) _ _ (q' s.heap s.toks cv g (.refl g) rfl I (fun _ _ e => e) rv))))
      · revert ev
        refine o2_k (P := fun x => evX φ x ⟨σ, H⟩ = some (.ok b ⟨σ, H⟩) → _) (i1 h).2 fun xa xb ha hb ev => ?_
        simp only [evX_e2] at ev
        obtain ⟨va, vb, v, eva, evb, hv, q⟩ := two_inv (f := fun H => binV H op) (pure_same hr n m a xa ha pa _) (pure_same hr n m b' xb hb pb _) ev
        obtain rfl : b = v := (Out.ok.inj q).1
        rw [eval_BinOp]
        refine (ih m a xa ha pa L I va eva).bindV fun h' tk ca g' le eρ hp' kp ra => ?_
        refine (Leaf.hold (ih m b' xb hb pb (s := { s with heap := h', toks := tk }) (L.keeps le kp) hp' vb evb)).bindV fun h2 tk2 cb g2 le2 eρ2 hp2 kp2 rb => Leaf.at (Leaf.oper ?_)
        exact leaf_bin hp2 (ra.mono le2) rb hv
      · revert ev
        refine o2_k (P := fun x => evX φ x ⟨σ, H⟩ = some (.ok b ⟨σ, H⟩) → _) (cE_item hs h) fun xa xb ha hb ev => ?_
        simp only [evX_e9] at ev
        obtain ⟨va, vb, v, eva, evb, hv, q⟩ := two_inv (f := itemV) (pure_same hr n m o xa ha pa _) (pure_same hr n m i xb hb pb _) ev
        obtain rfl : b = v := (Out.ok.inj q).1
        rw [eval_Subscript]
        refine (ih m o xa ha pa L I va eva).bindV fun h' tk ca g' le eρ hp' kp ra => ?_
        refine (Leaf.hold (ih m i xb hb pb (s := { s with heap := h', toks := tk }) (L.keeps le kp) hp' vb evb)).bindV fun h2 tk2 cb g2 le2 eρ2 hp2 kp2 rb => Leaf.at ?_
        show Leaf w c A H g2 _ (do let b ← getitemInPython ca; let q ← subscripted i b ca cb; letTemporaryGo o ca q; pure q) _
        rw [show (do let b ← getitemInPython ca; let q ← subscripted i b ca cb; letTemporaryGo o ca q; pure q) = ((getitemInPython ca >>= fun b => subscripted i b ca cb) >>= fun q => letTemporaryGo o ca q >>= fun _ => pure q) by simp only [bind_assoc]]
        refine Leaf.letGo (leaf_sub (vs := [ca, cb]) hp2 (ra.mono le2) (.inl ⟨_, _, hv⟩) (fun b hb => ?_) (leaf_item hp2 (ra.mono le2) rb hv))
        subst hb
        induction i using Expr.casesOn <;> first | rfl | cases hs
theorem pure_leaf {env : Env} {r' : Str → Option X} (hr : ∀ y x, r' y = some x → ∃ i, x = .loc i) (n m : Nat) (e : Expr) (x : X) (h : cE n r' e = some x) (hp : pureE m e = true) {g : G} {s : Shared} {σ : Nat → Option V} (L : Loads w env g s.heap r' σ) (I : HInv c.B c.X H g s.heap)
    (out : Out V) (ev : evX φ x ⟨σ, H⟩ = some out) : ∃ b, out = .ok b ⟨σ, H⟩ ∧ Leaf w c A H g s (eval e env) b := by
  obtain ⟨b, rfl⟩ := pure_same hr n m e x h hp _ _ ev
  exact ⟨b, rfl, pure_leaf' hr n m e x h hp L I b ev⟩
end
end Rk
end

section
open PySem PySem.W PySem.Calls PyProof.Rows PySem.Builtin
set_option maxRecDepth 100000
namespace Rk
theorem HInv.adopt {B : Heap} {X : List Addr} {H : List O} {g : G} {h : Heap} {a : Addr} {o : Obj} (I : HInv B X H g h) (hX : a ∉ X) (z : g.Z a = none) (m : a ∉ muts g) (e : h.get? a = some o) : HInv B X H (g.add a o) h := by
  have le := G.le_add (o := o) z
  refine ⟨fun b ob q => le.1 _ _ (I.base b ob q), fun b ob q => ?_, fun b hb => ?_, I.rx, I.nd, I.len, fun i p ob q q' => (I.objs i p ob q q').move le (fun _ w => w) (fun w => ?_), I.inh, I.xin⟩
  · by_cases w : b = a
    · subst w
      have : some o = some ob := by simpa [G.add] using q
      obtain rfl := Option.some.inj this; exact e
    · exact I.zin b ob (by simpa [G.add, w] using q)
  · show (if b = a then some o else g.Z b) = none
    rw [if_neg (fun (w : b = a) => hX (w ▸ hb))]; exact I.zx b hb
  · show (if p.2 = a then some o else g.Z p.2) = none
    rw [if_neg (fun (w : p.2 = a) => m (w ▸ mem_muts q))]; exact w
section
variable {w : World} {c : Cx} {r : Str → Option X} {A : Around} {g : G} {φ : Tab} {k : Nat} {H : List O} {s : Shared}
noncomputable abbrev Cx.w2 (c : Cx) (acc L : Addr) : Cx := (c.wi L).wi acc
noncomputable abbrev Cx.w3 (c : Cx) (I acc L : Addr) : Cx := (c.w2 acc L).wi I
theorem mem_w2 {acc L b : Addr} : b ∈ (c.w2 acc L).X ↔ b = acc ∨ b = L ∨ b ∈ c.X := by
  show b ∈ ((c.wi L).wi acc).X ↔ _
  rw [mem_wi, mem_wi]
theorem mem_w3 {I acc L b : Addr} : b ∈ (c.w3 I acc L).X ↔ b = I ∨ b = acc ∨ b = L ∨ b ∈ c.X := by
  show b ∈ ((c.w2 acc L).wi I).X ↔ _
  rw [mem_wi, mem_w2]
noncomputable def LoopOk (w : World) (c : Cx) (A : Around) (H : List O) (elt iter : Expr) (x : Str) (xp : Pos) (sc : Scope) (pos : Pos) (env : Env) (I acc L : Addr) (g₀ : G) (base : Heap) (St' : Nat → Heap → Prop) (R : Result → Shared → Prop) (j : Nat) (us : List V) : Prop :=
  ∀ (g : G) (s : Shared) (items : List Value) (nn : Nat) (done : List V), g₀.le g → g.ρ = g₀.ρ → HInv c.B (c.w3 I acc L).X H g s.heap →
      (∀ b o, base.get? b = some o → s.heap.get? b = some o) → St' j s.heap → s.heap.get? acc = some { cls := .type "list", data := .seq items.toArray nn } → RepL g items done → done.length = j → (∃ m, s.heap.Ns L m) →
      (∀ g' h' tk items' nn', g₀.le g' → g'.ρ = g₀.ρ → HInv c.B (c.w2 acc L).X H g' h' → (∀ b o, base.get? b = some o → h'.get? b = some o) → h'.get? acc = some { cls := .type "list", data := .seq items'.toArray nn' } → RepL g' items' (done ++ us) → (∃ m, h'.Ns L m) → R (.ok .next) { s with heap := h', toks := tk }) →
      codeC (MM w) A (.compLoop (.ListComp elt [⟨.Name x xp, iter, [], 0⟩] sc pos) 0 (.ref I) (.ref acc) env) R s
theorem comp_loop {env : Env} {x : Str} {r' : Str → Option X} {σ : Nat → Option V} {I acc L : Addr} {n mm : Nat} {elt iter : Expr} {xp : Pos} {sc : Scope} {pos : Pos} {xe : X} {g₀ : G} {xs : List V} {fp : List Addr} {P : Nat → Value → Prop} {St' : Nat → Heap → Prop} {base : Heap} {R : Result → Shared → Prop}
    (hr : ∀ y x, r' y = some x → ∃ i, x = .loc i) (fnk : env.scope.kind = .function) (kx : env.kindOf x = some .local) (hL : env.locals = L) (It : Iter w A g₀ I xs fp P St') (hI : I ≠ acc) (hIL : I ≠ L) (haL : acc ≠ L) (hz : xs.length ≤ 1000000) (hIX : I ∉ c.X)
    (hnI : base.get? I = none) (hnA : base.get? acc = none) (hnL : base.get? L = none)
    (loads : ∀ g h v cv m, g₀.le g → (∀ b o, base.get? b = some o → h.get? b = some o) → Rep g cv v → h.Ns L m → m x = some cv → Loads w env g h r' (fun j => if j = 999 then some v else σ j))
    (helt : cE n r' elt = some xe) (hpe : pureE mm elt = true) :
    ∀ (m j : Nat), j + m = xs.length → ∀ out, compV (evX φ xe) 999 (xs.drop j) ⟨σ, H⟩ = some out → ∃ us, out = .ok us ⟨σ, H⟩ ∧ LoopOk w c A H elt iter x xp sc pos env I acc L g₀ base St' R j us := by
  intro m
  induction m with
  | zero =>
    intro j hj out e
    have hj' : j = xs.length := by omega
    subst hj'
    rw [List.drop_length] at e
    obtain rfl := Option.some.inj e
    refine ⟨[], rfl, fun g s items nn done le eρ V kb hst ha rl hd hn q => codeC_of_tree ?_⟩
    have hA : A.under (.compLoop (.ListComp elt [⟨.Name x xp, iter, [], 0⟩] sc pos) 0 (.ref I) (.ref acc) env) = A := Around.under_of_weight rfl
    rw [hA]
    show wpC _ A ((compTurn (.ListComp elt [⟨.Name x xp, iter, [], 0⟩] sc pos) 0 (.ref I) (.ref acc) env).onRaise (fun x => do noteFrame x env; theTreesLotGoes x)) _ _ s
    rw [compTurn_list1]
    refine wpC_onRaise (wpC_bind (wpC_standAt (wpC_bind (wpC_any (It.W.done s _ _ hst fun h' tk kp => ?_)))))
    have kp' : ∀ b o, b ≠ I → s.heap.get? b = some o → h'.get? b = some o := fun b o n e => kp b o (by simpa using n) e
    have a := ItAt.of (c := c.w2 acc L) V
    have hI2 : I ∉ (c.w2 acc L).X := fun z => by
      rcases mem_w2.mp z with z | z | z
      · exact hI z
      · exact hIL z
      · exact hIX z
    refine wpC_pure (q g h' tk items nn le eρ ((HInv.narrow (c := c.w2 acc L) V).off kp' hI2 a.z a.m) (fun b o e => kp' b o (fun z => by rw [z, hnI] at e; cases e) (kb b o e)) (kp' acc _ (Ne.symm hI) ha) (by rw [List.append_nil]; exact rl) ?_)
    obtain ⟨m, hm⟩ := hn
    exact ⟨m, Ns_slots hm fun o e => ⟨o.slots, kp' L o (Ne.symm hIL) e⟩⟩
  | succ m ih =>
    intro j hj out e
    have hlt : j < xs.length := by omega
    rw [List.drop_eq_getElem_cons hlt] at e
    simp only [compV_e1] at e
    split at e
    · rename_i u s' eu
      obtain ⟨u', eq⟩ := pure_same hr n mm elt xe helt hpe _ _ eu
      cases eq
      unfold AM.bind at e
      dsimp only at e
      cases q : compV (evX φ xe) 999 (xs.drop (j + 1)) ⟨σ, H⟩ with
      | none => rw [q] at e; exact nn e
      | some o2 =>
        obtain ⟨us, rfl, K⟩ := ih (j + 1) (by omega) o2 q
        rw [q] at e
        obtain rfl := Option.some.inj e
        refine ⟨u :: us, rfl, fun g s items nn done le eρ V kb hst ha rl hd hn q => codeC_of_tree ?_⟩
        have hA : A.under (.compLoop (.ListComp elt [⟨.Name x xp, iter, [], 0⟩] sc pos) 0 (.ref I) (.ref acc) env) = A := Around.under_of_weight rfl
        rw [hA]
        show wpC _ A ((compTurn (.ListComp elt [⟨.Name x xp, iter, [], 0⟩] sc pos) 0 (.ref I) (.ref acc) env).onRaise (fun x => do noteFrame x env; theTreesLotGoes x)) _ _ s
        rw [compTurn_list1]
        refine wpC_onRaise (wpC_bind (wpC_standAt (wpC_bind (wpC_any (It.W.item j s _ _ hlt hst fun v h' tk hv hst' kp => ?_)))))
        have kp' : ∀ b o, b ≠ I → s.heap.get? b = some o → h'.get? b = some o := fun b o n e => kp b o (by simpa using n) e
        obtain ⟨x', hx', rx⟩ := It.rep j v hlt hv
        rw [List.getElem?_eq_getElem hlt] at hx'
        obtain rfl := Option.some.inj hx'
        have V1 : HInv c.B (c.w3 I acc L).X H g h' := V.without (fun b o hb e => kp' b o (fun z => hb (mem_w3.mpr (.inl z))) e) fun b hb => by
          by_cases z : b = I
          · rw [z]; exact It.ex _ _ hst'
          · obtain ⟨o, e⟩ := V.xin b hb; exact ⟨o, kp' b o z e⟩
        have kb1 : ∀ b o, base.get? b = some o → h'.get? b = some o := fun b o e => kp' b o (fun z => by rw [z, hnI] at e; cases e) (kb b o e)
        have ha1 := kp' acc _ (Ne.symm hI) ha
        obtain ⟨m0, hm0⟩ := hn
        have hm1 : h'.Ns L m0 := Ns_slots hm0 fun o e => ⟨o.slots, kp' L o (Ne.symm hIL) e⟩
        refine wpC_bind (wpC_of_eq (a := ()) rfl ?_)
        refine wpC_bind ?_
        show wpC _ A (standAt xp >>= fun _ => bindName env x v) _ _ _
        unfold bindName
        refine wpC_bind (wpC_standAt (wpC_bind (wpC_holding (wpC_point ?_))))
        refine wpC_bind (wpC_any (wpAny_storeName_local (s := { s with heap := h', toks := tk }) kx (by rw [hL]; exact hm1) (fun h2 hn2 hs2 => wpC_point ?_) (by rw [fnk]; rfl)))
        rw [hL] at hn2 hs2
        have kp2 : ∀ b o, b ≠ L → h'.get? b = some o → h2.get? b = some o := fun b o n e => (hs2.2 b n).trans e
        have V2 : HInv c.B (c.w3 I acc L).X H g h2 := V1.own (mem_w3.mpr (.inr (.inr (.inl rfl)))) hs2 (by obtain ⟨o, _, _, e, _⟩ := hn2; exact ⟨o, e⟩)
        have kb2 : ∀ b o, base.get? b = some o → h2.get? b = some o := fun b o e => kp2 b o (fun z => by rw [z, hnL] at e; cases e) (kb1 b o e)
        have ha2 := kp2 acc _ haL ha1
        have LD := loads g h2 xs[j] v _ le kb2 (rx.mono le) hn2 (by simp)
        obtain ⟨b, eq, Lf⟩ := pure_leaf (c := c.w3 I acc L) (A := A) hr n mm elt xe helt hpe (s := { s with heap := h2, toks := tk + 1 }) LD V2 _ eu
        cases eq
        refine wpC_bind (wpC_bind (Lf _ _ fun h3 tk3 a g3 le3 eρ3 V3 kp3 ra => ?_))
        have ha3 := kp3 _ _ ha2
        have hsz : items.toArray.size ≤ sizeLine := by have := rl.length; simp only [List.size_toArray]; rw [sizeLine_eq]; omega
        refine wpC_bind (wpC_any (call_meets PySem.F.slot_list_append ⟨_, ha3, rfl⟩ PySem.F.entry_list_append (PySem.F.args_list_append_2 _ _) (list_append acc items.toArray nn a hsz) ⟨ha3, ?_⟩))
        have hs : Heap.SameBut acc h3 (h3.update acc (Obj.mapSeq fun x_1 => x_1.push a)) := Heap.SameBut.update ..
        have hn4 := Heap.get?_update_self (Obj.mapSeq fun x_1 => x_1.push a) ha3 rfl
        have ha4 : (h3.update acc (Obj.mapSeq fun x_1 => x_1.push a)).get? acc = some { cls := .type "list", data := .seq (items ++ [a]).toArray (nn + 1) } := by
          rw [hn4]; simp [Obj.mapSeq]
        have kp4 : ∀ b o, b ≠ acc → h3.get? b = some o → (h3.update acc (Obj.mapSeq fun x_1 => x_1.push a)).get? b = some o := fun b o n e => (hs.2 b n).trans e
        have V4 := V3.own (mem_w3.mpr (.inr (.inl rfl))) hs ⟨_, ha4⟩
        refine wpC_pure (wpC_pure ⟨⟨rfl, rfl⟩, K g3 _ (items ++ [a]) (nn + 1) (done ++ [u]) (le.trans le3) (eρ3.trans eρ) V4 (fun b o e => kp4 b o (fun z => by rw [z, hnA] at e; cases e) (kp3 b o (kb2 b o e))) ?_ ha4 ((rl.mono le3).append (.cons ra .nil)) (by rw [List.length_append, hd]; rfl) ?_ ?_⟩)
        · refine It.W.frame _ _ _ hst' fun b hbf o eo => ?_
          rcases It.fp b hbf with rfl | ⟨ob, z⟩
          · exact kp4 _ _ hI (kp3 _ _ (kp2 _ _ hIL eo))
          · have h1 := V1.zin b ob (le.1 _ _ z)
            rw [h1] at eo; obtain rfl := Option.some.inj eo
            exact V4.zin b _ (le3.1 _ _ (le.1 _ _ z))
        · exact ⟨_, Ns_slots hn2 fun o e => ⟨o.slots, kp4 L o (Ne.symm haL) (kp3 _ _ e)⟩⟩
        · intro g' h' tk' items' nn' l1 l2 l3 l4 l5 l6 l7
          exact q g' h' tk' items' nn' l1 l2 l3 l4 l5 (by rw [List.append_assoc] at l6; exact l6) l7
    · exact nn e
end
end Rk
end

section
set_option genSizeOf false
set_option genCtorIdx false
open PySem PySem.W PySem.Calls PyProof.Rows PySem.Builtin
set_option maxRecDepth 100000
namespace Rk
section
variable {w : World} {c : Cx} {r : Str → Option X} {A : Around} {g : G} {φ : Tab} {k : Nat} {H : List O} {s : Shared}
theorem codeC_compStart {elt target iter : Expr} {scope : Scope} {pos : Pos} {it acc : Value} {env : Env} {R : Result → Shared → Prop}
    (h0 : codeC (MM w) A (.compLoop (.ListComp elt [⟨target, iter, [], 0⟩] scope pos) 0 it acc env) R s)
    (hself : ∀ (Q : Value → Shared → Prop) (E : Value → Shared → Prop), Q it s → wpAny (MM w) A (pyIter it) Q E s) :
    codeC (MM w) A (.compStart (.ListComp elt [⟨target, iter, [], 0⟩] scope pos) 0 it acc env) R s := by
  refine codeC_of_tree ?_
  have hA : A.under (.compStart (.ListComp elt [⟨target, iter, [], 0⟩] scope pos) 0 it acc env) = A := Around.under_of_weight rfl
  rw [hA]
  show wpC _ A ((compStart (.ListComp elt [⟨target, iter, [], 0⟩] scope pos) 0 it acc env).onRaise (fun x => do noteFrame x env; standAt theWindowsPlace)) _ _ s
  refine wpC_any (wpAny_notedAt ?_)
  unfold compStart
  show wpAny _ _ (ask >>= _) _ _ s
  refine wpAny_bind (wpAny_askSetting (wpAny_ite ?_))
  split
  · first
      | exact wpAny_bind (wpAny_pure (wpAny_pure (And.intro ⟨rfl, rfl⟩ h0)))
      | exact wpAny_pure (And.intro ⟨rfl, rfl⟩ h0)
  · first
      | exact wpAny_bind (wpAny_rule (wpAny_bind (wpAny_standAt (wpAny_bind (hself _ _ (wpAny_pure (And.intro ⟨rfl, rfl⟩ h0)))))))
      | (refine wpAny_bind (wpAny_rule ?_); show wpAny _ _ (standAt iter.pos >>= _) _ _ s; exact wpAny_bind (wpAny_standAt (wpAny_bind (hself _ _ (wpAny_pure (And.intro ⟨rfl, rfl⟩ h0))))))
theorem inComp_loc {sc : Scope} {x : Str} : ∀ y e, inComp r sc x y = some e → ∃ i, e = .loc i := fun y e h => by
  rcases inComp_k h with ⟨_, _, q⟩ | ⟨_, i, _, _, q⟩ <;> exact ⟨_, q⟩
structure ScOk (c : Cx) (r : Str → Option X) (sc : Scope) (x : Str) : Prop where
  kind : sc.kind = .function
  loc : sc.names.lookup x = some .local
  names : ∀ p ∈ sc.names, p.2 = .local → sc.names.lookup p.1 = some .local
  nc : ∀ p ∈ sc.names, p.2 ≠ .cell
  free : ∀ p ∈ sc.names, p.2 = .free → ∃ a, c.env.kindOf p.1 = some .cell ∧ c.env.cells.lookup p.1 = some a
theorem okSc_of (RO : RsOk c r) {sc : Scope} {x : Str} (h : okSc r sc x = true) : ScOk c r sc x := by
  unfold okSc at h
  have h := and_t h
  have h4 := List.all_eq_true.mp h.2
  have h := and_t (and_t h.1).1
  refine ⟨beq_iff_eq.mp h.1, beq_iff_eq.mp h.2, fun p hp hk => ?_, fun p hp hk => ?_, fun p hp hk => ?_⟩
  · have := h4 p hp; rw [hk] at this; exact beq_iff_eq.mp this
  · have := h4 p hp; rw [hk] at this; exact ff this
  · have := h4 p hp
    rw [hk] at this
    obtain ⟨i, hi, hb⟩ := any_k (and_t this).2
    have hb := RO.big _ i (vLoc_inv hi) (of_decide_eq_true hb)
    rcases RO.kind _ i (vLoc_inv hi) with hk | ⟨hk, a, ha, _⟩
    · rw [hb] at hk; cases hk
    · exact ⟨a, hk, ha⟩
theorem compV_len {f : AM V} {i : Nat} : ∀ {xs : List V} {st us st'}, compV f i xs st = some (.ok us st') → us.length = xs.length
  | [], st, us, st', h => by obtain ⟨rfl, rfl⟩ := Out.ok.inj (Option.some.inj h); rfl
  | v :: xs, st, us, st', h => by
    simp only [compV_e1] at h
    split at h
    · rename_i u s' _
      unfold AM.bind at h
      dsimp only at h
      cases q : compV f i xs ⟨st.σ, s'.H⟩ with
      | none => rw [q] at h; exact nn h
      | some o =>
        rw [q] at h
        induction o using Out.casesOn with
        | ok us' st'' => obtain ⟨rfl, rfl⟩ := Out.ok.inj (Option.some.inj h); simp [compV_len q]
        | exc _ _ => cases h
    · exact nn h
theorem comp_inner {n mm : Nat} (C : CxOk c) (RO : RsOk c r) (hh : A.handled = none) {st : St} (I : Inv c r st g s.heap) {sc : Scope} {x : Str} {xp pos : Pos} {it elt : Expr} {xe : X} (hsc : ScOk c r sc x) (helt : cE n (inComp r sc x) elt = some xe) (hpe : pureE mm elt = true)
    {v : Value} {u : V} {xs : List V} (rv : Rep g v u) (hi : itemsV st.H u = some xs) (hz : xs.length ≤ 1000000) {out : Out (List V)} (hc : compV (evX φ xe) 999 xs st = some out) :
    ∃ us, out = .ok us st ∧ ∀ (use : Option (Value → Sem Unit)) (Q : Value → Shared → Prop) (E : Value → Shared → Prop), (∀ h' tk acc L g' m, g.le g' → g'.ρ = g.ρ → HInv c.B (c.wi L).X st.H g' h' → (∀ b o, s.heap.get? b = some o → h'.get? b = some o) → Rep g' acc (.list us) → s.heap.get? L = none → h'.Ns L m →
      (match use with
        | none => ∀ h'', Heap.SameBut L h' h'' → Q acc { s with heap := h'', toks := tk }
        | some u => wpC (MM w) A (u acc) (fun _ s'' => ∃ m', s''.heap.Ns L m' ∧ ∀ h', Heap.SameBut L s''.heap h' → Q .none { s'' with heap := h' }) E { s with heap := h', toks := tk })) →
      wpC (MM w) A (pyIter v) (fun it' s₂ => wpC (MM w) A (newList []) (fun acc s₃ => ∀ h₄, h₄.Ns s₃.heap.objs.size (fun _ => none) → Heap.SameBut s₃.heap.objs.size (s₃.heap.push { cls := .type "dict", data := .dict #[] }) h₄ →
        codeC (MM w) A (.compStart (.ListComp elt [⟨.Name x xp, it, [], 0⟩] sc pos) 0 it' acc (compEnv c.env sc s₃.heap.objs.size (closL c.env sc.names []))) (CompR (MM w) A E use Q acc s₃.heap.objs.size) { s₃ with heap := h₄ }) E s₂) E s := by
  have hfree : ∀ p ∈ sc.names, p.2 = .free → ∃ a, c.env.cells.lookup p.1 = some a := fun p hp hk => let ⟨a, _, h⟩ := hsc.free p hp hk; ⟨a, h⟩
  have key : ∃ us, out = .ok us st := by
    have : ∀ (xs : List V) out, compV (evX φ xe) 999 xs st = some out → ∃ us, out = .ok us st := by
      intro xs
      induction xs with
      | nil => intro out h; obtain rfl := Option.some.inj h; exact ⟨_, rfl⟩
      | cons a xs ih =>
        intro out h
        simp only [compV_e1] at h
        split at h
        · rename_i u' s' eu
          obtain ⟨b, eq⟩ := pure_same inComp_loc n mm elt xe helt hpe _ _ eu
          cases eq
          unfold AM.bind at h
          dsimp only at h
          cases q : compV (evX φ xe) 999 xs st with
          | none => rw [q] at h; exact nn h
          | some o => obtain ⟨us, rfl⟩ := ih o q; rw [q] at h; obtain rfl := Option.some.inj h; exact ⟨_, rfl⟩
        · exact nn h
    exact this xs out hc
  obtain ⟨us, rfl⟩ := key
  refine ⟨us, rfl, fun use Q E K => ?_⟩
  refine wpC_any (iter_make hh I.hp rv hi _ _ fun o fp P St' hfr It hst => ?_)
  have size1 : (s.heap.push o).objs.size = s.heap.objs.size + 1 := Heap.size_push ..
  refine wpC_any (wpAny_newObj_type ?_ (by show 0 ≤ sizeLine; lia))
  intro h₄ hns hsb
  have kp1 := keeps_push s.heap o
  have kp2 := keeps_push (s.heap.push o) { cls := .type "list", data := .seq (#[] : Array Value) }
  have kp3 := keeps_push ((s.heap.push o).push { cls := .type "list", data := .seq (#[] : Array Value) }) { cls := .type "dict", data := .dict #[] }
  have size2 : ((s.heap.push o).push { cls := .type "list", data := .seq (#[] : Array Value) }).objs.size = s.heap.objs.size + 2 := by rw [Heap.size_push, size1]
  change h₄.Ns ((s.heap.push o).push { cls := .type "list", data := .seq (#[] : Array Value) }).objs.size _ at hns
  change Heap.SameBut ((s.heap.push o).push { cls := .type "list", data := .seq (#[] : Array Value) }).objs.size (((s.heap.push o).push { cls := .type "list", data := .seq (#[] : Array Value) }).push { cls := .type "dict", data := .dict #[] }) h₄ at hsb
  show codeC (MM w) A (.compStart (.ListComp elt [⟨.Name x xp, it, [], 0⟩] sc pos) 0 (.ref s.heap.objs.size) (.ref (s.heap.push o).objs.size) (compEnv c.env sc ((s.heap.push o).push { cls := .type "list", data := .seq (#[] : Array Value) }).objs.size (closL c.env sc.names []))) (CompR (MM w) A E use Q (.ref (s.heap.push o).objs.size) ((s.heap.push o).push { cls := .type "list", data := .seq (#[] : Array Value) }).objs.size) _
  rw [size2] at hns hsb
  rw [size2, size1]
  generalize hI : s.heap.objs.size = aI at *
  have nij : ∀ i j : Nat, i ≠ j → aI + i ≠ aI + j := fun i j h q => h (Nat.add_left_cancel q)
  have n01 : aI ≠ aI + 1 := nij 0 1 (by decide)
  have n02 : aI ≠ aI + 2 := nij 0 2 (by decide)
  have n12 : aI + 1 ≠ aI + 2 := nij 1 2 (by decide)
  have fresh : ∀ j, s.heap.get? (aI + j) = none := fun j => by
    cases e : s.heap.get? (aI + j) with
    | none => rfl
    | some o => exact absurd (Heap.lt_size e) (by rw [hI]; exact Nat.not_lt.mpr (Nat.le_add_right _ _))
  have keep : ∀ b o', s.heap.get? b = some o' → h₄.get? b = some o' := fun b o' e => by
    have : b ≠ aI + 2 := fun q => by rw [q, fresh] at e; exact nn e
    exact (hsb.2 b this).trans (kp3 _ _ (kp2 _ _ (kp1 _ _ e)))
  have hacc : h₄.get? (aI + 1) = some { cls := .type "list", data := .seq (#[] : Array Value) } := by
    refine (hsb.2 _ n12).trans (kp3 _ _ ?_)
    have := Heap.get?_push_size (s.heap.push o) (o := { cls := .type "list", data := .seq (#[] : Array Value) }) rfl
    rwa [size1] at this
  have hit : h₄.get? aI = some o := by
    refine (hsb.2 _ n02).trans (kp3 _ _ (kp2 _ _ ?_))
    have := Heap.get?_push_size s.heap (o := o) hfr
    rwa [hI] at this
  have hLat : ∃ o, h₄.get? (aI + 2) = some o := by obtain ⟨o, _, _, e, _⟩ := hns; exact ⟨o, e⟩
  have zn : ∀ j, g.Z (aI + j) = none := fun j => by
    cases e : g.Z (aI + j) with
    | none => rfl
    | some o' => have := I.hp.zin _ o' e; rw [fresh] at this; exact nn this
  have mn : ∀ j, aI + j ∉ muts g := fun j q => by obtain ⟨ob, e⟩ := I.hp.inh _ q; rw [fresh] at e; exact nn e
  have xn : ∀ j, aI + j ∉ c.X := fun j q => by obtain ⟨ob, e⟩ := I.hp.xin _ q; rw [fresh] at e; exact nn e
  have V3 : HInv c.B (c.w3 aI (aI + 1) (aI + 2)).X st.H g h₄ :=
    HInv.widen (c := c.w2 (aI + 1) (aI + 2)) (HInv.widen (c := c.wi (aI + 2)) (HInv.widen (c := c) (I.hp.keeps keep) ⟨zn 2, mn 2, hLat⟩) ⟨zn 1, mn 1, ⟨_, hacc⟩⟩) ⟨zn 0, mn 0, ⟨_, hit⟩⟩
  have hst4 : St' 0 h₄ := It.W.frame 0 _ _ hst fun b hbf o' e => by
    rcases It.fp b hbf with rfl | ⟨ob, z⟩
    · exact (hsb.2 _ n02).trans (kp3 _ _ (kp2 _ _ e))
    · have h1 := kp1 _ _ (I.hp.zin b ob z)
      rw [h1] at e; obtain rfl := Option.some.inj e
      exact keep _ _ (I.hp.zin b _ z)
  have hkind : (compEnv c.env sc (aI + 2) (closL c.env sc.names [])).scope.kind = .function := hsc.kind
  have hkx : (compEnv c.env sc (aI + 2) (closL c.env sc.names [])).kindOf x = some .local := by
    show (compNames c.env sc.names).lookup x = some .local
    rw [lookup_compNames, hsc.loc]; rfl
  have LDS : ∀ (g' : G) (h' : Heap) (v' : V) (cv : Value) (m : Str → Option Value), g.le g' → (∀ b o, s.heap.get? b = some o → h'.get? b = some o) → Rep g' cv v' → h'.Ns (aI + 2) m → m x = some cv →
      Loads w (compEnv c.env sc (aI + 2) (closL c.env sc.names [])) g' h' (inComp r sc x) (fun j => if j = 999 then some v' else st.σ j) := by
    intro g' h' v' cv m le kb rc hn hm
    intro y i v2 hy hv2
    rcases inComp_k hy with ⟨hl, hyx, q⟩ | ⟨hl, i', hri, hlt, q⟩
    · subst hyx
      obtain rfl := X.loc.inj q
      obtain rfl : v' = v2 := Option.some.inj hv2
      exact ⟨cv, rc, fun A' s' k' Q' E' q => wpAny_loadName_local hkind hkx (Ns_slots hn fun o e => ⟨o.slots, k' _ _ e⟩) hm q⟩
    · obtain rfl := X.loc.inj q
      have hv2 : st.σ i = some v2 := (if_neg (Nat.ne_of_lt hlt)).symm.trans hv2
      obtain ⟨a, hk, hca⟩ := hsc.free (y, .free) (lookup_mem hl) rfl
      obtain ⟨cv', rv', hLoc⟩ := I.loc y _ v2 hri hv2
      rcases hLoc with ⟨hk', _⟩ | ⟨_, a', o', ha', ho', hd'⟩
      · rw [hk] at hk'; cases hk'
      · refine ⟨cv', rv'.mono le, fun A' s' k' Q' E' q => wpAny_loadName_cell hkind ?_ (c := a') ?_ ⟨o', k' _ _ (kb _ _ ho'), hd'⟩ q⟩
        · show (compNames c.env sc.names).lookup y = some .cell
          rw [lookup_compNames, hl, C.fn, hk]; rfl
        · show (closL c.env sc.names []).lookup y = some a'
          rw [closL_lookup hfree (lookup_mem hl)]; exact ha'
  obtain ⟨us', eq, loop⟩ := comp_loop (w := w) (c := c) (A := A) (φ := φ) (H := st.H) (env := compEnv c.env sc (aI + 2) (closL c.env sc.names [])) (x := x) (r' := inComp r sc x) (σ := st.σ) (I := aI) (acc := aI + 1) (L := aI + 2) (iter := it) (xp := xp) (sc := sc) (pos := pos) (base := s.heap)
    (R := CompR (MM w) A E use Q (.ref (aI + 1)) (aI + 2)) inComp_loc hkind hkx rfl It n01 n02 n12 hz (xn 0) (fresh 0) (fresh 1) (fresh 2) LDS helt hpe xs.length 0 (by lia) _ (by rw [List.drop_zero]; exact hc)
  cases eq
  · refine codeC_compStart ?_ fun Q E q => It.W.self 0 _ Q E hst4 q
    refine loop g _ [] 0 [] (.refl g) rfl V3 keep hst4 hacc .nil rfl ⟨_, hns⟩ fun g' h' tk items' nn' le eρ V2 kb ha rl hn => ?_
    obtain ⟨m, hm⟩ := hn
    rw [List.nil_append] at rl
    have Va : ItAt (c.wi (aI + 2)) g' h' (aI + 1) := ItAt.of (c := c.wi (aI + 2)) V2
    have V1 := HInv.narrow (c := c.wi (aI + 2)) V2
    have le2 := G.le_add (o := { cls := .type "list", data := .seq items'.toArray nn' }) Va.z
    have V0 := V1.adopt (fun q => by
      rcases mem_wi.mp q with q | q
      · exact n12 q
      · exact xn 1 q) Va.z Va.m ha
    have KK := K h' tk (.ref (aI + 1)) (aI + 2) (g'.add (aI + 1) _) m (le.trans le2) eρ V0 kb (.list (by simp [G.add]; rfl) rfl rfl (rl.mono le2)) (fresh 2) hm
    refine ⟨m, hm, ?_⟩
    induction use using Option.casesOn with
    | none => exact KK
    | some u => exact KK
end
end Rk
end

section
open PySem PySem.W PySem.Calls PyProof.Rows PySem.Builtin
set_option maxRecDepth 100000
namespace Rk
section
variable {w : World} {c : Cx} {r : Str → Option X} {A : Around} {g : G} {φ : Tab} {k : Nat} {H : List O} {s : Shared}
theorem not_in {X : List Addr} {B : Heap} {g : G} {h : Heap} {L : Addr} (V : HInv B X H g h) (hL : h.get? L = none) : L ∉ X ∧ g.Z L = none ∧ L ∉ muts g := by
  refine ⟨fun m => ?_, ?_, fun m => ?_⟩
  · obtain ⟨o, e⟩ := V.xin _ m; rw [hL] at e; exact nn e
  · cases e : g.Z L with
    | none => rfl
    | some o => have := V.zin _ _ e; rw [hL] at this; exact nn this
  · obtain ⟨o, e⟩ := V.inh _ m; rw [hL] at e; exact nn e
theorem wpC_comp {n mm : Nat} (C : CxOk c) (RO : RsOk c r) (hh : A.handled = none) {sc : Scope} {x : Str} {xp pos : Pos} {it elt : Expr} {xe y : X} (hsc : ScOk c r sc x) (helt : cE n (inComp r sc x) elt = some xe) (hpe : pureE mm elt = true) (hs : isSet it = false) (he : SE w c r A φ it y)
    {use : Option (Value → Sem Unit)} {g₁ : G} {st : St} {out : Out V} (e : evX φ (.comp xe 999 y) st = some out) {Q : Value → Shared → Prop} {E : Value → Shared → Prop} (I : Inv c r st g₁ s.heap) (P : PassesOwn (MM w) A c.env E)
    (ok : ∀ us st', out = .ok (.list us) st' → ∀ h₂ h' tk acc L g₂ g' m, Step c g₁ g₂ s.heap h₂ → Inv c r st' g₂ h₂ → g₂.le g' → g'.ρ = g₂.ρ → HInv c.B (c.wi L).X st'.H g' h' → (∀ b o, h₂.get? b = some o → h'.get? b = some o) → Rep g' acc (.list us) → h₂.get? L = none → h'.Ns L m →
      (match use with
        | none => ∀ h'', Heap.SameBut L h' h'' → Q acc { s with heap := h'', toks := tk }
        | some u => wpC (MM w) A (u acc) (fun _ s'' => ∃ m', s''.heap.Ns L m' ∧ ∀ h', Heap.SameBut L s''.heap h' → Q .none { s'' with heap := h' }) E { s with heap := h', toks := tk }))
    (ex : ExC c r g₁ s.heap s out E) :
    wpC (MM w) A (comprehension (.ListComp elt [⟨.Name x xp, it, [], 0⟩] sc pos) sc c.env (firstIterPos [⟨.Name x xp, it, [], 0⟩] pos) (newList []) false (eval it c.env) use) Q E s := by
  have hf : ∀ v, foldedSetIterable it c.env v = pure v := fun v => by induction it using Expr.casesOn <;> first | rfl | cases hs
  have hfree : ∀ p ∈ sc.names, p.2 = .free → ∃ a, c.env.cells.lookup p.1 = some a := fun p hp hk => let ⟨a, _, h⟩ := hsc.free p hp hk; ⟨a, h⟩
  refine wpC_comprehension rfl hf (closureFor_eq hfree) hsc.kind hsc.names hsc.nc ?_
  simp only [evX_e13] at e
  unfold AM.bind at e
  cases q : evX φ y st with
  | none => rw [q] at e; exact nn e
  | some o =>
    rw [q] at e
    refine he g₁ g₁ (.refl _) st o q s _ E I P (fun v st' eo g₂ h₂ tk a S I₂ rv => ?_) fun kd st' eo g₂ hr h₂ tk x S I₂ F => ?_
    · subst eo
      dsimp only at e
      unfold AM.look at e
      dsimp only at e
      cases hi : itemsV st'.H v with
      | none => rw [hi] at e; exact nn e
      | some xs =>
        rw [hi] at e
        simp only [Option.map_some] at e
        cases hc : compV (evX φ xe) 999 xs st' with
        | none => rw [hc] at e; exact nn e
        | some o2 =>
          rw [hc] at e
          have pre : ∃ us, o2 = .ok us st' ∧ us.length ≤ 1000000 ∧ out = .ok (.list us) st' := by
            induction o2 using Out.casesOn with
            | exc _ _ => 
              exfalso
              have : ∀ (xs : List V) st out, compV (evX φ xe) 999 xs st = some out → ∃ us st', out = .ok us st' := by
                intro xs
                induction xs with
                | nil => intro st out h; obtain rfl := Option.some.inj h; exact ⟨_, _, rfl⟩
                | cons a xs ih =>
                  intro st out h
                  simp only [compV_e1] at h
                  split at h
                  · unfold AM.bind at h
                    dsimp only at h
                    split at h
                    · obtain rfl := Option.some.inj h; exact ⟨_, _, rfl⟩
                    · rename_i q; obtain ⟨_, _, z⟩ := ih _ _ q; cases z
                    · exact nn h
                  · exact nn h
              obtain ⟨_, _, z⟩ := this _ _ _ hc
              cases z
            | ok us st2 =>
              dsimp only at e
              obtain ⟨b, hb, rfl⟩ := Option.map_eq_some_iff.mp e
              split at hb
              · rename_i hz
                obtain rfl := Option.some.inj hb
                obtain ⟨us', eq, _⟩ := comp_inner (w := w) C RO hh I₂ (s := { s with heap := h₂, toks := tk }) (it := it) (xp := xp) (pos := pos) hsc helt hpe rv hi (by rw [← compV_len hc]; exact hz) hc
                cases eq
                exact ⟨_, rfl, hz, rfl⟩
              · exact nn hb
          obtain ⟨us, rfl, hz, rfl⟩ := pre
          obtain ⟨us', eq, K⟩ := comp_inner C RO hh I₂ (s := { s with heap := h₂, toks := tk }) (it := it) (xp := xp) (pos := pos) hsc helt hpe rv hi (by rw [← compV_len hc]; exact hz) hc
          cases eq
          refine K use Q E fun h' tk' acc L g' m le' eρ V kp ra hL hm => ?_
          have := ok us st' rfl h₂ h' tk' acc L g₂ g' m S I₂ le' eρ V kp ra hL hm
          induction use using Option.casesOn <;> exact this
    · subst eo
      obtain rfl := Option.some.inj e
      exact ex kd st' rfl g₂ hr h₂ tk x S I₂ F
theorem se_comp {n mm : Nat} (C : CxOk c) (RO : RsOk c r) (hh : A.handled = none) {sc : Scope} {x : Str} {xp pos : Pos} {it elt : Expr} {xe y : X} (hsc : ScOk c r sc x) (helt : cE n (inComp r sc x) elt = some xe) (hpe : pureE mm elt = true) (hs : isSet it = false) (he : SE w c r A φ it y) :
    SE w c r A φ (.ListComp elt [⟨.Name x xp, it, [], 0⟩] sc pos) (.comp xe 999 y) := fun g => by
  rw [eval_ListComp]
  intro g₁ le st out e s Q E I P ok ex
  refine wpC_comp C RO hh hsc helt hpe hs he (use := none) e I P (fun us st' eo h₂ h' tk acc L g₂ g' m S I₂ le' eρ V kp ra hL hm h'' hsb => ?_) ex
  obtain ⟨nX, nZ, nM⟩ := not_in I₂.hp hL
  have a := ItAt.of (c := c) V
  have kp'' : ∀ b o, h₂.get? b = some o → h''.get? b = some o := fun b o e => (hsb.2 b (fun q => by rw [q, hL] at e; exact nn e)).trans (kp b o e)
  have V' : HInv c.B c.X st'.H g' h'' := (HInv.narrow V).off (fun b o n e => (hsb.2 b n).trans e) nX a.z a.m
  exact ok _ st' eo g' h'' tk acc (S.trans (Step.of_keeps I₂.hp le' eρ kp'')) (I₂.grown C le' V' fun b o e _ => ⟨o.slots, kp'' b o e⟩) ra
theorem sy_setcomp {n mm : Nat} (C : CxOk c) (RO : RsOk c r) (hh : A.handled = none) {t : Str} {i : Nat} (hr : r t = some (.loc i)) {sc : Scope} {x : Str} {p xp pos pos' : Pos} {it elt : Expr} {xe y : X} (hsc : ScOk c r sc x) (helt : cE n (inComp r sc x) elt = some xe) (hpe : pureE mm elt = true) (hs : isSet it = false) (he : SE w c r A φ it y) :
    SY w c r A φ k (.Assign [.Name t p] (.ListComp elt [⟨.Name x xp, it, [], 0⟩] sc pos) pos') (.set i (.comp xe 999 y)) := fun g => by
  have hsw : ∃ b, swapsWith (.ListComp elt [⟨.Name x xp, it, [], 0⟩] sc pos) (some (.Name t p)) pos'.line c.env = pure b := ⟨_, rfl⟩
  obtain ⟨b, hb⟩ := hsw
  induction b using Bool.casesOn with
  | false =>
    rw [exec_Assign_Name c.env t p _ pos' hb]
    simp only [evY_e2]
    exact sim_at (sim_bind (se_comp C RO hh hsc helt hpe hs he g) fun g' le v u rv => sim_at (sim_bind (sim_bindName C RO hr rv) fun _ _ _ _ _ => sim_pure fun _ _ => rfl))
  | true =>
    rw [exec_Assign_Name_used t p _ pos' hb]
    refine sim_at fun g₁ le st out e s Q E I P ok ex => ?_
    show wpC _ A ((comprehension (.ListComp elt [⟨.Name x xp, it, [], 0⟩] sc pos) sc c.env (firstIterPos [⟨.Name x xp, it, [], 0⟩] pos) (newList []) false (eval it c.env) (some (assign (.Name t p) c.env)) >>= fun _ => pure ()) >>= fun _ => pure Flow.next) Q E s
    simp only [evY_e2] at e
    unfold AM.bind at e
    cases q : evX φ (.comp xe 999 y) st with
    | none => rw [q] at e; exact nn e
    | some o =>
      rw [q] at e
      refine wpC_bind (wpC_bind (wpC_comp C RO hh hsc helt hpe hs he (use := some _) q I P (fun us st' eo h₂ h' tk acc L g₂ g' m S I₂ le' eρ V kp ra hL hm => ?_) fun kd st' eo => ?_))
      · subst eo
        dsimp only at e
        obtain ⟨nX, nZ, nM⟩ := not_in I₂.hp hL
        have a := ItAt.of (c := c) V
        have I' : Inv c r st' g' h' := I₂.grown C le' (HInv.narrow V) fun b o e _ => ⟨o.slots, kp b o e⟩
        have RO' : RsOk (c.wi L) r := ⟨RO.inj, RO.kind, RO.noClassdict, RO.big⟩
        have S1 : Step c g₁ g' s.heap h' := S.trans (Step.of_keeps I₂.hp le' eρ kp)
        have S2 : Step c g₂ g' h₂ h' := Step.of_keeps I₂.hp le' eρ kp
        have one : Sim w (c.wi L) r A g' (fun _ _ _ => True) (assign (.Name t p) c.env acc) (AM.setl i (.list us)) := by
          show Sim w (c.wi L) r A g' _ (standAt p >>= fun _ => bindName c.env t acc) _
          exact sim_at (sim_bindName (C.wi L) RO' hr ra)
        cases q2 : AM.setl i (.list us) st' with
        | none => exact nn q2.symm
        | some o2 =>
          refine one g' (.refl _) st' o2 q2 _ _ E (I'.widen a) P (fun b st2 eo g₃ h₃ tk3 x S3 I3 _ => ?_) fun kd st2 eo => ?_
          · subst eo
            rw [q2] at e
            obtain rfl := Option.some.inj e
            obtain ⟨o', es, ep, ho', _⟩ := id hm
            have nLo : L ∉ (c.wi L).own ++ muts g' := fun z => (List.mem_append.mp z).elim (fun z => nX (List.mem_append_left _ z)) a.m
            refine ⟨m, Ns_slots hm fun o e => ?_, fun h'' hsb => wpC_pure (wpC_pure ?_)⟩
            · obtain ⟨sl, e', _⟩ := S3.keep L o e nLo; exact ⟨sl, e'⟩
            · have I3' : Inv c r st2 g₃ h₃ := I3.narrow (fr_own I')
              have a3 := ItAt.of (c := c) I3.hp
              have kp3 : ∀ b o, b ≠ L → h₃.get? b = some o → h''.get? b = some o := fun b o n e => (hsb.2 b n).trans e
              have I4 : Inv c r st2 g₃ h'' := I3'.grown C (.refl g₃) (I3'.hp.off kp3 nX a3.z a3.m) fun b o e hb => ⟨o.slots, kp3 b o (fun z => nX (z ▸ hb)) e⟩
              exact ok _ st2 rfl g₃ h'' tk3 .next (S.trans ((S2.trans S3.wi).next hL kp3)) I4 rfl
          · subst eo; cases q2
      · subst eo
        obtain rfl := Option.some.inj e
        exact ex kd st' rfl
end
end Rk
end

section
set_option genSizeOf false
set_option genCtorIdx false
open PySem PySem.W PySem.Calls PyProof.Rows PySem.Builtin
set_option maxRecDepth 100000
namespace Rk
structure ActOk (w : World) (c : Cx) (r : Str → Option X) (A : Around) (n : Nat) (φ : Tab) : Prop where
  C : CxOk c
  O : AOk w c A n
  K : KOk w c
  N : NameOk w c r
  RO : RsOk c r
  T : TabOk w c.B n φ
  fl : c.env.frame = some c.env.locals
  rs : ∀ x e, r x = some e → (∃ i, e = .loc i) ∨ ∃ v, e = .val v
  nd : ∀ e, r (Str.ofString "__debug__") ≠ some e
section
variable {w : World} {c : Cx} {r : Str → Option X} {A : Around} {g : G} {φ : Tab} {k n : Nat}
theorem ActOk.wi (K : ActOk w c r A n φ) (I : Addr) : ActOk w (c.wi I) r A n φ where
  C := K.C.wi I
  O := ⟨K.O.hh, K.O.frames, K.O.depth, K.O.room⟩
  K := K.K
  N := fun x v h A g H s V => K.N x v h A g H s V.narrow
  RO := ⟨K.RO.inj, K.RO.kind, K.RO.noClassdict, K.RO.big⟩
  T := K.T
  fl := K.fl
  rs := K.rs
  nd := K.nd
theorem mapO_get {α β : Type} {f : α → Option β} : ∀ {l : List α} {m : List β}, mapO f l = some m → ∀ (i : Nat) (a : α) (b : β), l[i]? = some a → m[i]? = some b → f a = some b
  | [], m, e => fun i a b h => by simp at h
  | x :: l, m, e => by
    obtain ⟨y, ys, h1, h2, rfl⟩ := mapO_c e
    intro i a b ha hb
    induction i using Nat.casesOn with
    | zero => simp only [List.getElem?_cons_zero, Option.some.injEq] at ha hb; subst ha hb; exact h1
    | succ i => simp only [List.getElem?_cons_succ] at ha hb; exact mapO_get h2 i a b ha hb
theorem optO_of {f : Expr → Option X} {P : Expr → X → Prop} (h : ∀ e x, f e = some x → P e x) {o : Option Expr} {x : Option X} (e : optO f o = some x) : match (generalizing := false) o, x with | .none, .none => True | some e, some x => P e x | _, _ => False := by
  induction o using Option.casesOn with
  | none => obtain rfl := Option.some.inj e; trivial
  | some a =>
    simp only [optO] at e
    split at e
    · rename_i b hb; obtain rfl := Option.some.inj e; exact h a b hb
    · exact nn e
noncomputable def CompOf (r : Str → Option X) (m : Nat) (elt : Expr) (gs : List Comprehension) (sc : Scope) (x : X) : Prop := ∃ y p it y' z, gs = [⟨.Name y p, it, [], 0⟩] ∧ isSet it = false ∧ okSc r sc y = true ∧ pureE m elt = true ∧ cE m r it = some y' ∧ cE m (inComp r sc y) elt = some z ∧ x = .comp z 999 y'
theorem comp_inv {m : Nat} {elt : Expr} {gs : List Comprehension} {sc : Scope} {q : Pos} {x : X} (h : cE (m + 1) r (.ListComp elt gs sc q) = some x) : CompOf r m elt gs sc x := by
  induction gs using List.casesOn with
  | nil => exact nn h
  | cons g gs =>
    obtain ⟨t, it, ifs, as⟩ := g
    induction t using Expr.casesOn with
    | Name y p =>
      induction ifs using List.casesOn with
      | cons _ _ => induction gs using List.casesOn <;> exact nn h
      | nil =>
        induction as using Int.casesOn with
        | negSucc k => induction gs using List.casesOn <;> exact nn h
        | ofNat k =>
          induction k using Nat.casesOn with
          | succ k => induction gs using List.casesOn <;> exact nn h
          | zero =>
            induction gs using List.casesOn with
            | cons _ _ => exact nn h
            | nil =>
              obtain ⟨hop, h⟩ := i0 h
              obtain ⟨h1, h3⟩ := or_f hop
              obtain ⟨h1, h2⟩ := or_f h1
              exact o2_k h fun _ _ e1 e2 => ⟨y, p, it, _, _, rfl, h1, not_f h2, not_f h3, e1, e2, rfl⟩
    | _ => induction gs using List.casesOn <;> exact nn h
theorem cE_comp {m : Nat} {e : Expr} {x : X} {P : Expr → Prop} (hc : isComp e = true) (h : cE (m + 1) r e = some x) (k : ∀ elt gs sc q, cE (m + 1) r (.ListComp elt gs sc q) = some x → P (.ListComp elt gs sc q)) : P e := by
  induction e using Expr.casesOn with
  | ListComp elt gs sc q => exact k elt gs sc q h
  | SetComp _ _ _ _ => exact nn h
  | DictComp _ _ _ _ _ => exact nn h
  | _ => exact Bool.noConfusion hc
theorem sound_E : ∀ (m : Nat) (e : Expr) (x : X), cE m r e = some x → ∀ c, ActOk w c r A n φ → SE w c r A φ e x := by
  intro m
  induction m with
  | zero => intro e x h; exact nn h
  | succ m ih =>
    intro e x h c K
    have args : ∀ {es : List Expr} {xs : List X} {pos : Pos}, es.any isStar = false → mapO (cE m r) es = some xs → ∀ g, Sim w c r A g RepL (spliced (backTo pos (starEach es c.env))) (evXs φ xs) := fun hs hm =>
      sim_spliced hs (fun i e x he hx => ih e x (mapO_get hm i e x he hx) c K) (mapO_len hm)
    have item : ∀ {o i p}, (if isSlice i then none else o2 X.item (cE m r o) (cE m r i)) = some x → SE w c r A φ (.Subscript o i p) x := fun h => by
      obtain ⟨hs, h⟩ := i0 h
      exact o2_k h fun _ _ e1 e2 => se_item K.C hs (ih _ _ e1 c K) (ih _ _ e2 c K)
    induction e using Expr.casesOn with
    | Constant v k' p =>
      induction v using Const.casesOn with
      | none => exact sq h se_none
      | bool b => exact sq h se_bool
      | int i => exact sq h se_int
      | str s => exact sq h se_str
      | bytes b => exact sq h se_bytes
      | _ => exact nn h
    | Name y p =>
      have h : (if y = Str.ofString "__debug__" then none else r y) = some x := h
      split at h
      · exact nn h
      · rename_i hd
        rcases K.rs _ _ h with ⟨i, rfl⟩ | ⟨v, rfl⟩
        · exact se_loc K.C hd (fun q => K.RO.noClassdict i (q ▸ h)) h
        · exact se_glob K.N hd h
    | BinOp a op b p => exact o2_k (i1 h).2 fun _ _ h1 h2 => se_bin K.C (ih _ _ h1 c K) (ih _ _ h2 c K)
    | UnaryOp op a p =>
      induction op using UnaryOp.casesOn with
      | USub => exact o1_k h fun _ h1 => se_neg K.C (ih _ _ h1 c K)
      | _ => exact nn h
    | BoolOp op vs p =>
      induction vs using List.casesOn with
      | nil => exact nn h
      | cons a vs =>
        induction vs using List.casesOn with
        | nil => exact nn h
        | cons b vs =>
          induction vs using List.casesOn with
          | cons _ _ => exact nn h
          | nil => exact o2_k h fun _ _ h1 h2 => se_boolop K.C (ih _ _ h1 c K) (ih _ _ h2 c K)
    | Compare a ops bs p =>
      induction ops using List.casesOn with
      | nil => exact nn h
      | cons op ops =>
        induction ops using List.casesOn with
        | cons _ _ => exact nn h
        | nil =>
          induction bs using List.casesOn with
          | nil => exact nn h
          | cons b bs =>
            induction bs using List.casesOn with
            | cons _ _ => exact nn h
            | nil =>
              obtain ⟨hop, h⟩ := i1 h
              exact o2_k h fun _ _ h1 h2 => se_cmp K.C K.O (not_t (and_t hop).2) (ih _ _ h1 c K) (ih _ _ h2 c K)
    | Call f es kw p =>
      induction f using Expr.casesOn with
      | Attribute o a ap =>
        induction kw using List.casesOn with
        | cons _ _ => exact nn h
        | nil =>
          obtain ⟨hop, h⟩ := i0 h
          obtain ⟨hop, h4⟩ := or_f hop
          obtain ⟨hop, h3⟩ := or_f hop
          obtain ⟨h1, h2⟩ := or_f hop
          exact o2_k h fun _ _ e1 e2 => se_meth K.T K.C K.O K.K (not_f h3) (not_f h4) h1 (Nat.le_of_not_lt (of_decide_eq_false h2)) (ih _ _ e1 c K) (args h1 e2)
      | Name y q =>
        induction kw using List.casesOn with
        | cons _ _ => exact nn h
        | nil =>
          obtain ⟨hop, h⟩ := i0 h
          have h1 := (or_f hop).1
          exact o2_k h fun _ _ e1 e2 => se_call K.T K.C K.O K.K K.N e1 h1 (args h1 e2)
      | _ => exact nn h
    | Attribute o a p =>
      obtain ⟨hb, h⟩ := i1 h
      exact o1_k h fun _ e1 => se_attr K.C K.K hb (ih _ _ e1 c K)
    | Subscript o i p =>
      induction i using Expr.casesOn with
      | Slice lo hi st q =>
        induction st using Option.casesOn with
        | some _ => exact nn h
        | none => exact o3_k h fun _ _ _ e1 e2 e3 => se_slice K.C (ih _ _ e1 c K) (optO_of (P := fun e x => SE w c r A φ e x) (fun e x h => ih e x h c K) e2) (optO_of (P := fun e x => SE w c r A φ e x) (fun e x h => ih e x h c K) e3)
      | _ => exact item h
    | List es p =>
      obtain ⟨hs, h⟩ := i0 h
      exact o1_k h fun _ e1 => se_list K.C (args hs e1)
    | Tuple es k' p =>
      obtain ⟨hs, h⟩ := i0 h
      exact o1_k h fun _ e1 => se_tup K.C (args hs e1)
    | ListComp elt gs sc q =>
      obtain ⟨y, p, it, y', z, rfl, h1, h2, h3, h4, h5, rfl⟩ := comp_inv h
      exact se_comp K.C K.RO K.O.hh (okSc_of K.RO h2) h5 h3 h1 (ih _ _ h4 c K)
    | JoinedStr es p =>
      induction es using List.casesOn with
      | nil => exact nn h
      | cons a es =>
        induction es using List.casesOn with
        | nil => exact nn h
        | cons b es =>
          obtain ⟨hl, h⟩ := i1 h
          exact o1_k h fun _ e1 => se_fstr (fun e x h => ih e x h c K) (of_decide_eq_true hl) e1
    | _ => exact nn h
end
end Rk
end

section
open PySem PySem.W PySem.Calls PyProof.Rows PySem.Builtin
set_option maxRecDepth 100000
namespace Rk
section
variable {w : World} {c : Cx} {r : Str → Option X} {A : Around} {g : G} {φ : Tab} {k n : Nat}
theorem sound_T : ∀ (m : Nat) (e : Expr) (t : T), cT m r e = some t → ∀ c, ActOk w c r A n φ → ST w c r A φ e t := by
  intro m
  induction m with
  | zero => intro e x h; exact nn h
  | succ m ih =>
    intro e t h c K
    have other : o1 T.ex (cE m r e) = some t → (∀ whole, isTrue e c.env whole = (do let v ← whole; standAt e.pos; holding [v] (truthy v))) → ST w c r A φ e t := fun h q =>
      o1_k h fun _ h1 => st_ex q (sound_E m _ _ h1 c K)
    induction e using Expr.casesOn with
    | UnaryOp op a p =>
      induction op using UnaryOp.casesOn with
      | Not => exact o1_k h fun _ h1 => st_not (ih _ _ h1 c K)
      | _ => exact nn h
    | BoolOp op es p => exact o1_k h fun _ h1 => st_bool (mapO_len h1) fun i e t he ht => ih e t (mapO_get h1 i e t he ht) c K
    | Compare a ops bs p =>
      induction ops using List.casesOn with
      | nil => exact nn h
      | cons op ops =>
        induction ops using List.casesOn with
        | cons _ _ => exact nn h
        | nil =>
          induction bs using List.casesOn with
          | nil => exact nn h
          | cons b bs =>
            induction bs using List.casesOn with
            | cons _ _ => exact nn h
            | nil =>
              obtain ⟨hop, h⟩ := i1 h
              exact o2_k h fun _ _ h1 h2 => st_cmp K.C K.O (not_t (and_t hop).2) (sound_E m _ _ h1 c K) (sound_E m _ _ h2 c K)
    | IfExp _ _ _ _ => exact nn h
    | _ => exact other h fun _ => rfl
theorem exc_keep {a : Addr} (P : Params) (h : a = 56 ∨ a = 68) : keepIn (kObjs P) (.ref a) = true := by rcases h with rfl | rfl <;> rfl
theorem excOf_some {x : Str} {p : Pos} {a : Addr} (h : excOf r (.Name x p) = some a) : r x = some (.val (.fn (.ref a))) ∧ (a = 56 ∨ a = 68) := excOf_inv h
theorem nameIx_some {x : Str} {p : Pos} {i : Nat} (h : nameIx r (.Name x p) = some i) : r x = some (.loc i) := vLoc_inv h
theorem set_comp {m : Nat} {x : Str} {p pos : Pos} {e : Expr} {i : Nat} {y : X} (K : ActOk w c r A n φ) (hi : r x = some (.loc i)) (h : cE m r e = some y) : SY w c r A φ k (.Assign [.Name x p] e pos) (.set i y) := by
  cases hc : isComp e with
  | false => exact sy_set K.C K.RO hi hc (sound_E m _ _ h c K)
  | true =>
    induction m using Nat.casesOn with
    | zero => exact nn h
    | succ m =>
      refine cE_comp (P := fun e => SY w c r A φ k (.Assign [.Name x p] e pos) (.set i y)) hc h fun elt gs sc q h => ?_
      obtain ⟨y2, p2, it, y', z, rfl, h1, h2, h3, h4, h5, rfl⟩ := comp_inv h
      exact sy_setcomp K.C K.RO K.O.hh hi (okSc_of K.RO h2) h5 h3 h1 (sound_E m _ _ h4 c K)
theorem sound_Y : ∀ (m : Nat) (s : Stmt) (y : Y), cY m r s = some y → ∀ c, ActOk w c r A n φ → SY w c r A φ k s y := by
  intro m
  induction m with
  | zero => intro e x h; exact nn h
  | succ m ih =>
    intro s y h c K
    have E : ∀ {e x}, cE m r e = some x → SE w c r A φ e x := fun h => sound_E m _ _ h c K
    have args : ∀ {es : List Expr} {xs : List X} {pos : Pos}, es.any isStar = false → mapO (cE m r) es = some xs → ∀ g, Sim w c r A g RepL (spliced (backTo pos (starEach es c.env))) (evXs φ xs) := fun hs hm =>
      sim_spliced hs (fun i e x he hx => E (mapO_get hm i e x he hx)) (mapO_len hm)
    have body : ∀ {ss : List Stmt} {ys : List Y}, mapO (cY m r) ss = some ys → ∀ c, ActOk w c r A n φ → ∀ g, Sim w c r A g FRep (execs ss c.env) (evYs φ k ys) := fun hm c K =>
      sim_execs (mapO_len hm) fun i s y hs hy => ih s y (mapO_get hm i s y hs hy) c K
    have asgN : ∀ {x p e pos}, o2 Y.set (nameIx r (.Name x p)) (cE m r e) = some y → SY w c r A φ k (.Assign [.Name x p] e pos) y := fun h =>
      o2_k h fun _ _ h1 h2 => set_comp K (nameIx_some h1) h2
    have dead : ∀ s, SY w c r A φ k s .dead := fun _ g => sim_none fun _ => by simp only [evY_e14]
    induction s using Stmt.casesOn with
    | Expr e p =>
      obtain ⟨hc, h⟩ := i0 h
      exact o1_k h fun _ h1 => sy_expr K.C hc (E h1)
    | Return v p =>
      induction v using Option.casesOn with
      | none => exact nn h
      | some e =>
        refine sq h ?_
        cases h1 : cE m r e with
        | some x => exact sy_ret (E h1)
        | none => exact dead _
    | Assign ts e pos =>
      induction ts using List.casesOn with
      | nil => exact nn h
      | cons t ts =>
        induction ts using List.casesOn with
        | cons _ _ => induction t using Expr.casesOn <;> exact nn h
        | nil =>
          induction t using Expr.casesOn with
          | Name x p =>
            induction e using Expr.casesOn with
            | List es q =>
              obtain ⟨hs, h⟩ := i0 h
              exact o2_k h fun _ _ h1 h2 => sy_newl K.C K.RO (nameIx_some h1) (args hs h2)
            | _ => exact asgN h
          | Tuple ts k' q =>
            obtain ⟨hop, h⟩ := i0 h
            obtain ⟨hop, h3⟩ := or_f hop
            exact o2_k h fun _ _ h1 h2 => sy_unp K.C K.O K.RO h3 (or_f hop).1 (or_f hop).2 h1 (E h2)
          | Attribute o a q =>
            obtain ⟨hc, h⟩ := i0 h
            exact o2_k h fun _ _ h1 h2 => sy_seta K.C K.K hc (E h2) (E h1)
          | Subscript o i q =>
            obtain ⟨hc, h⟩ := i0 h
            exact o3_k h fun _ _ _ h1 h2 h3 => sy_seti K.C (or_f hc).1 (or_f hc).2 (E h2) (E h3) (E h1)
          | _ => exact nn h
    | AugAssign t op e pos =>
      induction t using Expr.casesOn with
      | Name x p => exact o2_k (i1 h).2 fun _ _ h1 h2 => sy_aug K.C K.RO (nameIx_some h1) (E h2)
      | Attribute o a q => exact o2_k (i1 h).2 fun _ _ h1 h2 => sy_auga K.C K.K (E h1) (E h2)
      | _ => exact nn h
    | If t b e p => exact o3_k h fun _ _ _ h1 h2 h3 => sy_if (sound_T m _ _ h1 c K) (body h2 c K) (body h3 c K)
    | While t b e p =>
      induction e using List.casesOn with
      | cons _ _ => exact nn h
      | nil => exact o2_k h fun _ _ h1 h2 => sy_while (sound_T m _ _ h1 c K) (body h2 c K)
    | For t it b e p =>
      induction t using Expr.casesOn with
      | Name x q =>
        induction e using List.casesOn with
        | cons _ _ => exact nn h
        | nil =>
          obtain ⟨hs, h⟩ := i0 h
          exact o3_k h fun _ _ _ h1 h2 h3 => sy_for K.C K.O K.RO (nameIx_some h1) hs (E h2) fun I => body h3 (c.wi I) (K.wi I)
      | _ => exact nn h
    | Raise ex ca p =>
      induction ex using Option.casesOn with
      | none => exact nn h
      | some ex =>
        induction ex using Expr.casesOn with
        | Call f es kw q =>
          induction f using Expr.casesOn with
          | Name x q' =>
            induction kw using List.casesOn with
            | cons _ _ => exact nn h
            | nil =>
              induction ca using Option.casesOn with
              | some _ => exact nn h
              | none =>
                obtain ⟨hop, h⟩ := i0 h
                have hst := (or_f hop).1
                refine sq h ?_
                cases h0 : o2 Y.raise (excOf r (.Name x q')) (mapO (cE m r) es) with
                | none => exact dead _
                | some y =>
                  refine o2_k h0 fun _ _ h1 h2 => ?_
                  obtain ⟨hr, ha⟩ := excOf_some h1
                  exact sy_raise K.C K.O K.K K.N hr ha (fun q => K.nd _ (q ▸ hr)) hst (exc_keep _ ha) (args hst h2)
          | _ => exact nn h
        | _ => exact nn h
    | Try b hs e f p =>
      induction hs using List.casesOn with
      | nil => exact nn h
      | cons h0 hs =>
        induction e using List.casesOn with
        | cons _ _ => exact nn h
        | nil =>
          induction f using List.casesOn with
          | cons _ _ => exact nn h
          | nil => exact o2_k h fun _ _ h1 h2 => sy_try K.C K.O K.K K.N K.RO K.fl h2 (body h1 c K)
    | _ => exact nn h
theorem sound_F {sc : Scope} {b : List Stmt} {ys : List Y} (h : cF sc b = some ys) (K : ActOk w c (resOf sc) A n φ) : ∀ g, Sim w c (resOf sc) A g FRep (execs b c.env) (evYs φ k ys) :=
  sim_execs (mapO_len h) fun i s y hs hy => sound_Y 40 s y (mapO_get h i s y hs hy) c K
end
end Rk
end

section
set_option genSizeOf false
set_option genCtorIdx false
open PySem PySem.W PySem.Calls PyProof.Rows PySem.Builtin
set_option maxRecDepth 100000
namespace Rk
theorem bindL_skip {kindOf : Str → Option NameKind} {x : Str} : ∀ (ps : List Str) (vs : List Value) (m : Str → Option Value), x ∉ ps → bindL kindOf (ps.zip vs) m x = m x
  | [], vs, m, _ => by simp [bindL]
  | p :: ps, [], m, _ => by simp [bindL]
  | p :: ps, v :: vs, m, h => by
    simp only [List.mem_cons, not_or] at h
    simp only [List.zip_cons_cons, bindL]
    rw [bindL_skip ps vs _ h.2]
    split
    · exact if_neg h.1
    · rfl
theorem bindC_skip {kindOf : Str → Option NameKind} {x : Str} : ∀ (ps : List Str) (vs : List Value) (m : Str → Option Value), x ∉ ps → bindC kindOf (ps.zip vs) m x = m x
  | [], vs, m, _ => by simp [bindC]
  | p :: ps, [], m, _ => by simp [bindC]
  | p :: ps, v :: vs, m, h => by
    simp only [List.mem_cons, not_or] at h
    simp only [List.zip_cons_cons, bindC]
    rw [bindC_skip ps vs _ h.2]
    split
    · rfl
    · exact if_neg h.1
theorem bindL_get {kindOf : Str → Option NameKind} {x : Str} {v : Value} (hk : kindOf x = some .local) : ∀ (ps : List Str) (vs : List Value) (m : Str → Option Value) (k : Nat), ps.Nodup → ps[k]? = some x → vs[k]? = some v → bindL kindOf (ps.zip vs) m x = some v
  | [], vs, m, k, _, h, _ => by simp at h
  | p :: ps, [], m, k, _, _, h => by simp at h
  | p :: ps, u :: vs, m, k, nd, h, h' => by
    simp only [List.zip_cons_cons, bindL]
    obtain ⟨n1, n2⟩ := List.nodup_cons.mp nd
    induction k using Nat.casesOn with
    | zero =>
      simp only [List.getElem?_cons_zero, Option.some.injEq] at h h'
      subst h h'
      rw [bindL_skip ps vs _ n1, if_pos hk, if_pos rfl]
    | succ k => exact bindL_get hk ps vs _ k n2 (by simpa using h) (by simpa using h')
theorem bindC_get {kindOf : Str → Option NameKind} {x : Str} {v : Value} (hk : kindOf x ≠ some .local) : ∀ (ps : List Str) (vs : List Value) (m : Str → Option Value) (k : Nat), ps.Nodup → ps[k]? = some x → vs[k]? = some v → bindC kindOf (ps.zip vs) m x = some v
  | [], vs, m, k, _, h, _ => by simp at h
  | p :: ps, [], m, k, _, _, h => by simp at h
  | p :: ps, u :: vs, m, k, nd, h, h' => by
    simp only [List.zip_cons_cons, bindC]
    obtain ⟨n1, n2⟩ := List.nodup_cons.mp nd
    induction k using Nat.casesOn with
    | zero =>
      simp only [List.getElem?_cons_zero, Option.some.injEq] at h h'
      subst h h'
      rw [bindC_skip ps vs _ n1, if_neg hk, if_pos rfl]
    | succ k => exact bindC_get hk ps vs _ k n2 (by simpa using h) (by simpa using h')
noncomputable def okF (ps : List Str) (sc : Scope) : Bool := (sc.kind == .function) && !sc.isCoroutine && !sc.isGenerator && decide (sc.names.length ≤ 100) && (ps == (sc.names.take ps.length).map (·.1)) && decide ps.Nodup &&
  ps.all (fun p => sc.names.lookup p == some .local || sc.names.lookup p == some .cell) && decide (((cellsFrom 0 sc.names []).map (·.1)).Nodup) && !(sc.names.lookup (Str.ofString "__classdict__") == some .local) && !(sc.names.lookup (Str.ofString "__classdict__") == some .cell) && (sc.names.lookup (Str.ofString "__debug__") == none)
structure ScF (ps : List Str) (sc : Scope) : Prop where
  kind : sc.kind = .function
  co : sc.isCoroutine = false
  gen : sc.isGenerator = false
  few : sc.names.length ≤ 100
  psn : ps = (sc.names.take ps.length).map (·.1)
  nd : ps.Nodup
  pk : ∀ p ∈ ps, sc.names.lookup p = some .local ∨ sc.names.lookup p = some .cell
  cnd : ((cellsFrom 0 sc.names []).map (·.1)).Nodup
  cd1 : sc.names.lookup (Str.ofString "__classdict__") ≠ some .local
  cd2 : sc.names.lookup (Str.ofString "__classdict__") ≠ some .cell
  dbg : sc.names.lookup (Str.ofString "__debug__") = none
theorem okF_of {ps : List Str} {sc : Scope} (h : okF ps sc = true) : ScF ps sc := by
  unfold okF at h
  simp only [Bool.and_eq_true, beq_iff_eq, decide_eq_true_eq, List.all_eq_true, Bool.or_eq_true, Bool.not_eq_true', beq_eq_false_iff_ne] at h
  obtain ⟨⟨⟨⟨⟨⟨⟨⟨⟨⟨h1, h2⟩, h3⟩, h4⟩, h5⟩, h6⟩, h7⟩, h8⟩, h9⟩, h10⟩, h11⟩ := h
  exact ⟨h1, h2, h3, h4, h5, h6, h7, h8, h9, h10, h11⟩
section
variable {sc : Scope} {ps : List Str}
theorem idx_lt {l : List (Str × NameKind)} {x : Str} {k : NameKind} (h : l.lookup x = some k) : l.findIdx (fun p => p.1 == x) < l.length ∧ (l[l.findIdx (fun p => p.1 == x)]?).map (·.1) = some x := by
  have hm : (x, k) ∈ l := PySem.mem_of_lookup h
  have hlt := List.findIdx_lt_length_of_exists (p := fun p : Str × NameKind => p.1 == x) ⟨_, hm, by simp⟩
  refine ⟨hlt, ?_⟩
  have := List.findIdx_getElem (p := fun p : Str × NameKind => p.1 == x) (w := hlt)
  rw [List.getElem?_eq_getElem hlt, Option.map_some]
  exact congrArg some (beq_iff_eq.mp this)
theorem resOf_loc (F : ScF ps sc) {x : Str} {i : Nat} (h : resOf sc x = some (.loc i)) : (sc.names[i % 100]?).map (·.1) = some x ∧ ((sc.names.lookup x = some .local ∧ i < 100) ∨ (sc.names.lookup x = some .cell ∧ 100 ≤ i ∧ i < 200)) := by
  have few := F.few
  unfold resOf at h
  split at h
  · rename_i hl
    cases h
    obtain ⟨h1, h2⟩ := idx_lt hl
    have : sc.names.findIdx (fun p => p.1 == x) < 100 := by omega
    rw [Nat.mod_eq_of_lt this]
    exact ⟨h2, .inl ⟨hl, this⟩⟩
  · rename_i hl
    cases h
    obtain ⟨h1, h2⟩ := idx_lt hl
    have : sc.names.findIdx (fun p => p.1 == x) < 100 := by omega
    rw [Nat.add_mod_right, Nat.mod_eq_of_lt this]
    exact ⟨h2, .inr ⟨hl, by lia, by omega⟩⟩
  · cases hg : globV x with
    | none => rw [hg] at h; exact nn h
    | some v => rw [hg] at h; cases h
  · exact nn h
theorem resOf_val {x : Str} {v : V} (h : resOf sc x = some (.val v)) : sc.names.lookup x = some .globalImplicit ∧ globV x = some v := by
  unfold resOf at h
  split at h
  · cases h
  · cases h
  · rename_i hl
    cases hg : globV x with
    | none => rw [hg] at h; exact nn h
    | some v => rw [hg] at h; cases h; exact ⟨hl, rfl⟩
  · exact nn h
theorem resOf_rs : ∀ x e, resOf sc x = some e → (∃ i, e = .loc i) ∨ ∃ v, e = .val v := fun x e h => by
  unfold resOf at h
  split at h
  · obtain rfl := Option.some.inj h; exact .inl ⟨_, rfl⟩
  · obtain rfl := Option.some.inj h; exact .inl ⟨_, rfl⟩
  · cases hg : globV x with
    | none => rw [hg] at h; exact nn h
    | some v => rw [hg] at h; obtain rfl := Option.some.inj h; exact .inr ⟨_, rfl⟩
  · exact nn h
theorem resOf_inj (F : ScF ps sc) : ∀ x y i, resOf sc x = some (.loc i) → resOf sc y = some (.loc i) → x = y := fun x y i h h' => by
  have a := (resOf_loc F h).1
  rw [(resOf_loc F h').1] at a
  exact (Option.some.inj a).symm
theorem resOf_rsOk (F : ScF ps sc) {c : Cx} (hs : c.env.scope = sc) (hc : ∀ x, sc.names.lookup x = some .cell → ∃ a, c.env.cells.lookup x = some a ∧ a ∈ c.own) : RsOk c (resOf sc) where
  inj := resOf_inj F
  kind := fun x i h => by
    show c.env.scope.names.lookup x = _ ∨ c.env.scope.names.lookup x = _ ∧ _
    rw [hs]
    rcases (resOf_loc F h).2 with h | h
    · exact .inl h.1
    · exact .inr ⟨h.1, hc x h.1⟩
  noClassdict := fun i h => by
    rcases (resOf_loc F h).2 with h | h
    · exact F.cd1 h.1
    · exact F.cd2 h.1
  big := fun x i h hi => by
    show c.env.scope.names.lookup x = _
    rw [hs]
    rcases (resOf_loc F h).2 with h | h
    · lia
    · exact h.1
theorem resOf_nd (F : ScF ps sc) : ∀ e, resOf sc (Str.ofString "__debug__") ≠ some e := fun e h => by
  unfold resOf at h
  rw [F.dbg] at h
  exact nn h
end
mutual
theorem clean_below (n : Nat) : ∀ {a : V}, clean a = true → below n a = true
  | .ref _, h => nomatch h
  | .tuple l, h => cleanL_below n (as := l) h
  | .list l, h => cleanL_below n (as := l) h
  | .inst _ l, h => cleanA_below n (as := l) h
  | .none, _ | .bool _, _ | .int _, _ | .str _, _ | .text, _ | .bytes _, _ | .bar _, _ | .fn _, _ | .rng _ _ _, _ => rfl
theorem cleanL_below (n : Nat) : ∀ {as : List V}, cleanL as = true → belowL n as = true
  | [], _ => rfl
  | v :: r, h => Bool.and_eq_true_iff.mpr ⟨clean_below n (a := v) (Bool.and_eq_true_iff.mp h).1, cleanL_below n (as := r) (Bool.and_eq_true_iff.mp h).2⟩
theorem cleanA_below (n : Nat) : ∀ {as : List (Str × V)}, cleanA as = true → belowA n as = true
  | [], _ => rfl
  | (_, v) :: r, h => Bool.and_eq_true_iff.mpr ⟨clean_below n (a := v) (Bool.and_eq_true_iff.mp h).1, cleanA_below n (as := r) (Bool.and_eq_true_iff.mp h).2⟩
end
section
variable {g : G} {n : Nat}
theorem cut_at {i : Nat} {p : Addr × Addr} (h : i < n) (e : g.ρ[i]? = some p) : (g.cut n).ρ[i]? = some p := by
  show (g.ρ.take n)[i]? = _
  rw [List.getElem?_take, if_pos h]; exact e
theorem Rep.cutB {v : Value} {a : V} (h : Rk.below n a = true) (r : Rep g v a) : Rep (g.cut n) v a := r.map (g := g) (g' := g.cut n) (fun _ _ e => e) (fun _ _ => cut_at) h
theorem RepL.cutB {vs : List Value} {as : List V} (h : belowL n as = true) (r : RepL g vs as) : RepL (g.cut n) vs as := r.map (g := g) (g' := g.cut n) (fun _ _ e => e) (fun _ _ => cut_at) h
theorem RepA.cutB {vs : List DictEntry} {as : List (Str × V)} (h : belowA n as = true) (r : RepA g vs as) : RepA (g.cut n) vs as := r.map (g := g) (g' := g.cut n) (fun _ _ e => e) (fun _ _ => cut_at) h
theorem Rep.kut (n : Nat) {v : Value} {a : V} (h : clean a = true) (r : Rep g v a) : Rep (g.cut n) v a := r.cutB (clean_below n h)
end
noncomputable def belowO (n : Nat) : O → Bool
  | .list l => belowL n l
  | .barr _ => true
  | .inst _ at_ => belowA n at_
  | .frozen v => below n v
theorem ObjOk.blw {g : G} {n : Nat} (hn : g.ρ.length ≤ n) {h : Heap} {p : Addr × Addr} {o : O} (x : ObjOk g h p o) : belowO n o = true :=
  ObjOk.casesOn (motive := fun _ o _ => belowO n o = true) x (fun _ l _ => RepL.blw hn l) (fun _ _ => rfl) (fun _ _ l _ => RepA.blw hn l) fun r => Rep.blw hn r
theorem ObjOk.cutB {g : G} {n : Nat} {h : Heap} {p : Addr × Addr} {o : O} (hb : belowO n o = true) (x : ObjOk g h p o) : ObjOk (g.cut n) h p o :=
  ObjOk.casesOn (motive := fun p o _ => belowO n o = true → ObjOk (g.cut n) h p o) x (fun a l z hb => .list a (RepL.cutB hb l) z) (fun a z _ => .barr a z) (fun a b l z hb => .inst a b (RepA.cutB hb l) z) (fun r hb => .frozen (Rep.cutB hb r)) hb
noncomputable def CutH (H H₁ H₂ : List O) : Prop := H₁ = H₂ ∨ ((∃ ext, H₁ = H₂ ++ ext) ∧ H₂.length = H.length ∧ ∀ (i : Nat) (o : O), H₂[i]? = some o → H[i]? = some o ∨ belowO H.length o = true)
theorem HInv.cutB {B : Heap} {X : List Addr} {H ext : List O} {g : G} {h : Heap} {n : Nat} (I : HInv B X (H ++ ext) g h) (hn : H.length = n) (hb : ∀ (i : Nat) (o : O), H[i]? = some o → belowO n o = true) : HInv B X H (g.cut n) h where
  base := I.base
  zin := I.zin
  zx := I.zx
  rx := fun b hb => I.rx b (by
    unfold muts G.cut at hb
    unfold muts
    simp only [List.map_take] at hb
    exact List.mem_of_mem_take hb)
  nd := by
    have := I.nd
    unfold muts G.cut
    simp only [List.map_take]
    exact this.sublist (List.take_sublist _ _)
  len := by
    have := I.len
    rw [List.length_append] at this
    show H.length = (g.ρ.take n).length
    rw [List.length_take]; lia
  objs := fun i p o e e' => by
    have hi : i < H.length := (List.getElem?_eq_some_iff.mp e').1
    refine ObjOk.cutB (hb i o e') (I.objs i p o ?_ ?_)
    · have e2 : (g.ρ.take n)[i]? = some p := e
      rw [List.getElem?_take] at e2
      split at e2
      · exact e2
      · exact nn e2
    · rw [List.getElem?_append_left hi]; exact e'
  inh := fun b hb => I.inh b (by
    unfold muts G.cut at hb
    unfold muts
    simp only [List.map_take] at hb
    exact List.mem_of_mem_take hb)
  xin := I.xin
end Rk
end

section
set_option genSizeOf false
set_option genCtorIdx false
open PySem PySem.W PySem.Calls PyProof.Rows PySem.Builtin
set_option maxRecDepth 100000
namespace Rk
section
variable {prog : Program} {w : World} {A : Around} {s : Shared}
theorem codeC_func {body : List Stmt} {env : Env} {R : Result → Shared → Prop}
    (h : wpC (model prog w) (A.deeper env) (execs body env) (fun f s' => R (.ok (.ret (match f with | .ret v => v | _ => .none))) s')
      (fun e s' => wpAny (model prog w) (A.deeper env) (leaving env e) (fun _ s'' => R (.error e) s'') (fun e' s'' => R (.error e') s'') s') s) :
    codeC (model prog w) A (.func body env) R s := by
  refine codeC_of_tree ?_
  show wpC _ (A.deeper env) (do point; match ← (execs body env).onRaise (leaving env) with | .ret v => ret v | _ => ret .none) _ _ s
  refine wpC_bind (wpC_point (wpC_bind (wpC_onRaise (wpC_mono h (fun f s' h' => ?_) fun _ _ h' => wpC_any h'))))
  induction f using Flow.casesOn <;> exact wpC_pure h'
theorem codeC_call_fn {R : Result → Shared → Prop} {a : Addr} {o : Obj} {fd : FuncData} {body : List Stmt} {vals : List Value} {binds : List (Str × Value)}
    (hroom : A.depth < recursionLimit) (ho : s.heap.get? a = some o) (hdata : o.data = .func fd) (hlim : s.heap.NoLimit) (hcd : s.heap.CodeRec fd.code fd.qualname)
    (hbody : fd.body = .stmts body) (hbind : BindsTo s fd ⟨vals, []⟩ binds) (hclo : fd.closure = [])
    (hkind : ∀ x ∈ binds, fd.scope.names.lookup x.1 = some .local ∨ (fd.scope.names.lookup x.1 = some .cell ∧ ((cellsFrom (s.heap.objs.size + 1) fd.scope.names []).lookup x.1).isSome = true))
    (hco : fd.scope.isCoroutine = false) (hgen : fd.scope.isGenerator = false) (hk : fd.scope.kind = .function)
    (h : ∀ s₁, InCallC s (callEnvC fd s.heap.objs.size a).locals (bindL (callEnvC fd s.heap.objs.size a).kindOf binds fun _ => none) (callEnvC fd s.heap.objs.size a).cells
        (bindC (callEnvC fd s.heap.objs.size a).kindOf binds fun _ => none) s₁ →
      wpC (model prog w) (A.deeper (callEnvC fd s.heap.objs.size a)) (execs body (callEnvC fd s.heap.objs.size a)) (fun f s' => R (.ok (.ret (match f with | .ret v => v | _ => .none))) s')
        (fun e s' => wpAny (model prog w) (A.deeper (callEnvC fd s.heap.objs.size a)) (leaving (callEnvC fd s.heap.objs.size a) e) (fun _ s'' => R (.error e) s'') (fun e' s'' => R (.error e') s'') s') s₁) :
    codeC (model prog w) A (.call (.ref a) ⟨vals, []⟩) R s := by
  refine codeC_of_tree ?_
  show wpC _ A.in1 (callAny (.ref a) ⟨vals, []⟩) _ _ s
  refine wpC_any ?_
  simp -iota only [callAny]
  refine wpAny_bind (wpAny_load ho ?_)
  obtain ⟨c, oc, vs, tq, hc, hoc, hdc, hq⟩ := hcd
  simp only [hdata, callFunction, hco, hgen, hbody, hc]
  refine wpAny_bind (m := field (.ref c) 1) (wpAny_field hoc hdc hq (wpAny_bind (wpAny_pure ?_)))
  refine wpAny_bind (hbind _ _ _ _ ?_)
  rw [hclo]
  refine wpAny_bind (wpAny_newFunctionEnv_cells hk hkind fun env he s' x => ?_)
  have he2 : env = callEnvC fd s.heap.objs.size a := by rw [he]; unfold callEnvC; rw [hc]
  rw [he2] at x ⊢
  exact wpAny_bind (wpAny_enterFrame (hlim.keeps x.toInCall.keep) hroom (wpAny_pure (And.intro ⟨rfl, rfl⟩ (codeC_func (h s' x)))))
end
structure DefOk (B : Heap) (f : Addr) (ps : List Str) (sc : Scope) (body : List Stmt) (dv : List Value) (du : List V) : Prop where
  scf : ScF ps sc
  rep : ∀ g, RepL g dv du
  obj : ∃ o fd, B.get? f = some o ∧ o.data = .func fd ∧ fd.scope = sc ∧ fd.body = .stmts body ∧ fd.closure = [] ∧ fd.globals = mainGlobals ∧ fd.builtins = builtinsNs ∧ B.CodeRec fd.code fd.qualname ∧
    ∀ (s : Shared), (∀ b o, B.get? b = some o → s.heap.get? b = some o) → ∀ vs, vs.length + dv.length = ps.length → BindsTo s fd ⟨vs, []⟩ (ps.zip (vs ++ dv))
structure BaseOk (w : World) (B : Heap) : Prop where
  K : (kObjs w.params).In B
  lim : B.NoLimit
  names : ∀ x v, globV x = some v → ∀ (env : Env), env.globals = mainGlobals → env.builtins = builtinsNs → env.scope.kind = .function → env.kindOf x = some .globalImplicit → ∀ (A : Around) (g : G) (H : List O) (X : List Addr) (s : Shared), HInv B X H g s.heap →
    ∃ cv, Rep g cv v ∧ ∀ (Q : Value → Shared → Prop) (E : Value → Shared → Prop), Q cv s → wpAny (MM w) A (loadName env x) Q E s
noncomputable def runU (φ : Tab) (k : Nat) (ys : List Y) (args : List V) (H : List O) : Option Res := match AM.bind (evYs φ k ys) (fun f => frzRet (f.getD .none)) ⟨fun j => args[j % 100]?, H⟩ with
  | some (.ok v s) => some (.ok v s.H)
  | some (.exc k s) => some (.exc k s.H)
  | .none => .none
noncomputable def Cut (H : List O) (a b : Res) : Prop := match a, b with
  | .ok v H₁, .ok v' H₂ => v = v' ∧ CutH H H₁ H₂
  | .exc k H₁, .exc k' H₂ => k = k' ∧ CutH H H₁ H₂
  | _, _ => False
section
variable {w : World} {c : Cx} {r : Str → Option X} {A : Around} {g : G} {φ : Tab} {k n : Nat}
theorem HInv.kb {B : Heap} {X : List Addr} {H : List O} {g : G} {h : Heap} (I : HInv B X H g h) : ∀ b o, B.get? b = some o → h.get? b = some o := fun b o e => I.zin b o (I.base b o e)
noncomputable abbrev cxOf (B : Heap) (frs : List Env) (X : List Addr) (env : Env) : Cx := { B := B, env := env, outer := frs, own := env.locals :: env.cells.map (·.2), out := X }
noncomputable abbrev cxIn (c : Cx) (env : Env) : Cx := cxOf c.B c.frs c.X env
theorem leave {st : St} {s h₁ h₂ h₃ : Heap} {g₁ g₃ : G} {H₁ H₂ : List O} {c' : Cx} (C : CxOk c) (I : Inv c r st g₁ s) (ho : c'.outer = c.frs) (hX : c'.out = c.X) (hB : c'.B = c.B) (fresh : ∀ b ∈ c'.own, s.get? b = none) (keep : ∀ b o, s.get? b = some o → h₁.get? b = some o)
    (S : Step c' g₁ g₃ h₁ h₂) (V : HInv c'.B c'.X H₁ g₃ h₂) (cut : CutH st.H H₁ H₂) (k3 : ∀ b o, b ∉ c'.own → h₂.get? b = some o → h₃.get? b = some o) :
    ∃ g₄, Step c g₁ g₄ s h₃ ∧ Inv c r { st with H := H₂ } g₄ h₃ ∧ ∀ v u, clean u = true → Rep g₃ v u → Rep g₄ v u := by
  have disj : ∀ b ∈ c.X, b ∉ c'.own := fun b hb q => by obtain ⟨o, e⟩ := I.hp.xin b hb; rw [fresh b q] at e; exact nn e
  have inX : ∀ b ∈ c.X, b ∈ c'.X := fun b hb => List.mem_append_right _ (hX ▸ hb)
  have ownX : ∀ b ∈ c'.own, b ∈ c'.X := fun b hb => List.mem_append_left _ hb
  have main : ∀ (H : List O) (g₄ : G), g₁.le g₄ → HInv c'.B c'.X H g₄ h₂ → (∀ b ∈ muts g₄, b ∈ muts g₃) → Step c g₁ g₄ s h₃ ∧ Inv c r { st with H := H } g₄ h₃ := by
    intro H g₄ le V4 hm
    have hp : HInv c.B c.X H g₄ h₃ := {
      base := fun b o e => V4.base b o (hB ▸ e)
      zin := fun b o e => k3 b o (fun q => by rw [V4.zx b (ownX b q)] at e; exact nn e) (V4.zin b o e)
      zx := fun b hb => V4.zx b (inX b hb)
      rx := fun b hb q => V4.rx b hb (inX b q)
      nd := V4.nd
      len := V4.len
      objs := fun i p o e e' => (V4.objs i p o e e').move (.refl g₄) (fun ob q => k3 _ _ (fun z => V4.rx _ (mem_muts e) (ownX _ z)) q) id
      inh := fun b hb => let ⟨o, e⟩ := V4.inh b hb; ⟨o, k3 b o (fun z => V4.rx b hb (ownX b z)) e⟩
      xin := fun b hb => let ⟨o, e⟩ := V4.xin b (inX b hb); ⟨o, k3 b o (disj b hb) e⟩ }
    have kp : ∀ b o, s.get? b = some o → b ∉ muts g₁ → ∃ sl, h₃.get? b = some { o with slots := sl } ∧ (b ∉ frA c.frs → sl = o.slots) := fun b o e hb => by
      have nb : b ∉ c'.own := fun q => by rw [fresh b q] at e; exact nn e
      obtain ⟨sl, e2, f⟩ := S.keep b o (keep b o e) fun q => (List.mem_append.mp q).elim nb hb
      exact ⟨sl, k3 b _ nb e2, fun q => f (by rw [ho]; exact q)⟩
    refine ⟨⟨le, fun b o e hb => ?_, fun b hb => ?_, fun b hb q => hp.rx b hb (List.mem_append_left _ q)⟩, I.grown C le hp fun b o e hb => ?_⟩
    · obtain ⟨sl, e2, f⟩ := kp b o e fun q => hb (List.mem_append_right _ q)
      refine ⟨sl, e2, fun q => f fun z => ?_⟩
      have : frA c.frs = c.env.locals :: frA c.outer := by show List.filterMap _ (_ :: _) = _; rw [List.filterMap_cons, C.frm]; rfl
      rw [this] at z
      rcases List.mem_cons.mp z with z | z
      · exact hb (List.mem_append_left _ (z ▸ C.lown))
      · exact q z
    · rcases S.fresh b (hm b hb) with q | q
      · exact .inl q
      · refine .inr ?_
        cases e : s.get? b with
        | none => rfl
        | some o => rw [keep b o e] at q; exact nn q.symm
    · obtain ⟨sl, e2, _⟩ := kp b o e fun q => I.hp.rx b q hb
      exact ⟨sl, e2⟩
  rcases cut with rfl | ⟨⟨ext, rfl⟩, hl, hb⟩
  · obtain ⟨a, b⟩ := main _ g₃ S.le V (fun _ h => h)
    exact ⟨g₃, a, b, fun _ _ _ h => h⟩
  · have hlen : st.H.length = g₁.ρ.length := I.hp.len
    have blw : ∀ (i : Nat) (o : O), H₂[i]? = some o → belowO st.H.length o = true := fun i o e => by
      rcases hb i o e with q | q
      · have hi := (List.getElem?_eq_some_iff.mp q).1
        have hi' : i < g₁.ρ.length := by lia
        exact (I.hp.objs i _ o (List.getElem?_eq_getElem hi') q).blw (by lia)
      · exact q
    have V4 := V.cutB hl blw
    have le : g₁.le (g₃.cut st.H.length) := by
      obtain ⟨l1, l, l2⟩ := S.le
      refine ⟨l1, [], ?_⟩
      show g₃.ρ.take _ = _
      rw [l2, hlen, List.take_left', List.append_nil]; rfl
    have hm : ∀ b ∈ muts (g₃.cut st.H.length), b ∈ muts g₃ := fun b hb => by
      unfold muts G.cut at hb
      unfold muts
      simp -iota only [List.map_take] at hb
      exact List.mem_of_mem_take hb
    obtain ⟨a, b⟩ := main _ _ le V4 hm
    exact ⟨_, a, b, fun _ _ h r => r.kut _ h⟩
noncomputable def frzTop (v : V) : AM V := match v with
  | .tuple l => AM.bind (frzAll l) fun us => AM.pure (.tuple us)
  | v => frzOne v
theorem frz_ret {h : Heap} {st : St} {cv : Value} {v : V} {o : Out V} (C : CxOk c) (I : Inv c r st g h) (rv : Rep g cv v) (e : frzRet v st = some o) : ∃ u st' g', o = .ok u st' ∧ clean u = true ∧ Step c g g' h h ∧ Inv c r st' g' h ∧ Rep g' cv u := by
  have main : ∃ u st' g', frzTop v st = some (.ok u st') ∧ Step c g g' h h ∧ Inv c r st' g' h ∧ Rep g' cv u := by
    unfold frzTop
    split
    · rename_i l
      obtain ⟨p0, o0, n0, it0, rfl, z, hc, hd, rl⟩ := rv.tuple_inv
      obtain ⟨us, st', g', e', S, I', rus⟩ := frz_all C I rl
      exact ⟨V.tuple us, st', g', by simp only [AM.bind, e', AM.pure], S, I', Rep.tuple (S.le.1 _ _ z) hc hd rus⟩
    · obtain ⟨u, st', g', e', S, I', ru⟩ := frz_one C I rv
      exact ⟨u, st', g', e', S, I', ru⟩
  obtain ⟨u, st', g', e', S, I', ru⟩ := main
  have e : AM.bind (frzTop v) (fun u => if clean u then AM.pure u else fun _ => .none) st = some o := e
  unfold AM.bind at e
  rw [e'] at e
  dsimp only at e
  split at e
  · rename_i hc; obtain rfl := Option.some.inj e; exact ⟨u, st', g', rfl, hc, S, I', ru⟩
  · exact nn e
theorem flies_left {outer : List Env} {env : Env} {L e kd : Addr} {hr : Heap} {s : Shared} {X : List Addr} {Q : Unit → Shared → Prop} {E : Value → Shared → Prop} (hfr : A.frames = some (env :: outer)) (hf : env.frame = some L) (fo : FrOk X hr (env :: outer)) (F : Flies (env :: outer) hr s.heap kd e) (hL : L ∉ frA outer)
    (hQ : ∀ h', Flies outer (hideAll hr [L]) h' kd e → Q () { s with heap := h' }) : wpAny (MM w) A (leaving env (.ref e)) Q E s := by
  obtain ⟨base, b1, b2, b3, b4, b5, b6⟩ := F.out
  have fin : ∀ h' a0, Heap.LeftW base (env :: outer) e (.ref kd) a0 s.heap h' → Flies outer (hideAll hr [L]) h' kd e := fun h' a0 ⟨k1, k2, k3, k4⟩ => by
    refine ⟨⟨base, fun b o q n => b1 b o (of_hideAll _ q) fun z => ?_, fun b hb => b2 b (by show b ∈ List.filterMap _ (_ :: _); rw [List.filterMap_cons, hf]; exact List.mem_cons_of_mem _ hb), b3, k1, k2.2.2, .inr ⟨a0, k3⟩⟩, fun b hb o q => ?_⟩
    · have : frA (env :: outer) = L :: frA outer := by show List.filterMap _ (_ :: _) = _; rw [List.filterMap_cons, hf]; rfl
      rw [this] at z
      rcases List.mem_cons.mp z with z | z
      · rw [z, hideAll_none [L] (by simp)] at q; exact nn q
      · exact n z
    · have q' := of_hideAll _ q
      obtain ⟨sl, e1⟩ := F.frames b (by show b ∈ List.filterMap _ (_ :: _); rw [List.filterMap_cons, hf]; exact List.mem_cons_of_mem _ hb) o q'
      obtain ⟨en, he, hq⟩ := List.mem_filterMap.mp hb
      obtain ⟨_, F', o', f1, f2, f3, f4⟩ := fo en (List.mem_cons_of_mem _ he)
      rw [hq] at f1; obtain rfl := Option.some.inj f1
      rw [q'] at f3; obtain rfl := Option.some.inj f3
      obtain ⟨sl', e2⟩ := k4 b _ e1 f4
      exact ⟨sl', e2⟩
  rcases b6 with ⟨oe, vs, a0, he, hc, hd, h1, h0⟩ | ⟨a0, ht⟩
  · exact wpAny_leaving_firstW hfr b5 hf he b4 b3 hd h1 h0 fun h' hl => hQ h' (fin h' a0 (by rw [← hc]; exact hl))
  · exact wpAny_leaving_nextW hfr b5 hf ht b4 b3 fun h' hl => hQ h' (fin h' a0 hl)
end
end Rk
end

section
open PySem PySem.W PySem.Calls PyProof.Rows PySem.Builtin
set_option maxRecDepth 100000
namespace Rk
section
variable {w : World} {A : Around} {g : G} {φ : Tab} {n : Nat} {B : Heap}
theorem entry {B : Heap} {X₀ : List Addr} {H₀ : List O} {frs : List Env} {g₁ : G} {s : Shared} {h₁ : Heap} {tk : Nat} {ps : List Str} {fd : FuncData} {f : Addr} {vs : List Value} {us : List V} (F : ScF ps fd.scope) (I : HInv B X₀ H₀ g₁ s.heap) (Ifr : FrOk X₀ s.heap frs) (rv : RepL g₁ vs us) (hl : us.length = ps.length)
    (x : InCallC s (callEnvC fd s.heap.objs.size f).locals (bindL (callEnvC fd s.heap.objs.size f).kindOf (ps.zip vs) fun _ => none) (callEnvC fd s.heap.objs.size f).cells (bindC (callEnvC fd s.heap.objs.size f).kindOf (ps.zip vs) fun _ => none) { s with heap := h₁, toks := tk }) :
    (∀ b o, s.heap.get? b = some o → h₁.get? b = some o) ∧ (∀ b ∈ (cxOf B frs X₀ (callEnvC fd s.heap.objs.size f)).own, s.heap.get? b = none) ∧ CxOk (cxOf B frs X₀ (callEnvC fd s.heap.objs.size f)) ∧ RsOk (cxOf B frs X₀ (callEnvC fd s.heap.objs.size f)) (resOf fd.scope) ∧ Inv (cxOf B frs X₀ (callEnvC fd s.heap.objs.size f)) (resOf fd.scope) ⟨fun j => us[j % 100]?, H₀⟩ g₁ h₁ := by
  generalize hE : callEnvC fd s.heap.objs.size f = env at *
  have e1 : env.locals = s.heap.objs.size := by rw [← hE]; rfl
  have e2 : env.frame = some env.locals := by rw [← hE]; rfl
  have e3 : env.scope = fd.scope := by rw [← hE]; rfl
  have e4 : env.cells = cellsFrom (s.heap.objs.size + 1) fd.scope.names [] := by rw [← hE]; rfl
  have e5 : ∀ y, env.kindOf y = fd.scope.names.lookup y := fun y => by rw [← hE]; rfl
  have keep : ∀ b o, s.heap.get? b = some o → h₁.get? b = some o := x.toInCall.keep
  have fresh : ∀ b ∈ (cxOf B frs X₀ env).own, s.heap.get? b = none := fun b hb => by
    rcases List.mem_cons.mp hb with q | q
    · rw [q, e1]; exact get?_size_none _
    · obtain ⟨p, hp, rfl⟩ := List.mem_map.mp q
      have := x.above p.1 p.2 hp
      rw [e1] at this
      exact Heap.get?_none_of_le (Nat.le_of_lt this)
  obtain ⟨oL, es, ep, hoL, hdL, _⟩ := id x.toInCall.ns
  have hoL : h₁.get? env.locals = some oL := hoL
  have exi : ∀ b ∈ (cxOf B frs X₀ env).own, ∃ o, h₁.get? b = some o := fun b hb => by
    rcases List.mem_cons.mp hb with q | q
    · rw [q]; exact ⟨_, hoL⟩
    · obtain ⟨p, hp, rfl⟩ := List.mem_map.mp q
      have hnd : (env.cells.map (·.1)).Nodup := by rw [e4, cellsFrom_names fd.scope.names (s.heap.objs.size + 1) 0 [] [] rfl]; exact F.cnd
      obtain ⟨o, ho, _⟩ := x.cell p.1 p.2 (lookup_of_mem_nodup hnd hp)
      exact ⟨o, ho⟩
  have cl : ∀ y a, env.cells.lookup y = some a → a ∈ (cxOf B frs X₀ env).own := fun y a h => List.mem_cons_of_mem _ (List.mem_map.mpr ⟨_, PySem.mem_of_lookup h, rfl⟩)
  have CC : CxOk (cxOf B frs X₀ env) := ⟨by show env.scope.kind = _; rw [e3]; exact F.kind, List.mem_cons_self, e2, fun y a h => List.mem_append_left _ (cl y a h), fun y z a h h' => name_of_addr x.apart (PySem.mem_of_lookup h) (PySem.mem_of_lookup h')⟩
  have RO : RsOk (cxOf B frs X₀ env) (resOf fd.scope) := resOf_rsOk F e3 fun y hy => by
    have := cellsFrom_some fd.scope.names (s.heap.objs.size + 1) [] (.inl hy)
    rw [← e4] at this
    obtain ⟨a, ha⟩ := Option.isSome_iff_exists.mp this
    exact ⟨a, ha, cl y a ha⟩
  refine ⟨keep, fresh, CC, RO, ?_⟩
  have zn : ∀ b ∈ (cxOf B frs X₀ env).own, g₁.Z b = none := fun b hb => by
    cases e : g₁.Z b with
    | none => rfl
    | some o => have := I.zin _ o e; rw [fresh b hb] at this; exact nn this
  have K := I.keeps keep
  have hp : HInv (cxOf B frs X₀ env).B (cxOf B frs X₀ env).X H₀ g₁ h₁ := {
    base := K.base
    zin := K.zin
    zx := fun b hb => by
      rcases List.mem_append.mp hb with q | q
      · exact zn b q
      · exact K.zx b q
    rx := fun b hb q => by
      rcases List.mem_append.mp q with q | q
      · obtain ⟨o, e⟩ := I.inh b hb; rw [fresh b q] at e; exact nn e
      · exact K.rx b hb q
    nd := K.nd
    len := K.len
    objs := K.objs
    inh := K.inh
    xin := fun b hb => by
      rcases List.mem_append.mp hb with q | q
      · exact exi b q
      · exact K.xin b q }
  have tail : FrOk (cxOf B frs X₀ env).X h₁ frs := fun e he => by
    obtain ⟨a, F', o, b, d, q, z⟩ := Ifr e he
    exact ⟨a, F', o, b, List.mem_append_right _ d, keep _ _ q, z⟩
  refine ⟨hp, fun e he => ?_, fun y i v hy hσ => ?_, ⟨_, x.toInCall.ns⟩, fun y a h => ?_⟩
  · rcases List.mem_cons.mp he with q | q
    · rw [q]
      exact ⟨by show env.scope.kind ≠ _; rw [e3, F.kind]; decide, env.locals, oL, e2, List.mem_append_left _ List.mem_cons_self, hoL, fun ws z => by rw [hdL] at z; cases z⟩
    · exact tail e q
  · obtain ⟨h1, h2⟩ := resOf_loc F hy
    simp only at hσ
    obtain ⟨cv, hcv, rcv⟩ := rv.at hσ
    have hlt : i % 100 < ps.length := by rw [← hl]; exact (List.getElem?_eq_some_iff.mp hσ).1
    have hps : ps[i % 100]? = some y := by
      rw [F.psn, List.getElem?_map, List.getElem?_take, if_pos hlt]; exact h1
    refine ⟨cv, rcv, ?_⟩
    rcases h2 with ⟨hk, _⟩ | ⟨hk, _⟩
    · exact .inl ⟨(e5 y).trans hk, _, x.toInCall.ns, bindL_get ((e5 y).trans hk) ps vs _ _ F.nd hps hcv⟩
    · have := cellsFrom_some fd.scope.names (s.heap.objs.size + 1) [] (.inl hk)
      rw [← e4] at this
      obtain ⟨a, ha⟩ := Option.isSome_iff_exists.mp this
      obtain ⟨o, ho, hd⟩ := x.cell y a ha
      refine .inr ⟨.inl ((e5 y).trans hk), a, o, ha, ho, ?_⟩
      rw [hd, bindC_get (by rw [e5, hk]; decide) ps vs _ _ F.nd hps hcv]
  · obtain ⟨o, ho, hd⟩ := x.cell y a h
    exact ⟨o, _, ho, hd⟩
theorem def_call {f : Addr} {ps : List Str} {sc : Scope} {body : List Stmt} {ys : List Y} {dv : List Value} {du : List V} (D : DefOk B f ps sc body dv du) (BO : BaseOk w B) (T : TabOk w B n φ) (hc : cF sc body = some ys) {ct : Ct}
    (hct : ∀ us H out, ct us H = some out → us.length + du.length = ps.length ∧ ∃ k out₁, runU φ k ys (us ++ du) H = some out₁ ∧ Cut H out₁ out) : CallOk w B (n + 1) f ct := by
  intro c r A hB C O g vs us rv g₁ le st out e s Q E I ok ex
  subst hB
  dsimp only at e
  cases q : ct us st.H with
  | none => rw [q] at e; exact nn e
  | some res =>
    rw [q] at e
    obtain ⟨hl, k, out₁, hr, hcut⟩ := hct _ _ _ q
    have hl2 := (D.rep g₁).length
    have hl3 := rv.length
    have rvs := (rv.mono le).append (D.rep g₁)
    have F := D.scf
    obtain ⟨o, fd, ho, hd, rfl, hbody, hclo, hgl, hbi, hcd, hbind⟩ := D.obj
    have kB := I.hp.kb
    refine wpC_call (codeC_call_fn (binds := ps.zip (vs ++ dv)) (by have := O.depth; lia) (kB _ _ ho) hd (BO.lim.keeps kB) (hcd.keeps kB) hbody (hbind s kB vs (by lia)) hclo (fun x hx => ?_) F.co F.gen F.kind fun s₁ x => ?_)
    · rcases F.pk x.1 (List.of_mem_zip hx).1 with h | h
      · exact .inl h
      · exact .inr ⟨h, cellsFrom_some _ _ _ (.inl h)⟩
    · obtain ⟨h₁, tk, rfl, _⟩ := x.done
      obtain ⟨keep, fresh, CC, RO, I'⟩ := entry F I.hp I.fr rvs (by rw [List.length_append]; exact hl) x
      generalize hE : callEnvC fd s.heap.objs.size f = env at *
      have e1 : env.scope = fd.scope := by rw [← hE]; rfl
      have e2 : env.frame = some env.locals := by rw [← hE]; rfl
      have e3 : env.locals = s.heap.objs.size := by rw [← hE]; rfl
      have e4 : env.globals = mainGlobals := by rw [← hE]; exact hgl
      have e5 : env.builtins = builtinsNs := by rw [← hE]; exact hbi
      have hfr : (A.deeper env).frames = some (env :: c.frs) := by show A.frames.map _ = _; rw [O.frames]; rfl
      have K : ActOk w (cxIn c env) (resOf fd.scope) (A.deeper env) n φ := {
        C := CC
        O := ⟨O.hh, hfr, by have := O.depth; show A.depth + 1 + 5 * n < _; lia, by have := O.room; show A.units + 3 + 50 * n + 100 < _; lia⟩
        K := BO.K
        N := fun y v hy A' g' H s' V => by
          obtain ⟨h1, h2⟩ := resOf_val hy
          exact BO.names y v h2 env e4 e5 (by rw [e1]; exact F.kind) (by show env.scope.names.lookup y = _; rw [e1]; exact h1) A' g' H _ s' V
        RO := RO
        T := T
        fl := e2
        rs := resOf_rs
        nd := resOf_nd F }
      unfold runU AM.bind at hr
      cases ev : evYs φ k ys ⟨fun j => (us ++ du)[j % 100]?, st.H⟩ with
      | none => rw [ev] at hr; exact nn hr
      | some o1 =>
        rw [ev] at hr
        refine sound_F hc K g₁ g₁ (.refl _) _ o1 ev _ _ _ I' PassesOwn.leaving (fun fo st1 eo g₂ h₂ tk₂ fl S₂ I₂ fr => ?_) fun kd st1 eo g₂ hr' h' tk₂ ee S₂ I₂ FL => ?_
        · subst eo
          dsimp only at hr
          have rcv : Rep g₂ (match (generalizing := false) fl with | .ret v => v | _ => .none) (fo.getD .none) := by
            induction fo using Option.casesOn with
            | none => cases fr; exact .none
            | some v => obtain ⟨cv, rfl, rv⟩ := fr; exact rv
          cases ez : frzRet (fo.getD .none) st1 with
          | none => rw [ez] at hr; exact nn hr
          | some oz =>
            obtain ⟨u, st2, g₃, rfl, hcl, S₃, I₃, ru⟩ := frz_ret CC I₂ rcv ez
            rw [ez] at hr
            dsimp only at hr
            obtain rfl := Option.some.inj hr
            induction res using Res.casesOn with
            | exc _ _ => exact hcut.elim
            | ok v' H₂ =>
              obtain ⟨rfl, hcut⟩ := hcut
              obtain rfl := Option.some.inj e
              obtain ⟨g₄, S₄, I₄, rp⟩ := leave (c' := cxIn c env) (h₃ := h₂) C I rfl rfl rfl fresh keep (S₂.trans S₃) I₃.hp hcut (fun b o _ e => e)
              exact ok _ _ rfl g₄ h₂ tk₂ _ S₄ I₄ (rp _ _ hcl ru)
        · subst eo
          dsimp only at hr
          obtain rfl := Option.some.inj hr
          induction res using Res.casesOn with
          | ok _ _ => exact hcut.elim
          | exc k' H₂ =>
            obtain ⟨rfl, hcut⟩ := hcut
            obtain rfl := Option.some.inj e
            have nX : env.locals ∉ c.X := fun z => by obtain ⟨o, q⟩ := I.hp.xin _ z; rw [fresh _ List.mem_cons_self] at q; exact nn q
            refine flies_left (w := w) (s := { s with heap := h', toks := tk₂ }) hfr e2 I₂.fr FL (fun z => ?_) fun h'' FL' => ?_
            · obtain ⟨en, he, hq⟩ := List.mem_filterMap.mp z
              obtain ⟨_, F', _, f1, f2, _⟩ := I.fr en he
              rw [hq] at f1; obtain rfl := Option.some.inj f1
              exact nX f2
            · obtain ⟨g₄, S₄, I₄, rp⟩ := leave (c' := cxIn c env) (h₃ := hideAll hr' [env.locals]) C I rfl rfl rfl fresh keep S₂ I₂.hp hcut (fun b o hb e => hideAll_get _ e fun z => hb (by rw [List.mem_singleton.mp z]; exact List.mem_cons_self))
              exact ex _ _ rfl g₄ _ h'' tk₂ ee S₄ I₄ FL'
theorem def_top {f : Addr} {ps : List Str} {sc : Scope} {body : List Stmt} {ys : List Y} (D : DefOk B f ps sc body [] []) (BO : BaseOk w B) (T : TabOk w B n φ) (hc : cF sc body = some ys) (hh : A.handled = none) (hfr : A.frames = some []) (hd : A.depth + 1 + 5 * n < recursionLimit) (hu : A.units + 3 + 50 * n + 100 < cLine)
    {vs : List Value} {us : List V} {s : Shared} (hB : s.heap = B) (rv : ∀ g, (∀ b o, B.get? b = some o → g.Z b = some o) → RepL g vs us) (hl : us.length = ps.length) {k : Nat} {v : V} {H' : List O} (hr : runU φ k ys us [] = some (.ok v H')) {Q : Value → Shared → Prop} {E : Value → Shared → Prop}
    (ok : ∀ h' tk cv g, (∀ b o, B.get? b = some o → h'.get? b = some o) → Rep g cv v → Q cv { s with heap := h', toks := tk }) : wpC (MM w) A (call (.ref f) vs []) Q E s := by
  subst hB
  have I : HInv s.heap [] [] ⟨s.heap.get?, []⟩ s.heap := ⟨fun _ _ e => e, fun _ _ e => e, fun _ h => (nomatch h), fun _ h => (nomatch h), List.nodup_nil, rfl, fun i p o e => by simp at e, fun _ h => (nomatch h), fun _ h => (nomatch h)⟩
  have rvs := rv ⟨s.heap.get?, []⟩ fun _ _ e => e
  have F := D.scf
  have hl3 := rvs.length
  obtain ⟨o, fd, ho, hdd, rfl, hbody, hclo, hgl, hbi, hcd, hbind⟩ := D.obj
  refine wpC_call (codeC_call_fn (binds := ps.zip (vs ++ [])) (by lia) ho hdd BO.lim hcd hbody (hbind s (fun _ _ e => e) vs (by simp; lia)) hclo (fun x hx => ?_) F.co F.gen F.kind fun s₁ x => ?_)
  · rcases F.pk x.1 (List.of_mem_zip hx).1 with h | h
    · exact .inl h
    · exact .inr ⟨h, cellsFrom_some _ _ _ (.inl h)⟩
  · rw [List.append_nil] at x
    obtain ⟨h₁, tk, rfl, _⟩ := x.done
    obtain ⟨keep, fresh, CC, RO, I'⟩ := entry (frs := []) F I (fun e he => nomatch he) rvs hl x
    generalize hE : callEnvC fd s.heap.objs.size f = env at *
    have e1 : env.scope = fd.scope := by rw [← hE]; rfl
    have e2 : env.frame = some env.locals := by rw [← hE]; rfl
    have e4 : env.globals = mainGlobals := by rw [← hE]; exact hgl
    have e5 : env.builtins = builtinsNs := by rw [← hE]; exact hbi
    have hfr' : (A.deeper env).frames = some [env] := by show A.frames.map _ = _; rw [hfr]; rfl
    have K : ActOk w (cxOf s.heap [] [] env) (resOf fd.scope) (A.deeper env) n φ := {
      C := CC
      O := ⟨hh, hfr', by show A.depth + 1 + 5 * n < _; omega, by show A.units + 3 + 50 * n + 100 < _; omega⟩
      K := BO.K
      N := fun y v hy A' g' H s' V => by
        obtain ⟨h1, h2⟩ := resOf_val hy
        exact BO.names y v h2 env e4 e5 (by rw [e1]; exact F.kind) (by show env.scope.names.lookup y = _; rw [e1]; exact h1) A' g' H _ s' V
      RO := RO
      T := T
      fl := e2
      rs := resOf_rs
      nd := resOf_nd F }
    unfold runU AM.bind at hr
    cases ev : evYs φ k ys ⟨fun j => us[j % 100]?, []⟩ with
    | none => rw [ev] at hr; exact nn hr
    | some o1 =>
      rw [ev] at hr
      refine sound_F hc K _ _ (.refl _) _ o1 ev _ _ _ I' PassesOwn.leaving (fun fo st1 eo g₂ h₂ tk₂ fl S₂ I₂ fr => ?_) fun kd st1 eo g₂ hr' h' tk₂ ee S₂ I₂ FL => ?_
      · subst eo
        dsimp only at hr
        have rcv : Rep g₂ (match (generalizing := false) fl with | .ret v => v | _ => .none) (fo.getD .none) := by
          induction fo using Option.casesOn with
          | none => cases fr; exact .none
          | some v => obtain ⟨cv, rfl, rv⟩ := fr; exact rv
        cases ez : frzRet (fo.getD .none) st1 with
        | none => rw [ez] at hr; exact nn hr
        | some oz =>
          obtain ⟨u, st2, g₃, rfl, hcl, S₃, I₃, ru⟩ := frz_ret CC I₂ rcv ez
          rw [ez] at hr
          dsimp only at hr
          cases hr
          exact ok h₂ tk₂ _ g₃ (fun b o e => I₃.hp.kb b o e) ru
      · subst eo
        cases hr
end
end Rk
end

section
open PySem PySem.W PySem.Calls PyProof.Rows PySem.Builtin
set_option maxRecDepth 100000
namespace Rk
section
variable {w : World} {A : Around} {g : G} {φ : Tab} {n : Nat} {B : Heap}
theorem tc_weight (a : Addr) (vs : List Value) : (Code.builtin "type.__call__" ⟨.ref a :: vs, []⟩).weight = 1 := by kernel_rfl
theorem tc_units (a : Addr) (vs : List Value) : (Code.builtin "type.__call__" ⟨.ref a :: vs, []⟩).cUnits = 1 := by kernel_rfl
theorem tc_envs (a : Addr) (vs : List Value) : (Code.builtin "type.__call__" ⟨.ref a :: vs, []⟩).envs = [] := by kernel_rfl
theorem AOk.tc {c : Cx} (O : AOk w c A (n + 1)) (a : Addr) (vs : List Value) : AOk w c (A.under (.builtin "type.__call__" ⟨.ref a :: vs, []⟩)) n where
  hh := O.hh
  frames := by
    have : (A.under (.builtin "type.__call__" ⟨.ref a :: vs, []⟩)).frames = pushEnvs (Code.envs (.builtin "type.__call__" ⟨.ref a :: vs, []⟩)) A.frames := rfl
    rw [this, tc_envs]; exact O.frames
  depth := by
    have := O.depth
    have e : (A.under (.builtin "type.__call__" ⟨.ref a :: vs, []⟩)).depth = A.depth + Code.weight (.builtin "type.__call__" ⟨.ref a :: vs, []⟩) := rfl
    rw [e, tc_weight]; lia
  room := by
    have := O.room
    have e : (A.under (.builtin "type.__call__" ⟨.ref a :: vs, []⟩)).units = A.units + Code.cUnits (.builtin "type.__call__" ⟨.ref a :: vs, []⟩) := rfl
    rw [e, tc_units]; lia
theorem AOk.mono {c : Cx} (O : AOk w c A (n + 1)) : AOk w c A n := ⟨O.hh, O.frames, by have := O.depth; lia, by have := O.room; lia⟩
theorem CallOk.mono {f : Addr} {ct : Ct} (K : CallOk w B n f ct) : CallOk w B (n + 1) f ct := fun c r A hB C O => K c r A hB C O.mono
theorem make_ok (BO : BaseOk w B) (F : ∀ f ct, φ.lookup f = some ct → CallOk w B n f ct) : MakeOk w B (n + 1) φ := by
  intro a fi done hcl c r A hB C O g vs us rv g₁ le st out e s Q E I ok ex
  subst hB
  have CM := cls_make w.params a fi done hcl
  have X := I.hp.kin BO.K
  have hn0 : ∀ b o, s.heap.get? b = some o → b < s.heap.objs.size := fun b o e => Heap.lt_size e
  have k1 := keeps_push s.heap emptyDict
  have k2 := keeps_push (s.heap.push emptyDict) (instObj a s.heap.objs.size)
  have hx : ((s.heap.push emptyDict).push (instObj a s.heap.objs.size)).get? (s.heap.objs.size + 1) = some (instObj a s.heap.objs.size) := by
    have := Heap.get?_push_size (s.heap.push emptyDict) (o := instObj a s.heap.objs.size) rfl
    rwa [Heap.size_push] at this
  have hd : ((s.heap.push emptyDict).push (instObj a s.heap.objs.size)).get? s.heap.objs.size = some emptyDict := k2 _ _ (Heap.get?_push_size _ rfl)
  generalize hH : (s.heap.push emptyDict).push (instObj a s.heap.objs.size) = h₂ at *
  generalize hD : s.heap.objs.size = d at *
  have hnx : s.heap.get? (d + 1) = none := by rw [← hD]; exact Heap.get?_none_of_le (Nat.le_succ _)
  have hnd : s.heap.get? d = none := by rw [← hD]; exact get?_size_none _
  have kp : ∀ b o, s.heap.get? b = some o → h₂.get? b = some o := fun b o e => k2 b o (k1 b o e)
  have kp0 : ∀ b o, s.heap.get? b = some o → (hideAll h₂ [d]).get? b = some o := fun b o e => hideAll_get _ (kp b o e) fun z => by
    rw [List.mem_singleton.mp z, hnd] at e; exact nn e
  have hx0 : (hideAll h₂ [d]).get? (d + 1) = some (instObj a d) := hideAll_get _ hx fun z => Nat.succ_ne_self d (List.mem_singleton.mp z)
  have zx : g₁.Z (d + 1) = none := by
    cases e : g₁.Z (d + 1) with
    | none => rfl
    | some o => have := I.hp.zin _ o e; rw [hnx] at this; exact nn this
  have le1 := G.le_add (o := instObj a d) zx
  have V1 := I.hp.add kp0 hnx hx0
  have I1 : Inv c r st (g₁.add (d + 1) (instObj a d)) (hideAll h₂ [d]) := I.grown C le1 V1 fun b o e _ => ⟨o.slots, kp0 b o e⟩
  have S1 : Step c g₁ (g₁.add (d + 1) (instObj a d)) s.heap (hideAll h₂ [d]) := Step.of_keeps I.hp le1 rfl kp0
  have zd : (g₁.add (d + 1) (instObj a d)).Z d = none := by
    cases e : (g₁.add (d + 1) (instObj a d)).Z d with
    | none => rfl
    | some o => have := V1.zin _ o e; rw [hideAll_none [d] (by simp)] at this; exact nn this
  obtain ⟨I2, S2, rr⟩ := I1.made (p := (d + 1, d)) (o := .inst a []) C (h' := h₂) (fun b o e => of_hideAll _ e) (hideAll_none [d] (by simp)) (.inst (es := []) (n := 0) (by simp [G.add, G.grow]) hd .nil zd) ⟨_, hd⟩
  have S12 := S1.trans S2
  simp only [AM.bind, AM.alloc] at e
  cases q : useC φ fi (.ref st.H.length :: us) { st with H := st.H ++ [.inst a []] } with
  | none => rw [q] at e; exact nn e
  | some o =>
    rw [q] at e
    have q0 := q
    unfold useC at q
    cases hlk : φ.lookup fi with
    | none => rw [hlk] at q; exact nn q
    | some ct =>
      rw [hlk] at q
      have hne : (some (Value.ref fi) != some (Value.builtin "object.__init__")) = true := rfl
      refine wpC_call (codeC_make (makes_of X CM.makes) (looks_findIn X CM.init) (fun self => bind_fn X self (beq_iff_eq.mp CM.fn)) hne ?_)
      rw [hD, hH]
      refine F fi ct hlk c r _ rfl C (O.tc a vs) _ (.ref (d + 1) :: vs) (.ref st.H.length :: us) (.cons rr ((rv.mono le).mono S12.le)) _ (.refl _) _ o q _ _ _ I2 (fun b st' eo g₃ h₃ tk x S3 I3 rx => ?_) fun kd st' eo g₃ hr h' tk ee S3 I3 FL => ?_
      · subst eo
        dsimp only at e
        induction b using V.casesOn with
        | none =>
          obtain rfl := rx.none_inv
          refine ⟨rfl, ?_⟩
          induction done using Bool.casesOn with
          | false =>
            obtain rfl := Option.some.inj e
            exact ok _ _ rfl g₃ h₃ tk _ (S12.trans S3) I3 (rr.mono S3.le)
          | true =>
            obtain ⟨C', at_, hi, rfl⟩ := frzInst_k e
            obtain ⟨p, hp, hpe, ho⟩ := obj_at I3.hp (rr.mono S3.le) hi
            obtain ⟨px, pd, nn, es, rfl, zx', hd', ra, zd'⟩ := ho.inst_inv
            obtain rfl := Value.ref.inj hpe
            have le4 := G.le_add (a := pd) (o := dictOf es nn) zd'
            have rep : Rep (g₃.add pd (dictOf es nn)) (.ref (d + 1)) (.inst C' at_) := .inst (es := es) (n := nn) (le4.1 _ _ zx') (by show (if pd = pd then _ else _) = _; rw [if_pos rfl]) (ra.mono le4)
            exact ok _ _ rfl _ h₃ tk _ ((S12.trans S3).trans (Step.of_keeps I3.hp le4 rfl fun _ _ e => e)) (I3.grown C le4 (I3.hp.freeze hp hd' zd' rep) fun b o e _ => ⟨o.slots, e⟩) rep
        | _ => exact Rk.nn e
      · subst eo
        obtain rfl := Option.some.inj e
        exact ex _ _ rfl g₃ hr h' tk ee (S12.trans S3) I3 FL
theorem TabOk.nil (BO : BaseOk w B) : TabOk w B 1 [] := by
  refine ⟨fun f ct h => ?_, make_ok BO (n := 0) fun f ct h => ?_⟩
  · exact absurd h (by simp)
  · exact absurd h (by simp)
theorem TabOk.cons (BO : BaseOk w B) (T : TabOk w B n φ) {f : Addr} {ct : Ct} (K : CallOk w B (n + 1) f ct) : TabOk w B (n + 2) ((f, ct) :: φ) := by
  have F : ∀ f' ct', ((f, ct) :: φ).lookup f' = some ct' → CallOk w B (n + 1) f' ct' := fun f' ct' h => by
    rw [List.lookup_cons] at h
    by_cases q : (f' == f) = true
    · simp only [q] at h; obtain rfl := Option.some.inj h; rw [beq_iff_eq.mp q]; exact K
    · simp only [q] at h; exact (T.fn f' ct' h).mono
  exact ⟨fun f' ct' h => (F f' ct' h).mono, make_ok BO F⟩
end
end Rk
end

section
open PySem PySem.W PySem.Calls PyProof.Rows PySem.Builtin
set_option maxRecDepth 100000
namespace Rk
noncomputable def GlobOk (w : World) (B : Heap) (x : Str) (v : V) : Prop := ∀ (env : Env), env.globals = mainGlobals → env.builtins = builtinsNs → env.scope.kind = .function → env.kindOf x = some .globalImplicit → ∀ (A : Around) (g : G) (H : List O) (X : List Addr) (s : Shared), HInv B X H g s.heap →
    ∃ cv, Rep g cv v ∧ ∀ (Q : Value → Shared → Prop) (E : Value → Shared → Prop), Q cv s → wpAny (MM w) A (loadName env x) Q E s
section
variable {w : World} {B : Heap} {p : Program} {loose : List Str} {mg mb : Str → Option Value} {x : Str} {v : V}
theorem loadName_glob {M : Model} {A : Around} {E : Value → Shared → Prop} {s : Shared} {env : Env} {Q : Value → Shared → Prop} (hk : env.scope.kind = .function) (hx : env.kindOf x = some .globalImplicit) (h : wpAny M A (loadGlobal env x) Q E s) : wpAny M A (loadName env x) Q E s := by
  unfold loadName
  simp only [Env.blockKind, hk, hx, ScopeKind.isAnnotationScope, Bool.false_and, Bool.false_eq_true, if_false]
  exact h
theorem glob_K (X : (kObjs w.params).In B) (T : TopRead p loose mg mb B) {cv : Value} (e : nsIn (kObjs w.params) mainGlobals x = some (some cv)) (rep : ∀ g, (∀ b o, B.get? b = some o → g.Z b = some o) → Rep g cv v) : GlobOk w B x v :=
  fun env h1 h2 h3 h4 A g H Xs s I => ⟨cv, rep g I.base, fun Q E q => loadName_glob h3 h4 (loadGlobal_global (by rw [h1]; exact T.g.keeps I.kb) (mg_of X T.g e) q)⟩
theorem glob_B (X : (kObjs w.params).In B) (T : TopRead p loose mg mb B) {cv : Value} (e : nsIn (kObjs w.params) mainGlobals x = some none) (hv : bootBuiltins x = some cv) (hn : x ≠ "__name__") : GlobOk w B x (.fn cv) :=
  fun env h1 h2 h3 h4 A g H Xs s I => ⟨cv, .fn cv, fun Q E q => loadName_glob h3 h4 (loadGlobal_builtin (by rw [h1]; exact T.g.keeps I.kb) (mg_none_of X T.g e) (by rw [h2]; exact T.b.keeps I.kb) ((T.builtins x hn).trans hv) q)⟩
theorem globs_ok (X : (kObjs w.params).In B) (T : TopRead p loose mg mb B) : ∀ q ∈ globs, GlobOk w B (Str.ofString q.1) q.2 := by
  unfold globs
  refine List.forall_mem_cons.mpr ⟨glob_K X T (cv := (.ref 89)) (by kernel_rfl) fun g _ => .fn _, ?_⟩
  refine List.forall_mem_cons.mpr ⟨glob_K X T (cv := (.ref 96)) (by kernel_rfl) fun g _ => .fn _, ?_⟩
  refine List.forall_mem_cons.mpr ⟨glob_K X T (cv := (.ref 103)) (by kernel_rfl) fun g _ => .fn _, ?_⟩
  refine List.forall_mem_cons.mpr ⟨glob_K X T (cv := (.ref 110)) (by kernel_rfl) fun g _ => .fn _, ?_⟩
  refine List.forall_mem_cons.mpr ⟨glob_K X T (cv := (.ref 117)) (by kernel_rfl) fun g _ => .fn _, ?_⟩
  refine List.forall_mem_cons.mpr ⟨glob_K X T (cv := (.ref 124)) (by kernel_rfl) fun g _ => .fn _, ?_⟩
  refine List.forall_mem_cons.mpr ⟨glob_K X T (cv := (.ref 131)) (by kernel_rfl) fun g _ => .fn _, ?_⟩
  refine List.forall_mem_cons.mpr ⟨glob_K X T (cv := (.ref 138)) (by kernel_rfl) fun g _ => .fn _, ?_⟩
  refine List.forall_mem_cons.mpr ⟨glob_K X T (cv := (.ref 145)) (by kernel_rfl) fun g _ => .fn _, ?_⟩
  refine List.forall_mem_cons.mpr ⟨glob_K X T (cv := (.ref 174)) (by kernel_rfl) fun g _ => .fn _, ?_⟩
  refine List.forall_mem_cons.mpr ⟨glob_K X T (cv := (.ref 413)) (by kernel_rfl) fun g _ => .fn _, ?_⟩
  refine List.forall_mem_cons.mpr ⟨glob_K X T (cv := (.ref 423)) (by kernel_rfl) fun g _ => .fn _, ?_⟩
  refine List.forall_mem_cons.mpr ⟨glob_K X T (cv := (.ref 428)) (by kernel_rfl) fun g _ => .fn _, ?_⟩
  refine List.forall_mem_cons.mpr ⟨glob_K X T (cv := (.ref 435)) (by kernel_rfl) fun g _ => .fn _, ?_⟩
  refine List.forall_mem_cons.mpr ⟨glob_K X T (cv := (.ref 442)) (by kernel_rfl) fun g _ => .fn _, ?_⟩
  refine List.forall_mem_cons.mpr ⟨glob_K X T (cv := (.ref 449)) (by kernel_rfl) fun g _ => .fn _, ?_⟩
  refine List.forall_mem_cons.mpr ⟨glob_K X T (cv := (.ref 454)) (by kernel_rfl) fun g _ => .fn _, ?_⟩
  refine List.forall_mem_cons.mpr ⟨glob_K X T (cv := (.ref 461)) (by kernel_rfl) fun g _ => .fn _, ?_⟩
  refine List.forall_mem_cons.mpr ⟨glob_K X T (cv := (.ref 468)) (by kernel_rfl) fun g _ => .fn _, ?_⟩
  refine List.forall_mem_cons.mpr ⟨glob_K X T (cv := (.ref 475)) (by kernel_rfl) fun g _ => .fn _, ?_⟩
  refine List.forall_mem_cons.mpr ⟨glob_K X T (cv := (.ref 482)) (by kernel_rfl) fun g _ => .fn _, ?_⟩
  refine List.forall_mem_cons.mpr ⟨glob_K X T (cv := (.ref 489)) (by kernel_rfl) fun g _ => .fn _, ?_⟩
  refine List.forall_mem_cons.mpr ⟨glob_K X T (cv := (.ref 496)) (by kernel_rfl) fun g _ => .fn _, ?_⟩
  refine List.forall_mem_cons.mpr ⟨glob_K X T (cv := (.ref 503)) (by kernel_rfl) fun g _ => .fn _, ?_⟩
  refine List.forall_mem_cons.mpr ⟨glob_K X T (cv := (.ref 510)) (by kernel_rfl) fun g _ => .fn _, ?_⟩
  refine List.forall_mem_cons.mpr ⟨glob_K X T (cv := (.ref 517)) (by kernel_rfl) fun g _ => .fn _, ?_⟩
  refine List.forall_mem_cons.mpr ⟨glob_K X T (cv := (.ref 524)) (by kernel_rfl) fun g _ => .fn _, ?_⟩
  refine List.forall_mem_cons.mpr ⟨glob_K X T (cv := (.ref 255)) (by kernel_rfl) fun g _ => .fn _, ?_⟩
  refine List.forall_mem_cons.mpr ⟨glob_K X T (cv := (.ref 332)) (by kernel_rfl) fun g _ => .fn _, ?_⟩
  refine List.forall_mem_cons.mpr ⟨glob_K X T (cv := (.ref 367)) (by kernel_rfl) fun g _ => .fn _, ?_⟩
  refine List.forall_mem_cons.mpr ⟨glob_K X T (cv := (.ref 402)) (by kernel_rfl) fun g _ => .fn _, ?_⟩
  refine List.forall_mem_cons.mpr ⟨glob_K X T (cv := (.ref 56)) (by kernel_rfl) fun g _ => .fn _, ?_⟩
  refine List.forall_mem_cons.mpr ⟨glob_K X T (cv := (.ref 68)) (by kernel_rfl) fun g _ => .fn _, ?_⟩
  refine List.forall_mem_cons.mpr ⟨glob_K X T (cv := (.ref 80)) (by kernel_rfl) fun g _ => .fn _, ?_⟩
  refine List.forall_mem_cons.mpr ⟨glob_K X T (cv := (.int 4294967295 282)) (by kernel_rfl) fun g _ => .int _ _, ?_⟩
  refine List.forall_mem_cons.mpr ⟨glob_K X T (cv := (.int 18446744073709551615 284)) (by kernel_rfl) fun g _ => .int _ _, ?_⟩
  refine List.forall_mem_cons.mpr ⟨glob_K X T (cv := (.int 1 286)) (by kernel_rfl) fun g _ => .int _ _, ?_⟩
  refine List.forall_mem_cons.mpr ⟨glob_K X T (cv := (.int 2 288)) (by kernel_rfl) fun g _ => .int _ _, ?_⟩
  refine List.forall_mem_cons.mpr ⟨glob_K X T (cv := (.int 72057594037927935 601)) (by kernel_rfl) fun g _ => .int _ _, ?_⟩
  refine List.forall_mem_cons.mpr ⟨glob_K X T (cv := (.int 12 603)) (by kernel_rfl) fun g _ => .int _ _, ?_⟩
  refine List.forall_mem_cons.mpr ⟨glob_K X T (cv := (.str (Str.ofString "nnotn") 735)) (by kernel_rfl) fun g _ => .str _ _, ?_⟩
  refine List.forall_mem_cons.mpr ⟨glob_K X T (cv := (.str (Str.ofString "lnxtt") 737)) (by kernel_rfl) fun g _ => .str _ _, ?_⟩
  refine List.forall_mem_cons.mpr ⟨glob_K X T (cv := (.ref 414)) (by kernel_rfl) fun g hb => .tuple (n := 0) (items := [(.int 0 739), (.int 1 740), (.int 127 741), (.int 128 742), (.int 300 743), (.int 16384 744), (.int 4294967296 745), (.int 18446744073709551615 746)]) (hb 414 _ (X 414 _ rfl)) rfl rfl (.cons (.int _ _) (.cons (.int _ _) (.cons (.int _ _) (.cons (.int _ _) (.cons (.int _ _) (.cons (.int _ _) (.cons (.int _ _) (.cons (.int _ _) (.nil))))))))), ?_⟩
  refine List.forall_mem_cons.mpr ⟨glob_K X T (cv := (.ref 415)) (by kernel_rfl) fun g hb => .tuple (n := 0) (items := [(.int 0 748), (.int 1 749), (.int 255 750), (.int 72057594037927935 751), (.int 72057594037927936 752), (.int 128 753), (.int 65536 754), (.int 4294967296 755)]) (hb 415 _ (X 415 _ rfl)) rfl rfl (.cons (.int _ _) (.cons (.int _ _) (.cons (.int _ _) (.cons (.int _ _) (.cons (.int _ _) (.cons (.int _ _) (.cons (.int _ _) (.cons (.int _ _) (.nil))))))))), ?_⟩
  refine List.forall_mem_cons.mpr ⟨glob_K X T (cv := (.ref 416)) (by kernel_rfl) fun g hb => .tuple (n := 0) (items := [(.int 0 757), (.int 1 758), (.int 5 759), (.int 11 760), (.int 2 761), (.int 7 762), (.int 10 763), (.int 0 764), (.int 1 765), (.int 2 766), (.int 12 767)]) (hb 416 _ (X 416 _ rfl)) rfl rfl (.cons (.int _ _) (.cons (.int _ _) (.cons (.int _ _) (.cons (.int _ _) (.cons (.int _ _) (.cons (.int _ _) (.cons (.int _ _) (.cons (.int _ _) (.cons (.int _ _) (.cons (.int _ _) (.cons (.int _ _) (.nil)))))))))))), ?_⟩
  refine List.forall_mem_cons.mpr ⟨glob_B X T (by kernel_rfl) (by kernel_rfl) (by decide), ?_⟩
  refine List.forall_mem_cons.mpr ⟨glob_B X T (by kernel_rfl) (by kernel_rfl) (by decide), ?_⟩
  refine List.forall_mem_cons.mpr ⟨glob_B X T (by kernel_rfl) (by kernel_rfl) (by decide), ?_⟩
  refine List.forall_mem_cons.mpr ⟨glob_B X T (by kernel_rfl) (by kernel_rfl) (by decide), ?_⟩
  refine List.forall_mem_cons.mpr ⟨glob_B X T (by kernel_rfl) (by kernel_rfl) (by decide), ?_⟩
  refine List.forall_mem_cons.mpr ⟨glob_B X T (by kernel_rfl) (by kernel_rfl) (by decide), ?_⟩
  refine List.forall_mem_cons.mpr ⟨glob_B X T (by kernel_rfl) (by kernel_rfl) (by decide), ?_⟩
  refine List.forall_mem_cons.mpr ⟨glob_B X T (by kernel_rfl) (by kernel_rfl) (by decide), ?_⟩
  refine List.forall_mem_cons.mpr ⟨glob_B X T (by kernel_rfl) (by kernel_rfl) (by decide), ?_⟩
  refine List.forall_mem_cons.mpr ⟨glob_B X T (by kernel_rfl) (by kernel_rfl) (by decide), ?_⟩
  exact fun _ h => absurd h (List.not_mem_nil)
theorem baseOk_of (X : (kObjs w.params).In B) (T : TopRead p loose mg mb B) : BaseOk w B where
  K := X
  lim := T.nolimit
  names := fun x v h => by
    unfold globV at h
    obtain ⟨q, hq, rfl⟩ := Option.map_eq_some_iff.mp h
    have h1 := List.mem_of_find?_eq_some hq
    have h2 := List.find?_some hq
    have h3 : Str.ofString q.1 = x := beq_iff_eq.mp h2
    rw [← h3]
    exact globs_ok X T q h1
end
end Rk
end

section
open PySem PySem.W PySem.Calls PyProof.Rows PySem.Builtin
set_option maxRecDepth 100000
set_option maxHeartbeats 0
namespace Rk
theorem vs0 {α : Type} {l : List α} (h : l.length = 0) : l = [] := List.length_eq_zero_iff.mp h
theorem vsS {α : Type} {l : List α} {n : Nat} (h : l.length = n + 1) : ∃ a t, l = a :: t ∧ t.length = n := by
  induction l using List.casesOn with
  | nil => cases h
  | cons a t => exact ⟨a, t, rfl, Nat.succ.inj h⟩
theorem vs1 {α : Type} {l : List α} (h : l.length = 1) : ∃ a, l = [a] := by obtain ⟨a, t, rfl, k⟩ := vsS h; exact ⟨a, by rw [vs0 k]⟩
theorem vs2 {α : Type} {l : List α} (h : l.length = 2) : ∃ a b, l = [a, b] := by obtain ⟨a, t, rfl, k⟩ := vsS h; obtain ⟨b, rfl⟩ := vs1 k; exact ⟨a, b, rfl⟩
theorem vs3 {α : Type} {l : List α} (h : l.length = 3) : ∃ a b c, l = [a, b, c] := by obtain ⟨a, t, rfl, k⟩ := vsS h; obtain ⟨b, c, rfl⟩ := vs2 k; exact ⟨a, b, c, rfl⟩
theorem vs4 {α : Type} {l : List α} (h : l.length = 4) : ∃ a b c d, l = [a, b, c, d] := by obtain ⟨a, t, rfl, k⟩ := vsS h; obtain ⟨b, c, d, rfl⟩ := vs3 k; exact ⟨a, b, c, d, rfl⟩
theorem vs5 {α : Type} {l : List α} (h : l.length = 5) : ∃ a b c d e, l = [a, b, c, d, e] := by obtain ⟨a, t, rfl, k⟩ := vsS h; obtain ⟨b, c, d, e, rfl⟩ := vs4 k; exact ⟨a, b, c, d, e, rfl⟩
theorem vs6 {α : Type} {l : List α} (h : l.length = 6) : ∃ a b c d e f, l = [a, b, c, d, e, f] := by obtain ⟨a, t, rfl, k⟩ := vsS h; obtain ⟨b, c, d, e, f, rfl⟩ := vs5 k; exact ⟨a, b, c, d, e, f, rfl⟩
section
variable {B : Heap} {P : Params}
theorem d_write_groups (X : (kObjs P).In B) : DefOk B 89 [Str.ofString "n", Str.ofString "most"] (sScope (stD 14)) (sBody (stD 14)) [] [] where
  scf := okF_of (by kernel_rfl)
  rep := fun g => .nil
  obj := ⟨_, _, X 89 _ rfl, rfl, rfl, rfl, rfl, rfl, rfl, codeRec_of X (by kernel_rfl), fun s kk vs hl => by
    obtain ⟨a, b, rfl⟩ := vs2 hl
    exact BindsTo.of_eq rfl⟩
theorem d_read_groups (X : (kObjs P).In B) : DefOk B 96 [Str.ofString "data", Str.ofString "at", Str.ofString "octets", Str.ofString "most"] (sScope (stD 15)) (sBody (stD 15)) [] [] where
  scf := okF_of (by kernel_rfl)
  rep := fun g => .nil
  obj := ⟨_, _, X 96 _ rfl, rfl, rfl, rfl, rfl, rfl, rfl, codeRec_of X (by kernel_rfl), fun s kk vs hl => by
    obtain ⟨a, b, c, d, rfl⟩ := vs4 hl
    exact BindsTo.of_eq rfl⟩
theorem d_put_varint (X : (kObjs P).In B) : DefOk B 103 [Str.ofString "n"] (sScope (stD 16)) (sBody (stD 16)) [] [] where
  scf := okF_of (by kernel_rfl)
  rep := fun g => .nil
  obj := ⟨_, _, X 103 _ rfl, rfl, rfl, rfl, rfl, rfl, rfl, codeRec_of X (by kernel_rfl), fun s kk vs hl => by
    obtain ⟨a, rfl⟩ := vs1 hl
    exact BindsTo.of_eq rfl⟩
theorem d_read_varint (X : (kObjs P).In B) : DefOk B 110 [Str.ofString "data", Str.ofString "at"] (sScope (stD 17)) (sBody (stD 17)) [] [] where
  scf := okF_of (by kernel_rfl)
  rep := fun g => .nil
  obj := ⟨_, _, X 110 _ rfl, rfl, rfl, rfl, rfl, rfl, rfl, codeRec_of X (by kernel_rfl), fun s kk vs hl => by
    obtain ⟨a, b, rfl⟩ := vs2 hl
    exact BindsTo.of_eq rfl⟩
theorem d_put_varint32 (X : (kObjs P).In B) : DefOk B 117 [Str.ofString "n"] (sScope (stD 18)) (sBody (stD 18)) [] [] where
  scf := okF_of (by kernel_rfl)
  rep := fun g => .nil
  obj := ⟨_, _, X 117 _ rfl, rfl, rfl, rfl, rfl, rfl, rfl, codeRec_of X (by kernel_rfl), fun s kk vs hl => by
    obtain ⟨a, rfl⟩ := vs1 hl
    exact BindsTo.of_eq rfl⟩
theorem d_read_varint32 (X : (kObjs P).In B) : DefOk B 124 [Str.ofString "data", Str.ofString "at"] (sScope (stD 19)) (sBody (stD 19)) [] [] where
  scf := okF_of (by kernel_rfl)
  rep := fun g => .nil
  obj := ⟨_, _, X 124 _ rfl, rfl, rfl, rfl, rfl, rfl, rfl, codeRec_of X (by kernel_rfl), fun s kk vs hl => by
    obtain ⟨a, b, rfl⟩ := vs2 hl
    exact BindsTo.of_eq rfl⟩
theorem d_put_fixed32 (X : (kObjs P).In B) : DefOk B 131 [Str.ofString "n"] (sScope (stD 20)) (sBody (stD 20)) [] [] where
  scf := okF_of (by kernel_rfl)
  rep := fun g => .nil
  obj := ⟨_, _, X 131 _ rfl, rfl, rfl, rfl, rfl, rfl, rfl, codeRec_of X (by kernel_rfl), fun s kk vs hl => by
    obtain ⟨a, rfl⟩ := vs1 hl
    exact BindsTo.of_eq rfl⟩
theorem d_read_fixed32 (X : (kObjs P).In B) : DefOk B 138 [Str.ofString "data", Str.ofString "at"] (sScope (stD 21)) (sBody (stD 21)) [] [] where
  scf := okF_of (by kernel_rfl)
  rep := fun g => .nil
  obj := ⟨_, _, X 138 _ rfl, rfl, rfl, rfl, rfl, rfl, rfl, codeRec_of X (by kernel_rfl), fun s kk vs hl => by
    obtain ⟨a, b, rfl⟩ := vs2 hl
    exact BindsTo.of_eq rfl⟩
theorem d_read_lengthed (X : (kObjs P).In B) : DefOk B 145 [Str.ofString "data", Str.ofString "at"] (sScope (stD 22)) (sBody (stD 22)) [] [] where
  scf := okF_of (by kernel_rfl)
  rep := fun g => .nil
  obj := ⟨_, _, X 145 _ rfl, rfl, rfl, rfl, rfl, rfl, rfl, codeRec_of X (by kernel_rfl), fun s kk vs hl => by
    obtain ⟨a, b, rfl⟩ := vs2 hl
    exact BindsTo.of_eq rfl⟩
theorem d_checksum (X : (kObjs P).In B) : DefOk B 174 [Str.ofString "kind", Str.ofString "data"] (sScope (stD 26)) (sBody (stD 26)) [] [] where
  scf := okF_of (by kernel_rfl)
  rep := fun g => .nil
  obj := ⟨_, _, X 174 _ rfl, rfl, rfl, rfl, rfl, rfl, rfl, codeRec_of X (by kernel_rfl), fun s kk vs hl => by
    obtain ⟨a, b, rfl⟩ := vs2 hl
    exact BindsTo.of_eq rfl⟩
theorem d_Cursor_init (X : (kObjs P).In B) : DefOk B 189 [Str.ofString "self", Str.ofString "data", Str.ofString "at"] (sScope (stM 27 0)) (sBody (stM 27 0)) [.int 0 420] [.int 0] where
  scf := okF_of (by kernel_rfl)
  rep := fun g => .cons (.int _ _) .nil
  obj := ⟨_, _, X 189 _ rfl, rfl, rfl, rfl, rfl, rfl, rfl, codeRec_of X (by kernel_rfl), fun s kk vs hl => by
    obtain ⟨a, b, rfl⟩ := vs2 (Nat.succ.inj hl)
    exact kp_binds (fun b o e => kk b o (X b o e)) (fun S => by kernel_rfl)⟩
theorem d_Cursor_left (X : (kObjs P).In B) : DefOk B 196 [Str.ofString "self"] (sScope (stM 27 1)) (sBody (stM 27 1)) [] [] where
  scf := okF_of (by kernel_rfl)
  rep := fun g => .nil
  obj := ⟨_, _, X 196 _ rfl, rfl, rfl, rfl, rfl, rfl, rfl, codeRec_of X (by kernel_rfl), fun s kk vs hl => by
    obtain ⟨a, rfl⟩ := vs1 hl
    exact BindsTo.of_eq rfl⟩
theorem d_Cursor_varint (X : (kObjs P).In B) : DefOk B 203 [Str.ofString "self"] (sScope (stM 27 2)) (sBody (stM 27 2)) [] [] where
  scf := okF_of (by kernel_rfl)
  rep := fun g => .nil
  obj := ⟨_, _, X 203 _ rfl, rfl, rfl, rfl, rfl, rfl, rfl, codeRec_of X (by kernel_rfl), fun s kk vs hl => by
    obtain ⟨a, rfl⟩ := vs1 hl
    exact BindsTo.of_eq rfl⟩
theorem d_Cursor_fixed32 (X : (kObjs P).In B) : DefOk B 210 [Str.ofString "self"] (sScope (stM 27 3)) (sBody (stM 27 3)) [] [] where
  scf := okF_of (by kernel_rfl)
  rep := fun g => .nil
  obj := ⟨_, _, X 210 _ rfl, rfl, rfl, rfl, rfl, rfl, rfl, codeRec_of X (by kernel_rfl), fun s kk vs hl => by
    obtain ⟨a, rfl⟩ := vs1 hl
    exact BindsTo.of_eq rfl⟩
theorem d_Cursor_lengthed (X : (kObjs P).In B) : DefOk B 224 [Str.ofString "self"] (sScope (stM 27 5)) (sBody (stM 27 5)) [] [] where
  scf := okF_of (by kernel_rfl)
  rep := fun g => .nil
  obj := ⟨_, _, X 224 _ rfl, rfl, rfl, rfl, rfl, rfl, rfl, codeRec_of X (by kernel_rfl), fun s kk vs hl => by
    obtain ⟨a, rfl⟩ := vs1 hl
    exact BindsTo.of_eq rfl⟩
theorem d_Cursor_done (X : (kObjs P).In B) : DefOk B 252 [Str.ofString "self"] (sScope (stM 27 9)) (sBody (stM 27 9)) [] [] where
  scf := okF_of (by kernel_rfl)
  rep := fun g => .nil
  obj := ⟨_, _, X 252 _ rfl, rfl, rfl, rfl, rfl, rfl, rfl, codeRec_of X (by kernel_rfl), fun s kk vs hl => by
    obtain ⟨a, rfl⟩ := vs1 hl
    exact BindsTo.of_eq rfl⟩
theorem d_Sink_init (X : (kObjs P).In B) : DefOk B 273 [Str.ofString "self"] (sScope (stM 28 0)) (sBody (stM 28 0)) [] [] where
  scf := okF_of (by kernel_rfl)
  rep := fun g => .nil
  obj := ⟨_, _, X 273 _ rfl, rfl, rfl, rfl, rfl, rfl, rfl, codeRec_of X (by kernel_rfl), fun s kk vs hl => by
    obtain ⟨a, rfl⟩ := vs1 hl
    exact BindsTo.of_eq rfl⟩
theorem d_Sink_varint (X : (kObjs P).In B) : DefOk B 280 [Str.ofString "self", Str.ofString "n"] (sScope (stM 28 1)) (sBody (stM 28 1)) [] [] where
  scf := okF_of (by kernel_rfl)
  rep := fun g => .nil
  obj := ⟨_, _, X 280 _ rfl, rfl, rfl, rfl, rfl, rfl, rfl, codeRec_of X (by kernel_rfl), fun s kk vs hl => by
    obtain ⟨a, b, rfl⟩ := vs2 hl
    exact BindsTo.of_eq rfl⟩
theorem d_Sink_fixed32 (X : (kObjs P).In B) : DefOk B 287 [Str.ofString "self", Str.ofString "n"] (sScope (stM 28 2)) (sBody (stM 28 2)) [] [] where
  scf := okF_of (by kernel_rfl)
  rep := fun g => .nil
  obj := ⟨_, _, X 287 _ rfl, rfl, rfl, rfl, rfl, rfl, rfl, codeRec_of X (by kernel_rfl), fun s kk vs hl => by
    obtain ⟨a, b, rfl⟩ := vs2 hl
    exact BindsTo.of_eq rfl⟩
theorem d_Sink_lengthed (X : (kObjs P).In B) : DefOk B 301 [Str.ofString "self", Str.ofString "b"] (sScope (stM 28 4)) (sBody (stM 28 4)) [] [] where
  scf := okF_of (by kernel_rfl)
  rep := fun g => .nil
  obj := ⟨_, _, X 301 _ rfl, rfl, rfl, rfl, rfl, rfl, rfl, codeRec_of X (by kernel_rfl), fun s kk vs hl => by
    obtain ⟨a, b, rfl⟩ := vs2 hl
    exact BindsTo.of_eq rfl⟩
theorem d_Sink_done (X : (kObjs P).In B) : DefOk B 329 [Str.ofString "self"] (sScope (stM 28 8)) (sBody (stM 28 8)) [] [] where
  scf := okF_of (by kernel_rfl)
  rep := fun g => .nil
  obj := ⟨_, _, X 329 _ rfl, rfl, rfl, rfl, rfl, rfl, rfl, codeRec_of X (by kernel_rfl), fun s kk vs hl => by
    obtain ⟨a, rfl⟩ := vs1 hl
    exact BindsTo.of_eq rfl⟩
theorem d_RunInfo_init (X : (kObjs P).In B) : DefOk B 350 [Str.ofString "self", Str.ofString "level", Str.ofString "size", Str.ofString "check", Str.ofString "smallest", Str.ofString "largest"] (sScope (stM 32 0)) (sBody (stM 32 0)) [] [] where
  scf := okF_of (by kernel_rfl)
  rep := fun g => .nil
  obj := ⟨_, _, X 350 _ rfl, rfl, rfl, rfl, rfl, rfl, rfl, codeRec_of X (by kernel_rfl), fun s kk vs hl => by
    obtain ⟨a, b, c, d, e, f, rfl⟩ := vs6 hl
    exact BindsTo.of_eq rfl⟩
theorem d_RunInfo_row (X : (kObjs P).In B) : DefOk B 357 [Str.ofString "self"] (sScope (stM 32 1)) (sBody (stM 32 1)) [] [] where
  scf := okF_of (by kernel_rfl)
  rep := fun g => .nil
  obj := ⟨_, _, X 357 _ rfl, rfl, rfl, rfl, rfl, rfl, rfl, codeRec_of X (by kernel_rfl), fun s kk vs hl => by
    obtain ⟨a, rfl⟩ := vs1 hl
    exact BindsTo.of_eq rfl⟩
theorem d_RunInfo_fits (X : (kObjs P).In B) : DefOk B 364 [Str.ofString "self", Str.ofString "data"] (sScope (stM 32 2)) (sBody (stM 32 2)) [] [] where
  scf := okF_of (by kernel_rfl)
  rep := fun g => .nil
  obj := ⟨_, _, X 364 _ rfl, rfl, rfl, rfl, rfl, rfl, rfl, codeRec_of X (by kernel_rfl), fun s kk vs hl => by
    obtain ⟨a, b, rfl⟩ := vs2 hl
    exact BindsTo.of_eq rfl⟩
theorem d_Manifesto_init (X : (kObjs P).In B) : DefOk B 385 [Str.ofString "self", Str.ofString "index", Str.ofString "term", Str.ofString "conf_octets", Str.ofString "last_seq", Str.ofString "runs"] (sScope (stM 33 0)) (sBody (stM 33 0)) [] [] where
  scf := okF_of (by kernel_rfl)
  rep := fun g => .nil
  obj := ⟨_, _, X 385 _ rfl, rfl, rfl, rfl, rfl, rfl, rfl, codeRec_of X (by kernel_rfl), fun s kk vs hl => by
    obtain ⟨a, b, c, d, e, f, rfl⟩ := vs6 hl
    exact BindsTo.of_eq rfl⟩
theorem d_Manifesto_row (X : (kObjs P).In B) : DefOk B 392 [Str.ofString "self"] (sScope (stM 33 1)) (sBody (stM 33 1)) [] [] where
  scf := okF_of (by kernel_rfl)
  rep := fun g => .nil
  obj := ⟨_, _, X 392 _ rfl, rfl, rfl, rfl, rfl, rfl, rfl, codeRec_of X (by kernel_rfl), fun s kk vs hl => by
    obtain ⟨a, rfl⟩ := vs1 hl
    exact BindsTo.of_eq rfl⟩
theorem d_Manifesto_encode (X : (kObjs P).In B) : DefOk B 399 [Str.ofString "self"] (sScope (stM 33 2)) (sBody (stM 33 2)) [] [] where
  scf := okF_of (by kernel_rfl)
  rep := fun g => .nil
  obj := ⟨_, _, X 399 _ rfl, rfl, rfl, rfl, rfl, rfl, rfl, codeRec_of X (by kernel_rfl), fun s kk vs hl => by
    obtain ⟨a, rfl⟩ := vs1 hl
    exact BindsTo.of_eq rfl⟩
theorem d_decode_manifesto (X : (kObjs P).In B) : DefOk B 413 [Str.ofString "data"] (sScope (stD 34)) (sBody (stD 34)) [] [] where
  scf := okF_of (by kernel_rfl)
  rep := fun g => .nil
  obj := ⟨_, _, X 413 _ rfl, rfl, rfl, rfl, rfl, rfl, rfl, codeRec_of X (by kernel_rfl), fun s kk vs hl => by
    obtain ⟨a, rfl⟩ := vs1 hl
    exact BindsTo.of_eq rfl⟩
theorem d__law_number (X : (kObjs P).In B) : DefOk B 423 [Str.ofString "data", Str.ofString "at", Str.ofString "most", Str.ofString "bits"] (sScope (stD 41)) (sBody (stD 41)) [] [] where
  scf := okF_of (by kernel_rfl)
  rep := fun g => .nil
  obj := ⟨_, _, X 423 _ rfl, rfl, rfl, rfl, rfl, rfl, rfl, codeRec_of X (by kernel_rfl), fun s kk vs hl => by
    obtain ⟨a, b, c, d, rfl⟩ := vs4 hl
    exact BindsTo.of_eq rfl⟩
theorem d__law_field (X : (kObjs P).In B) : DefOk B 428 [Str.ofString "letter", Str.ofString "data", Str.ofString "at"] (sScope (stD 42)) (sBody (stD 42)) [] [] where
  scf := okF_of (by kernel_rfl)
  rep := fun g => .nil
  obj := ⟨_, _, X 428 _ rfl, rfl, rfl, rfl, rfl, rfl, rfl, codeRec_of X (by kernel_rfl), fun s kk vs hl => by
    obtain ⟨a, b, c, rfl⟩ := vs3 hl
    exact BindsTo.of_eq rfl⟩
theorem d__law_fields (X : (kObjs P).In B) : DefOk B 435 [Str.ofString "letters", Str.ofString "data", Str.ofString "at"] (sScope (stD 43)) (sBody (stD 43)) [] [] where
  scf := okF_of (by kernel_rfl)
  rep := fun g => .nil
  obj := ⟨_, _, X 435 _ rfl, rfl, rfl, rfl, rfl, rfl, rfl, codeRec_of X (by kernel_rfl), fun s kk vs hl => by
    obtain ⟨a, b, c, rfl⟩ := vs3 hl
    exact BindsTo.of_eq rfl⟩
theorem d__law_read (X : (kObjs P).In B) : DefOk B 442 [Str.ofString "data"] (sScope (stD 44)) (sBody (stD 44)) [] [] where
  scf := okF_of (by kernel_rfl)
  rep := fun g => .nil
  obj := ⟨_, _, X 442 _ rfl, rfl, rfl, rfl, rfl, rfl, rfl, codeRec_of X (by kernel_rfl), fun s kk vs hl => by
    obtain ⟨a, rfl⟩ := vs1 hl
    exact BindsTo.of_eq rfl⟩
theorem d__law_varint (X : (kObjs P).In B) : DefOk B 449 [Str.ofString "n"] (sScope (stD 45)) (sBody (stD 45)) [] [] where
  scf := okF_of (by kernel_rfl)
  rep := fun g => .nil
  obj := ⟨_, _, X 449 _ rfl, rfl, rfl, rfl, rfl, rfl, rfl, codeRec_of X (by kernel_rfl), fun s kk vs hl => by
    obtain ⟨a, rfl⟩ := vs1 hl
    exact BindsTo.of_eq rfl⟩
theorem d__law_part (X : (kObjs P).In B) : DefOk B 454 [Str.ofString "letter", Str.ofString "value"] (sScope (stD 46)) (sBody (stD 46)) [] [] where
  scf := okF_of (by kernel_rfl)
  rep := fun g => .nil
  obj := ⟨_, _, X 454 _ rfl, rfl, rfl, rfl, rfl, rfl, rfl, codeRec_of X (by kernel_rfl), fun s kk vs hl => by
    obtain ⟨a, b, rfl⟩ := vs2 hl
    exact BindsTo.of_eq rfl⟩
theorem d__law_write (X : (kObjs P).In B) : DefOk B 461 [Str.ofString "row"] (sScope (stD 47)) (sBody (stD 47)) [] [] where
  scf := okF_of (by kernel_rfl)
  rep := fun g => .nil
  obj := ⟨_, _, X 461 _ rfl, rfl, rfl, rfl, rfl, rfl, rfl, codeRec_of X (by kernel_rfl), fun s kk vs hl => by
    obtain ⟨a, rfl⟩ := vs1 hl
    exact BindsTo.of_eq rfl⟩
theorem d__law_sum (X : (kObjs P).In B) : DefOk B 468 [Str.ofString "data"] (sScope (stD 48)) (sBody (stD 48)) [] [] where
  scf := okF_of (by kernel_rfl)
  rep := fun g => .nil
  obj := ⟨_, _, X 468 _ rfl, rfl, rfl, rfl, rfl, rfl, rfl, codeRec_of X (by kernel_rfl), fun s kk vs hl => by
    obtain ⟨a, rfl⟩ := vs1 hl
    exact BindsTo.of_eq rfl⟩
theorem d__law_kin (X : (kObjs P).In B) : DefOk B 475 [Str.ofString "data", Str.ofString "y"] (sScope (stD 49)) (sBody (stD 49)) [] [] where
  scf := okF_of (by kernel_rfl)
  rep := fun g => .nil
  obj := ⟨_, _, X 475 _ rfl, rfl, rfl, rfl, rfl, rfl, rfl, codeRec_of X (by kernel_rfl), fun s kk vs hl => by
    obtain ⟨a, b, rfl⟩ := vs2 hl
    exact BindsTo.of_eq rfl⟩
theorem d__law_fits (X : (kObjs P).In B) : DefOk B 482 [Str.ofString "run", Str.ofString "told", Str.ofString "data", Str.ofString "y"] (sScope (stD 50)) (sBody (stD 50)) [] [] where
  scf := okF_of (by kernel_rfl)
  rep := fun g => .nil
  obj := ⟨_, _, X 482 _ rfl, rfl, rfl, rfl, rfl, rfl, rfl, codeRec_of X (by kernel_rfl), fun s kk vs hl => by
    obtain ⟨a, b, c, d, rfl⟩ := vs4 hl
    exact BindsTo.of_eq rfl⟩
theorem d__law_agrees (X : (kObjs P).In B) : DefOk B 489 [Str.ofString "data", Str.ofString "bodies", Str.ofString "y"] (sScope (stD 51)) (sBody (stD 51)) [] [] where
  scf := okF_of (by kernel_rfl)
  rep := fun g => .nil
  obj := ⟨_, _, X 489 _ rfl, rfl, rfl, rfl, rfl, rfl, rfl, codeRec_of X (by kernel_rfl), fun s kk vs hl => by
    obtain ⟨a, b, c, rfl⟩ := vs3 hl
    exact BindsTo.of_eq rfl⟩
theorem d__law_word (X : (kObjs P).In B) : DefOk B 496 [Str.ofString "n", Str.ofString "y"] (sScope (stD 52)) (sBody (stD 52)) [] [] where
  scf := okF_of (by kernel_rfl)
  rep := fun g => .nil
  obj := ⟨_, _, X 496 _ rfl, rfl, rfl, rfl, rfl, rfl, rfl, codeRec_of X (by kernel_rfl), fun s kk vs hl => by
    obtain ⟨a, b, rfl⟩ := vs2 hl
    exact BindsTo.of_eq rfl⟩
theorem d__law_body (X : (kObjs P).In B) : DefOk B 503 [Str.ofString "y"] (sScope (stD 53)) (sBody (stD 53)) [] [] where
  scf := okF_of (by kernel_rfl)
  rep := fun g => .nil
  obj := ⟨_, _, X 503 _ rfl, rfl, rfl, rfl, rfl, rfl, rfl, codeRec_of X (by kernel_rfl), fun s kk vs hl => by
    obtain ⟨a, rfl⟩ := vs1 hl
    exact BindsTo.of_eq rfl⟩
theorem d__law_run (X : (kObjs P).In B) : DefOk B 510 [Str.ofString "y", Str.ofString "data"] (sScope (stD 54)) (sBody (stD 54)) [] [] where
  scf := okF_of (by kernel_rfl)
  rep := fun g => .nil
  obj := ⟨_, _, X 510 _ rfl, rfl, rfl, rfl, rfl, rfl, rfl, codeRec_of X (by kernel_rfl), fun s kk vs hl => by
    obtain ⟨a, b, rfl⟩ := vs2 hl
    exact BindsTo.of_eq rfl⟩
theorem d__law_hurt (X : (kObjs P).In B) : DefOk B 517 [Str.ofString "data", Str.ofString "starts", Str.ofString "y"] (sScope (stD 55)) (sBody (stD 55)) [] [] where
  scf := okF_of (by kernel_rfl)
  rep := fun g => .nil
  obj := ⟨_, _, X 517 _ rfl, rfl, rfl, rfl, rfl, rfl, rfl, codeRec_of X (by kernel_rfl), fun s kk vs hl => by
    obtain ⟨a, b, c, rfl⟩ := vs3 hl
    exact BindsTo.of_eq rfl⟩
theorem d__law_draw (X : (kObjs P).In B) : DefOk B 524 [Str.ofString "nums", Str.ofString "i"] (sScope (stD 56)) (sBody (stD 56)) [] [] where
  scf := okF_of (by kernel_rfl)
  rep := fun g => .nil
  obj := ⟨_, _, X 524 _ rfl, rfl, rfl, rfl, rfl, rfl, rfl, codeRec_of X (by kernel_rfl), fun s kk vs hl => by
    obtain ⟨a, b, rfl⟩ := vs2 hl
    exact BindsTo.of_eq rfl⟩
theorem d_law (X : (kObjs P).In B) : DefOk B 529 [Str.ofString "script"] (sScope (stD 57)) (sBody (stD 57)) [] [] where
  scf := okF_of (by kernel_rfl)
  rep := fun g => .nil
  obj := ⟨_, _, X 529 _ rfl, rfl, rfl, rfl, rfl, rfl, rfl, codeRec_of X (by kernel_rfl), fun s kk vs hl => by
    obtain ⟨a, rfl⟩ := vs1 hl
    exact BindsTo.of_eq rfl⟩
end
end Rk
end

section
open PySem PySem.W PySem.Calls PyProof.Rows PySem.Builtin
set_option maxRecDepth 100000
set_option maxHeartbeats 0
namespace Rk
noncomputable abbrev S (x : String) : Str := Str.ofString x
noncomputable def y_write_groups : List Y := [
  .ifs (.bool .Or [(.cmp .Lt (.loc 0) (.val (.int 0))), (.cmp .Gt (.loc 0) (.loc 1))]) [.dead] [],
  .set 2 (.call (.type "bytearray") []),
  .whl (.cmp .GtE (.loc 0) (.val (.int 128))) [.expr (.meth (.loc 2) (S "append") [(.bin .BitOr (.bin .BitAnd (.loc 0) (.val (.int 127))) (.val (.int 128)))]),
    .aug 0 .RShift (.val (.int 7))],
  .expr (.meth (.loc 2) (S "append") [(.loc 0)]),
  .ret (.call (.type "bytes") [(.loc 2)])]
noncomputable def y_put_varint : List Y := [
  .ifs (.bool .And [(.cmp .GtE (.loc 0) (.val (.int 0))), (.cmp .Lt (.loc 0) (.val (.int 128)))]) [.ret (.call (.type "bytes") [(.list [(.loc 0)])])] [],
  .ret (.call (.ref 89) [(.loc 0), (.val (.int 18446744073709551615))])]
noncomputable def y_put_varint32 : List Y := [
  .ifs (.bool .And [(.cmp .GtE (.loc 0) (.val (.int 0))), (.cmp .Lt (.loc 0) (.val (.int 128)))]) [.ret (.call (.type "bytes") [(.list [(.loc 0)])])] [],
  .ret (.call (.ref 89) [(.loc 0), (.val (.int 4294967295))])]
noncomputable def y_put_fixed32 : List Y := [
  .ifs (.bool .Or [(.cmp .Lt (.loc 0) (.val (.int 0))), (.cmp .Gt (.loc 0) (.val (.int 4294967295)))]) [.dead] [],
  .ret (.call (.type "bytes") [(.list [(.bin .BitAnd (.loc 0) (.val (.int 255))), (.bin .BitAnd (.bin .RShift (.loc 0) (.val (.int 8))) (.val (.int 255))), (.bin .BitAnd (.bin .RShift (.loc 0) (.val (.int 16))) (.val (.int 255))), (.bin .RShift (.loc 0) (.val (.int 24)))])])]
noncomputable def y_read_groups : List Y := [
  .ifs (.cmp .Lt (.loc 1) (.val (.int 0))) [.raise 68 [(.fstr [(.loc 1)])]] [],
  .set 4 (.val (.int 0)),
  .set 5 (.val (.int 0)),
  .fors 6 (.call (.type "range") [(.loc 2)]) [.ifs (.cmp .GtE (.loc 1) (.call (.builtin "len") [(.loc 0)])) [.raise 68 [(.val (.str (S "the octets end within a varint")))]] [],
    .set 7 (.item (.loc 0) (.loc 1)),
    .aug 1 .Add (.val (.int 1)),
    .aug 4 .BitOr (.bin .LShift (.bin .BitAnd (.loc 7) (.val (.int 127))) (.loc 5)),
    .ifs (.cmp .Lt (.loc 7) (.val (.int 128))) [.ifs (.cmp .Gt (.loc 4) (.loc 3)) [.raise 56 [(.fstr [(.loc 4), (.loc 3)])]] [],
      .ret (.tup [(.loc 4), (.loc 1)])] [],
    .aug 5 .Add (.val (.int 7))],
  .raise 56 [(.fstr [(.loc 2)])]]
noncomputable def y_read_varint : List Y := [
  .ifs (.bool .And [(.cmp .GtE (.loc 1) (.val (.int 0))), (.cmp .Lt (.loc 1) (.call (.builtin "len") [(.loc 0)])), (.cmp .Lt (.item (.loc 0) (.loc 1)) (.val (.int 128)))]) [.ret (.tup [(.item (.loc 0) (.loc 1)), (.bin .Add (.loc 1) (.val (.int 1)))])] [],
  .ret (.call (.ref 96) [(.loc 0), (.loc 1), (.val (.int 10)), (.val (.int 18446744073709551615))])]
noncomputable def y_read_varint32 : List Y := [
  .ifs (.bool .And [(.cmp .GtE (.loc 1) (.val (.int 0))), (.cmp .Lt (.loc 1) (.call (.builtin "len") [(.loc 0)])), (.cmp .Lt (.item (.loc 0) (.loc 1)) (.val (.int 128)))]) [.ret (.tup [(.item (.loc 0) (.loc 1)), (.bin .Add (.loc 1) (.val (.int 1)))])] [],
  .ret (.call (.ref 96) [(.loc 0), (.loc 1), (.val (.int 5)), (.val (.int 4294967295))])]
noncomputable def y_read_fixed32 : List Y := [
  .ifs (.bool .Or [(.cmp .Lt (.loc 1) (.val (.int 0))), (.cmp .Gt (.bin .Add (.loc 1) (.val (.int 4))) (.call (.builtin "len") [(.loc 0)]))]) [.raise 68 [(.fstr [(.loc 1)])]] [],
  .ret (.bin .BitOr (.bin .BitOr (.bin .BitOr (.item (.loc 0) (.loc 1)) (.bin .LShift (.item (.loc 0) (.bin .Add (.loc 1) (.val (.int 1)))) (.val (.int 8)))) (.bin .LShift (.item (.loc 0) (.bin .Add (.loc 1) (.val (.int 2)))) (.val (.int 16)))) (.bin .LShift (.item (.loc 0) (.bin .Add (.loc 1) (.val (.int 3)))) (.val (.int 24))))]
noncomputable def y_read_lengthed : List Y := [
  .unp [2, 1] (.call (.ref 124) [(.loc 0), (.loc 1)]),
  .ifs (.cmp .Gt (.bin .Add (.loc 1) (.loc 2)) (.call (.builtin "len") [(.loc 0)])) [.raise 68 [(.fstr [(.loc 2), (.bin .Sub (.call (.builtin "len") [(.loc 0)]) (.loc 1))])]] [],
  .ret (.tup [(.call (.type "bytes") [(.slice (.loc 0) (some (.loc 1)) (some (.bin .Add (.loc 1) (.loc 2))))]), (.bin .Add (.loc 1) (.loc 2))])]
noncomputable def y_checksum : List Y := [
  .ifs (.cmp .Eq (.loc 0) (.val (.int 1))) [.dead] [],
  .ifs (.cmp .Eq (.loc 0) (.val (.int 2))) [.ret (.bin .BitAnd (.bin .Add (.bin .Add (.bin .Mult (.call (.builtin "sum") [(.loc 1)]) (.val (.int 251))) (.bin .Mult (.call (.builtin "len") [(.loc 1)]) (.val (.int 65537)))) (.val (.int 7))) (.val (.int 4294967295)))] [],
  .dead]
noncomputable def y_Cursor_init : List Y := [
  .ifs (.bool .Or [(.cmp .Lt (.loc 2) (.val (.int 0))), (.cmp .Gt (.loc 2) (.call (.builtin "len") [(.loc 1)]))]) [.raise 68 [(.fstr [(.loc 2), (.call (.builtin "len") [(.loc 1)])])]] [],
  .seta (.loc 0) (S "data") (.loc 1),
  .seta (.loc 0) (S "at") (.loc 2)]
noncomputable def y_Cursor_left : List Y := [
  .ret (.bin .Sub (.call (.builtin "len") [(.attr (.loc 0) (S "data"))]) (.attr (.loc 0) (S "at")))]
noncomputable def y_Cursor_varint : List Y := [
  .set 1 (.attr (.loc 0) (S "at")),
  .ifs (.bool .And [(.cmp .Lt (.loc 1) (.call (.builtin "len") [(.attr (.loc 0) (S "data"))])), (.cmp .Lt (.item (.attr (.loc 0) (S "data")) (.loc 1)) (.val (.int 128)))]) [.seta (.loc 0) (S "at") (.bin .Add (.loc 1) (.val (.int 1))),
    .ret (.item (.attr (.loc 0) (S "data")) (.loc 1))] [],
  .unp [2, 1] (.call (.ref 110) [(.attr (.loc 0) (S "data")), (.loc 1)]),
  .seta (.loc 0) (S "at") (.loc 1),
  .ret (.loc 2)]
noncomputable def y_Cursor_fixed32 : List Y := [
  .set 1 (.call (.ref 138) [(.attr (.loc 0) (S "data")), (.attr (.loc 0) (S "at"))]),
  .auga (.loc 0) (S "at") .Add (.val (.int 4)),
  .ret (.loc 1)]
noncomputable def y_Cursor_lengthed : List Y := [
  .unp [1, 2] (.call (.ref 145) [(.attr (.loc 0) (S "data")), (.attr (.loc 0) (S "at"))]),
  .seta (.loc 0) (S "at") (.loc 2),
  .ret (.loc 1)]
noncomputable def y_Cursor_done : List Y := [
  .ifs (.cmp .Lt (.attr (.loc 0) (S "at")) (.call (.builtin "len") [(.attr (.loc 0) (S "data"))])) [.raise 56 [(.fstr [(.meth (.loc 0) (S "left") [])])]] []]
noncomputable def y_Sink_init : List Y := [
  .seta (.loc 0) (S "parts") (.call (.type "bytearray") [])]
noncomputable def y_Sink_varint : List Y := [
  .ifs (.bool .And [(.cmp .GtE (.loc 1) (.val (.int 0))), (.cmp .Lt (.loc 1) (.val (.int 128)))]) [.expr (.meth (.attr (.loc 0) (S "parts")) (S "append") [(.loc 1)])] [.expr (.meth (.attr (.loc 0) (S "parts")) (S "extend") [(.call (.ref 103) [(.loc 1)])])]]
noncomputable def y_Sink_fixed32 : List Y := [
  .expr (.meth (.attr (.loc 0) (S "parts")) (S "extend") [(.call (.ref 131) [(.loc 1)])])]
noncomputable def y_Sink_lengthed : List Y := [
  .expr (.meth (.attr (.loc 0) (S "parts")) (S "extend") [(.call (.ref 117) [(.call (.builtin "len") [(.loc 1)])])]),
  .expr (.meth (.attr (.loc 0) (S "parts")) (S "extend") [(.loc 1)])]
noncomputable def y_Sink_done : List Y := [
  .ret (.call (.type "bytes") [(.attr (.loc 0) (S "parts"))])]
noncomputable def y_RunInfo_init : List Y := [
  .seta (.loc 0) (S "level") (.loc 1),
  .seta (.loc 0) (S "size") (.loc 2),
  .seta (.loc 0) (S "check") (.loc 3),
  .seta (.loc 0) (S "smallest") (.loc 4),
  .seta (.loc 0) (S "largest") (.loc 5)]
noncomputable def y_RunInfo_row : List Y := [
  .ret (.tup [(.attr (.loc 0) (S "level")), (.attr (.loc 0) (S "size")), (.attr (.loc 0) (S "check")), (.attr (.loc 0) (S "smallest")), (.attr (.loc 0) (S "largest"))])]
noncomputable def y_RunInfo_fits : List Y := [
  .ret (.bool .And (.cmp .Eq (.call (.builtin "len") [(.loc 1)]) (.attr (.loc 0) (S "size"))) (.cmp .Eq (.call (.ref 174) [(.val (.int 2)), (.loc 1)]) (.attr (.loc 0) (S "check"))))]
noncomputable def y_Manifesto_init : List Y := [
  .seta (.loc 0) (S "index") (.loc 1),
  .seta (.loc 0) (S "term") (.loc 2),
  .seta (.loc 0) (S "conf_octets") (.loc 3),
  .seta (.loc 0) (S "last_seq") (.loc 4),
  .seta (.loc 0) (S "runs") (.loc 5)]
noncomputable def y_Manifesto_row : List Y := [
  .newl 1 [],
  .fors 2 (.attr (.loc 0) (S "runs")) [.expr (.meth (.loc 1) (S "append") [(.meth (.loc 2) (S "row") [])])],
  .ret (.tup [(.attr (.loc 0) (S "index")), (.attr (.loc 0) (S "term")), (.attr (.loc 0) (S "conf_octets")), (.attr (.loc 0) (S "last_seq")), (.call (.type "tuple") [(.loc 1)])])]
noncomputable def y_Manifesto_encode : List Y := [
  .set 1 (.call (.ref 332) []),
  .expr (.meth (.loc 1) (S "varint") [(.attr (.loc 0) (S "index"))]),
  .expr (.meth (.loc 1) (S "varint") [(.attr (.loc 0) (S "term"))]),
  .expr (.meth (.loc 1) (S "varint") [(.attr (.loc 0) (S "last_seq"))]),
  .expr (.meth (.loc 1) (S "lengthed") [(.attr (.loc 0) (S "conf_octets"))]),
  .expr (.meth (.loc 1) (S "varint") [(.call (.builtin "len") [(.attr (.loc 0) (S "runs"))])]),
  .fors 2 (.attr (.loc 0) (S "runs")) [.expr (.meth (.loc 1) (S "varint") [(.attr (.loc 2) (S "level"))]),
    .expr (.meth (.loc 1) (S "varint") [(.attr (.loc 2) (S "size"))]),
    .expr (.meth (.loc 1) (S "fixed32") [(.attr (.loc 2) (S "check"))]),
    .expr (.meth (.loc 1) (S "lengthed") [(.attr (.loc 2) (S "smallest"))]),
    .expr (.meth (.loc 1) (S "lengthed") [(.attr (.loc 2) (S "largest"))])],
  .ret (.meth (.loc 1) (S "done") [])]
noncomputable def y_decode_manifesto : List Y := [
  .set 1 (.call (.ref 255) [(.loc 0)]),
  .set 2 (.meth (.loc 1) (S "varint") []),
  .set 3 (.meth (.loc 1) (S "varint") []),
  .set 4 (.meth (.loc 1) (S "varint") []),
  .ifs (.cmp .Gt (.loc 4) (.val (.int 72057594037927935))) [.raise 56 [(.fstr [(.loc 4)])]] [],
  .set 5 (.meth (.loc 1) (S "lengthed") []),
  .set 6 (.meth (.loc 1) (S "varint") []),
  .newl 7 [],
  .whl (.cmp .Lt (.call (.builtin "len") [(.loc 7)]) (.loc 6)) [.set 8 (.meth (.loc 1) (S "varint") []),
    .ifs (.cmp .GtE (.loc 8) (.val (.int 12))) [.raise 56 [(.fstr [(.loc 8)])]] [],
    .set 9 (.meth (.loc 1) (S "varint") []),
    .set 10 (.meth (.loc 1) (S "fixed32") []),
    .set 11 (.meth (.loc 1) (S "lengthed") []),
    .set 12 (.meth (.loc 1) (S "lengthed") []),
    .expr (.meth (.loc 7) (S "append") [(.call (.ref 367) [(.loc 8), (.loc 9), (.loc 10), (.loc 11), (.loc 12)])])],
  .expr (.meth (.loc 1) (S "done") []),
  .ret (.call (.ref 402) [(.loc 2), (.loc 3), (.loc 5), (.loc 4), (.loc 7)])]
noncomputable def y_law_number : List Y := [
  .set 4 (.loc 1),
  .whl (.bool .And [(.cmp .Lt (.loc 4) (.call (.builtin "len") [(.loc 0)])), (.cmp .Lt (.loc 4) (.bin .Add (.loc 1) (.loc 2))), (.cmp .GtE (.item (.loc 0) (.loc 4)) (.val (.int 128)))]) [.aug 4 .Add (.val (.int 1))],
  .ifs (.cmp .Eq (.loc 4) (.bin .Add (.loc 1) (.loc 2))) [.ret (.tup [(.val (.int 2)), (.val (.int 0)), (.loc 1)])] [],
  .ifs (.cmp .Eq (.loc 4) (.call (.builtin "len") [(.loc 0)])) [.ret (.tup [(.val (.int 1)), (.val (.int 0)), (.loc 1)])] [],
  .set 5 (.item (.loc 0) (.loc 4)),
  .fors 6 (.call (.type "range") [(.bin .Sub (.loc 4) (.val (.int 1))), (.bin .Sub (.loc 1) (.val (.int 1))), (.neg (.val (.int 1)))]) [.set 5 (.bin .Sub (.bin .Add (.bin .Mult (.loc 5) (.val (.int 128))) (.item (.loc 0) (.loc 6))) (.val (.int 128)))],
  .ifs (.cmp .GtE (.loc 5) (.bin .Pow (.val (.int 2)) (.loc 3))) [.ret (.tup [(.val (.int 2)), (.val (.int 0)), (.loc 1)])] [],
  .ret (.tup [(.val (.int 0)), (.loc 5), (.bin .Add (.loc 4) (.val (.int 1)))])]
noncomputable def y_law_field : List Y := [
  .ifs (.cmp .Eq (.loc 0) (.val (.str (S "x")))) [.ifs (.cmp .Gt (.bin .Add (.loc 102) (.val (.int 4))) (.call (.builtin "len") [(.loc 101)])) [.ret (.tup [(.val (.int 1)), (.val (.int 0)), (.loc 102)])] [],
    .ret (.tup [(.val (.int 0)), (.call (.builtin "sum") [(.comp (.bin .Mult (.item (.loc 101) (.bin .Add (.loc 102) (.loc 999))) (.bin .Pow (.val (.int 256)) (.loc 999))) 999 (.call (.type "range") [(.val (.int 4))]))]), (.bin .Add (.loc 102) (.val (.int 4)))])] [],
  .ifs (.cmp .NotEq (.loc 0) (.val (.str (S "t")))) [.unp [3, 4, 102] (.call (.ref 423) [(.loc 101), (.loc 102), (.val (.int 10)), (.val (.int 64))]),
    .ifs (.bool .And [(.cmp .Eq (.loc 3) (.val (.int 0))), (.bool .Or [(.bool .And [(.cmp .Eq (.loc 0) (.val (.str (S "o")))), (.cmp .GtE (.loc 4) (.bin .Pow (.val (.int 2)) (.val (.int 56))))]), (.bool .And [(.cmp .Eq (.loc 0) (.val (.str (S "l")))), (.cmp .Gt (.loc 4) (.val (.int 11)))])])]) [.set 3 (.val (.int 2))] [],
    .ret (.tup [(.loc 3), (.loc 4), (.loc 102)])] [],
  .unp [3, 4, 102] (.call (.ref 423) [(.loc 101), (.loc 102), (.val (.int 5)), (.val (.int 32))]),
  .ifs (.bool .And [(.cmp .Eq (.loc 3) (.val (.int 0))), (.cmp .Gt (.bin .Add (.loc 102) (.loc 4)) (.call (.builtin "len") [(.loc 101)]))]) [.set 3 (.val (.int 1))] [],
  .ifs (.cmp .Gt (.loc 3) (.val (.int 0))) [.ret (.tup [(.loc 3), (.val (.bytes [])), (.loc 102)])] [],
  .ret (.tup [(.val (.int 0)), (.slice (.loc 101) (some (.loc 102)) (some (.bin .Add (.loc 102) (.loc 4)))), (.bin .Add (.loc 102) (.loc 4))])]
noncomputable def y_law_fields : List Y := [
  .newl 3 [],
  .fors 4 (.loc 0) [.unp [5, 6, 2] (.call (.ref 428) [(.loc 4), (.loc 1), (.loc 2)]),
    .ifs (.cmp .Gt (.loc 5) (.val (.int 0))) [.ret (.tup [(.loc 5), (.loc 3), (.loc 2)])] [],
    .expr (.meth (.loc 3) (S "append") [(.loc 6)])],
  .ret (.tup [(.val (.int 0)), (.loc 3), (.loc 2)])]
noncomputable def y_law_read : List Y := [
  .unp [1, 2, 3] (.call (.ref 435) [(.val (.str (S "nnotn"))), (.loc 0), (.val (.int 0))]),
  .ifs (.cmp .Gt (.loc 1) (.val (.int 0))) [.ret (.tup [(.loc 1), (.tup [])])] [],
  .newl 4 [],
  .whl (.cmp .Lt (.call (.builtin "len") [(.loc 4)]) (.item (.loc 2) (.val (.int 4)))) [.unp [1, 5, 3] (.call (.ref 435) [(.val (.str (S "lnxtt"))), (.loc 0), (.loc 3)]),
    .ifs (.cmp .Gt (.loc 1) (.val (.int 0))) [.ret (.tup [(.loc 1), (.tup [])])] [],
    .expr (.meth (.loc 4) (S "append") [(.call (.type "tuple") [(.loc 5)])])],
  .ifs (.cmp .Lt (.loc 3) (.call (.builtin "len") [(.loc 0)])) [.ret (.tup [(.val (.int 2)), (.tup [])])] [],
  .ret (.tup [(.val (.int 0)), (.tup [(.item (.loc 2) (.val (.int 0))), (.item (.loc 2) (.val (.int 1))), (.item (.loc 2) (.val (.int 3))), (.item (.loc 2) (.val (.int 2))), (.call (.type "tuple") [(.loc 4)])])])]
noncomputable def y_law_varint : List Y := [
  .set 1 (.val (.bytes [])),
  .whl (.cmp .GtE (.loc 0) (.val (.int 128))) [.set 1 (.bin .Add (.loc 1) (.call (.type "bytes") [(.list [(.bin .Add (.bin .Mod (.loc 0) (.val (.int 128))) (.val (.int 128)))])])),
    .set 0 (.bin .FloorDiv (.loc 0) (.val (.int 128)))],
  .ret (.bin .Add (.loc 1) (.call (.type "bytes") [(.list [(.loc 0)])]))]
noncomputable def y_law_part : List Y := [
  .ifs (.cmp .Eq (.loc 0) (.val (.str (S "x")))) [.ret (.call (.type "bytes") [(.comp (.bin .Mod (.bin .FloorDiv (.loc 101) (.bin .Pow (.val (.int 256)) (.loc 999))) (.val (.int 256))) 999 (.call (.type "range") [(.val (.int 4))]))])] [],
  .ifs (.cmp .Eq (.loc 0) (.val (.str (S "t")))) [.ret (.bin .Add (.call (.ref 449) [(.call (.builtin "len") [(.loc 101)])]) (.loc 101))] [],
  .ret (.call (.ref 449) [(.loc 101)])]
noncomputable def y_law_write : List Y := [
  .set 1 (.val (.str (S "nnotn"))),
  .newl 2 [(.item (.loc 0) (.val (.int 0))), (.item (.loc 0) (.val (.int 1))), (.item (.loc 0) (.val (.int 3))), (.item (.loc 0) (.val (.int 2))), (.call (.builtin "len") [(.item (.loc 0) (.val (.int 4)))])],
  .fors 3 (.item (.loc 0) (.val (.int 4))) [.set 1 (.bin .Add (.loc 1) (.val (.str (S "lnxtt")))),
    .set 2 (.bin .Add (.loc 2) (.call (.type "list") [(.loc 3)]))],
  .set 4 (.val (.bytes [])),
  .newl 5 [(.val (.int 0))],
  .fors 6 (.call (.type "range") [(.call (.builtin "len") [(.loc 2)])]) [.set 4 (.bin .Add (.loc 4) (.call (.ref 454) [(.item (.loc 1) (.loc 6)), (.item (.loc 2) (.loc 6))])),
    .expr (.meth (.loc 5) (S "append") [(.call (.builtin "len") [(.loc 4)])])],
  .ret (.tup [(.loc 4), (.loc 5)])]
noncomputable def y_law_sum : List Y := [
  .set 1 (.val (.int 7)),
  .fors 2 (.loc 0) [.aug 1 .Add (.bin .Add (.bin .Mult (.val (.int 251)) (.loc 2)) (.val (.int 65537)))],
  .ret (.bin .Mod (.loc 1) (.bin .Pow (.val (.int 2)) (.val (.int 32))))]
noncomputable def y_law_kin : List Y := [
  .newl 2 [(.loc 0), (.bin .Add (.loc 0) (.call (.type "bytes") [(.list [(.bin .Mod (.loc 1) (.val (.int 256)))])])), (.slice (.loc 0) none (some (.neg (.val (.int 1)))))],
  .ifs (.cmp .Gt (.call (.builtin "len") [(.loc 0)]) (.val (.int 1))) [.set 3 (.bin .Mod (.loc 1) (.bin .Sub (.call (.builtin "len") [(.loc 0)]) (.val (.int 1)))),
    .set 4 (.item (.loc 0) (.loc 3)),
    .set 5 (.item (.loc 0) (.bin .Add (.loc 3) (.val (.int 1)))),
    .expr (.meth (.loc 2) (S "append") [(.bin .Add (.bin .Add (.slice (.loc 0) none (some (.loc 3))) (.call (.type "bytes") [(.list [(.bin .Mod (.bin .Add (.bin .Add (.loc 4) (.val (.int 1))) (.bin .Mod (.bin .FloorDiv (.loc 1) (.val (.int 3))) (.val (.int 255)))) (.val (.int 256)))])])) (.slice (.loc 0) (some (.bin .Add (.loc 3) (.val (.int 1)))) none))]),
    .expr (.meth (.loc 2) (S "append") [(.bin .Add (.bin .Add (.slice (.loc 0) none (some (.loc 3))) (.call (.type "bytes") [(.list [(.loc 5), (.loc 4)])])) (.slice (.loc 0) (some (.bin .Add (.loc 3) (.val (.int 2)))) none))]),
    .expr (.meth (.loc 2) (S "append") [(.bin .Add (.bin .Add (.slice (.loc 0) none (some (.loc 3))) (.call (.type "bytes") [(.list [(.bin .Mod (.bin .Add (.loc 4) (.val (.int 1))) (.val (.int 256))), (.bin .Mod (.bin .Add (.loc 5) (.val (.int 255))) (.val (.int 256)))])])) (.slice (.loc 0) (some (.bin .Add (.loc 3) (.val (.int 2)))) none))])] [],
  .ret (.loc 2)]
noncomputable def y_law_fits : List Y := [
  .fors 4 (.call (.ref 475) [(.loc 2), (.loc 3)]) [.set 5 (.meth (.loc 0) (S "fits") [(.loc 4)]),
    .ifs (.bool .Or [(.cmp .NotEq (.loc 5) (.bool .And (.cmp .Eq (.call (.builtin "len") [(.loc 4)]) (.item (.loc 1) (.val (.int 1)))) (.cmp .Eq (.call (.ref 468) [(.loc 4)]) (.item (.loc 1) (.val (.int 2)))))), (.not (.ex (.call (.builtin "isinstance") [(.loc 5), (.val (.fn (.type "bool")))])))]) [.ret (.val (.bool false))] []],
  .ret (.val (.bool true))]
noncomputable def y_law_agrees : List Y := [
  .unp [3, 4] (.call (.ref 442) [(.loc 0)]),
  .set 5 (.call (.type "bytearray") [(.loc 0)]),
  .tries [.set 6 (.call (.ref 413) [(.loc 5)])] [(68, (.cmp .Eq (.loc 3) (.val (.int 1)))), (56, (.cmp .Eq (.loc 3) (.val (.int 2))))],
  .ifs (.bool .Or [(.cmp .Gt (.loc 3) (.val (.int 0))), (.cmp .NotEq (.call (.type "bytes") [(.loc 5)]) (.loc 0))]) [.ret (.val (.bool false))] [],
  .fors 7 (.call (.type "range") [(.call (.builtin "len") [(.loc 5)])]) [.seti (.loc 5) (.loc 7) (.bin .Sub (.val (.int 255)) (.item (.loc 5) (.loc 7)))],
  .ifs (.bool .Or [(.cmp .NotEq (.meth (.loc 6) (S "row") []) (.loc 4)), (.not (.ex (.call (.builtin "isinstance") [(.attr (.loc 6) (S "conf_octets")), (.val (.fn (.type "bytes")))])))]) [.ret (.val (.bool false))] [],
  .set 8 (.item (.call (.ref 461) [(.loc 4)]) (.val (.int 0))),
  .ifs (.bool .Or [(.cmp .NotEq (.meth (.loc 6) (S "encode") []) (.loc 8)), (.cmp .NotEq (.meth (.call (.ref 413) [(.loc 8)]) (S "row") []) (.loc 4))]) [.ret (.val (.bool false))] [],
  .fors 7 (.call (.type "range") [(.call (.builtin "len") [(.attr (.loc 6) (S "runs"))])]) [.set 9 (.item (.attr (.loc 6) (S "runs")) (.loc 7)),
    .ifs (.bool .Or [(.not (.ex (.call (.builtin "isinstance") [(.attr (.loc 9) (S "smallest")), (.val (.fn (.type "bytes")))]))), (.not (.ex (.call (.builtin "isinstance") [(.attr (.loc 9) (S "largest")), (.val (.fn (.type "bytes")))])))]) [.ret (.val (.bool false))] [],
    .ifs (.not (.ex (.call (.ref 482) [(.loc 9), (.item (.item (.loc 4) (.val (.int 4))) (.loc 7)), (.item (.loc 1) (.bin .Mod (.loc 7) (.val (.int 3)))), (.bin .Add (.loc 2) (.loc 7))]))) [.ret (.val (.bool false))] []],
  .ret (.val (.bool true))]
noncomputable def y_law_word : List Y := [
  .set 2 (.item (.tup [(.val (.int 0)), (.val (.int 1)), (.val (.int 8)), (.val (.int 2)), (.val (.int 9)), (.val (.int 0)), (.val (.int 1)), (.val (.int 130))]) (.bin .Mod (.loc 0) (.val (.int 8)))),
  .ret (.slice (.bin .Add (.call (.type "bytes") [(.list [(.bin .Mod (.loc 1) (.val (.int 256))), (.val (.int 255)), (.val (.int 0)), (.val (.int 128))])]) (.bin .Mult (.call (.type "bytes") [(.list [(.bin .Mod (.bin .FloorDiv (.loc 1) (.val (.int 3))) (.val (.int 256)))])]) (.val (.int 126)))) none (some (.loc 2)))]
noncomputable def y_law_body : List Y := [
  .ret (.slice (.call (.type "bytes") [(.list [(.bin .Mod (.loc 0) (.val (.int 251))), (.bin .Mod (.bin .FloorDiv (.loc 0) (.val (.int 7))) (.val (.int 256))), (.val (.int 255)), (.val (.int 0)), (.bin .Mod (.bin .FloorDiv (.loc 0) (.val (.int 31))) (.val (.int 200))), (.val (.int 9))])]) none (some (.item (.tup [(.val (.int 6)), (.val (.int 3)), (.val (.int 2)), (.val (.int 5)), (.val (.int 1)), (.val (.int 0))]) (.bin .Mod (.loc 0) (.val (.int 6))))))]
noncomputable def y_law_run : List Y := [
  .set 2 (.call (.builtin "len") [(.loc 1)]),
  .set 3 (.call (.ref 468) [(.loc 1)]),
  .ifs (.cmp .Eq (.bin .Mod (.loc 0) (.val (.int 7))) (.val (.int 6))) [.set 2 (.item (.val (.tuple [(.int 0), (.int 1), (.int 127), (.int 128), (.int 300), (.int 16384), (.int 4294967296), (.int 18446744073709551615)])) (.bin .Mod (.bin .FloorDiv (.loc 0) (.val (.int 7))) (.val (.int 8))))] [],
  .ifs (.cmp .Eq (.bin .Mod (.loc 0) (.val (.int 5))) (.val (.int 4))) [.set 3 (.bin .Mod (.bin .Mult (.loc 0) (.val (.int 4099))) (.bin .Pow (.val (.int 2)) (.val (.int 32))))] [],
  .set 4 (.bin .FloorDiv (.loc 0) (.val (.int 35))),
  .ret (.tup [(.item (.val (.tuple [(.int 0), (.int 1), (.int 5), (.int 11), (.int 2), (.int 7), (.int 10), (.int 0), (.int 1), (.int 2), (.int 12)])) (.bin .Mod (.loc 4) (.val (.int 11)))), (.loc 2), (.loc 3), (.call (.ref 496) [(.bin .FloorDiv (.loc 4) (.val (.int 11))), (.loc 4)]), (.call (.ref 496) [(.bin .FloorDiv (.loc 4) (.val (.int 88))), (.bin .FloorDiv (.loc 4) (.val (.int 5)))])])]
noncomputable def y_law_hurt : List Y := [
  .set 3 (.bin .Mod (.loc 2) (.val (.int 9))),
  .set 4 (.bin .FloorDiv (.loc 2) (.val (.int 18))),
  .ifs (.cmp .Eq (.bin .Mod (.bin .FloorDiv (.loc 2) (.val (.int 9))) (.val (.int 2))) (.val (.int 0))) [.set 5 (.call (.builtin "min") [(.item (.loc 1) (.bin .Mod (.loc 4) (.call (.builtin "len") [(.loc 1)]))), (.call (.builtin "len") [(.loc 0)])]),
    .set 6 (.bin .Mod (.bin .FloorDiv (.loc 4) (.call (.builtin "len") [(.loc 1)])) (.val (.int 256)))] [.set 5 (.bin .Mod (.loc 4) (.bin .Add (.call (.builtin "len") [(.loc 0)]) (.val (.int 1)))),
    .set 6 (.bin .Mod (.bin .FloorDiv (.loc 4) (.bin .Add (.call (.builtin "len") [(.loc 0)]) (.val (.int 1)))) (.val (.int 256)))],
  .set 7 (.slice (.loc 0) none (some (.loc 5))),
  .set 8 (.slice (.loc 0) (some (.loc 5)) none),
  .set 9 (.bin .Mult (.bin .FloorDiv (.loc 6) (.val (.int 128))) (.val (.int 128))),
  .ifs (.cmp .Eq (.loc 3) (.val (.int 0))) [.ret (.bin .Add (.bin .Add (.loc 7) (.call (.type "bytes") [(.list [(.loc 6)])])) (.slice (.loc 8) (some (.val (.int 1))) none))] [],
  .ifs (.cmp .Eq (.loc 3) (.val (.int 1))) [.ret (.bin .Add (.bin .Add (.loc 7) (.call (.type "bytes") [(.list [(.loc 6)])])) (.loc 8))] [],
  .ifs (.cmp .Eq (.loc 3) (.val (.int 2))) [.ret (.bin .Add (.loc 7) (.slice (.loc 8) (some (.val (.int 1))) none))] [],
  .ifs (.cmp .Eq (.loc 3) (.val (.int 3))) [.ret (.loc 7)] [],
  .ifs (.cmp .Eq (.loc 3) (.val (.int 4))) [.ret (.bin .Add (.bin .Add (.loc 7) (.call (.type "bytes") [(.list [(.bin .Mod (.loc 6) (.val (.int 32)))])])) (.slice (.loc 8) (some (.val (.int 1))) none))] [],
  .ifs (.cmp .Eq (.loc 3) (.val (.int 5))) [.whl (.bool .And [(.cmp .Lt (.loc 5) (.call (.builtin "len") [(.loc 0)])), (.cmp .GtE (.item (.loc 0) (.loc 5)) (.val (.int 128)))]) [.aug 5 .Add (.val (.int 1))],
    .ifs (.cmp .Eq (.loc 5) (.call (.builtin "len") [(.loc 0)])) [.ret (.loc 0)] [],
    .set 10 (.bin .Add (.bin .Add (.call (.type "bytes") [(.list [(.bin .Add (.item (.loc 0) (.loc 5)) (.val (.int 128)))])]) (.bin .Mult (.call (.type "bytes") [(.list [(.val (.int 128))])]) (.bin .Mod (.loc 6) (.val (.int 10))))) (.val (.bytes [0]))),
    .ret (.bin .Add (.bin .Add (.slice (.loc 0) none (some (.loc 5))) (.loc 10)) (.slice (.loc 0) (some (.bin .Add (.loc 5) (.val (.int 1)))) none))] [],
  .ifs (.cmp .Eq (.loc 3) (.val (.int 6))) [.ret (.bin .Add (.bin .Add (.bin .Add (.loc 7) (.bin .Mult (.call (.type "bytes") [(.list [(.val (.int 255))])]) (.val (.int 9)))) (.call (.type "bytes") [(.list [(.bin .Add (.bin .Mod (.loc 6) (.val (.int 4))) (.loc 9))])])) (.slice (.loc 8) (some (.val (.int 1))) none))] [],
  .ifs (.cmp .Eq (.loc 3) (.val (.int 7))) [.ret (.bin .Add (.bin .Add (.bin .Add (.loc 7) (.bin .Mult (.call (.type "bytes") [(.list [(.val (.int 255))])]) (.val (.int 4)))) (.call (.type "bytes") [(.list [(.bin .Add (.bin .Mod (.loc 6) (.val (.int 32))) (.loc 9))])])) (.slice (.loc 8) (some (.val (.int 1))) none))] [],
  .ifs (.cmp .Eq (.bin .Mod (.loc 6) (.val (.int 2))) (.val (.int 0))) [.ret (.bin .Add (.bin .Add (.bin .Add (.loc 7) (.bin .Mult (.call (.type "bytes") [(.list [(.val (.int 255))])]) (.val (.int 7)))) (.val (.bytes [127]))) (.slice (.loc 8) (some (.val (.int 1))) none))] [],
  .ret (.bin .Add (.bin .Add (.bin .Add (.loc 7) (.bin .Mult (.call (.type "bytes") [(.list [(.val (.int 128))])]) (.val (.int 8)))) (.val (.bytes [1]))) (.slice (.loc 8) (some (.val (.int 1))) none))]
noncomputable def y_law_draw : List Y := [
  .ret (.bin .Add (.item (.loc 0) (.bin .Mod (.loc 1) (.call (.builtin "len") [(.loc 0)]))) (.bin .Mult (.val (.int 7919)) (.loc 1)))]
noncomputable def y_law : List Y := [
  .set 2 (.comp (.bin .Mod (.loc 999) (.val (.int 2147483647))) 999 (.slice (.loc 0) none (some (.val (.int 40))))),
  .set 3 (.call (.type "bytes") [(.comp (.bin .Mod (.loc 999) (.val (.int 256))) 999 (.loc 2))]),
  .ifs (.cmp .Eq (.call (.builtin "len") [(.loc 2)]) (.val (.int 0))) [.newl 2 [(.val (.int 7031))]] [],
  .set 4 (.call (.ref 524) [(.loc 2), (.val (.int 0))]),
  .newl 5 [],
  .newl 6 [],
  .fors 7 (.call (.type "range") [(.val (.int 3))]) [.set 1 (.call (.ref 524) [(.loc 2), (.bin .Add (.val (.int 1)) (.loc 7))]),
    .expr (.meth (.loc 5) (S "append") [(.call (.ref 503) [(.loc 1)])]),
    .ifs (.cmp .Lt (.loc 7) (.bin .Mod (.loc 4) (.val (.int 4)))) [.expr (.meth (.loc 6) (S "append") [(.call (.ref 510) [(.bin .FloorDiv (.loc 1) (.val (.int 6))), (.item (.loc 5) (.loc 7))])])] []],
  .set 8 (.bin .FloorDiv (.loc 4) (.val (.int 4))),
  .set 9 (.tup [(.item (.val (.tuple [(.int 0), (.int 1), (.int 127), (.int 128), (.int 300), (.int 16384), (.int 4294967296), (.int 18446744073709551615)])) (.bin .Mod (.loc 8) (.val (.int 8)))), (.item (.val (.tuple [(.int 0), (.int 1), (.int 127), (.int 128), (.int 300), (.int 16384), (.int 4294967296), (.int 18446744073709551615)])) (.bin .Mod (.bin .FloorDiv (.loc 8) (.val (.int 8))) (.val (.int 8)))), (.call (.ref 496) [(.bin .FloorDiv (.loc 8) (.val (.int 64))), (.loc 8)]), (.item (.val (.tuple [(.int 0), (.int 1), (.int 255), (.int 72057594037927935), (.int 72057594037927936), (.int 128), (.int 65536), (.int 4294967296)])) (.bin .Mod (.bin .FloorDiv (.loc 8) (.val (.int 512))) (.val (.int 8)))), (.call (.type "tuple") [(.loc 6)])]),
  .unp [10, 11] (.call (.ref 461) [(.loc 9)]),
  .set 12 (.call (.ref 517) [(.loc 10), (.loc 11), (.call (.ref 524) [(.loc 2), (.val (.int 4))])]),
  .set 13 (.call (.ref 517) [(.loc 12), (.loc 11), (.call (.ref 524) [(.loc 2), (.val (.int 5))])]),
  .set 14 (.call (.ref 517) [(.loc 10), (.loc 11), (.call (.ref 524) [(.loc 2), (.val (.int 6))])]),
  .fors 15 (.tup [(.loc 3), (.loc 10), (.loc 12), (.loc 13), (.loc 14)]) [.ifs (.not (.ex (.call (.ref 489) [(.loc 15), (.loc 5), (.loc 4)]))) [.ret (.val (.bool false))] []],
  .ret (.val (.bool true))]
noncomputable def KF : Nat := 100000
noncomputable def ctR (φ : Tab) (m : Nat) (ys : List Y) (du : List V) : Ct := fun us H => if us.length + du.length = m then runU φ KF ys (us ++ du) H else .none
open Classical in
noncomputable def cutR (H : List O) : Option Res → Option Res
  | some (.ok v H₁) => if ∃ ext, H₁ = H ++ ext then some (.ok v H) else .none
  | some (.exc k H₁) => if ∃ ext, H₁ = H ++ ext then some (.exc k H) else .none
  | .none => .none
noncomputable def ctC (φ : Tab) (m : Nat) (ys : List Y) : Ct := fun us H => if us.length = m then cutR H (runU φ KF ys us H) else .none
section
variable {w : World} {B : Heap} {φ : Tab} {n : Nat} {f : Addr} {ps : List Str} {sc : Scope} {body : List Stmt} {ys : List Y} {dv : List Value} {du : List V}
theorem callRun (m : Nat) (D : DefOk B f ps sc body dv du) (hm : ps.length = m) (BO : BaseOk w B) (hc : cF sc body = some ys) (T : TabOk w B n φ) : CallOk w B (n + 1) f (ctR φ m ys du) :=
  def_call D BO T hc fun us H out h => by
    unfold ctR at h
    split at h
    · rename_i hl
      refine ⟨hl.trans hm.symm, KF, out, h, ?_⟩
      induction out using Res.casesOn <;> exact ⟨rfl, .inl rfl⟩
    · exact nn h
theorem callCut (m : Nat) (D : DefOk B f ps sc body [] []) (hm : ps.length = m) (BO : BaseOk w B) (hc : cF sc body = some ys) (T : TabOk w B n φ) : CallOk w B (n + 1) f (ctC φ m ys) :=
  def_call D BO T hc fun us H out h => by
    unfold ctC at h
    split at h
    · rename_i hl
      refine ⟨by rw [hl, hm]; rfl, KF, ?_⟩
      rw [List.append_nil]
      cases q : runU φ KF ys us H with
      | none => rw [q] at h; exact nn h
      | some o =>
        rw [q] at h
        refine ⟨o, rfl, ?_⟩
        induction o using Res.casesOn with
        | ok v H₁ =>
          simp only [cutR] at h
          split at h
          · rename_i hx
            obtain rfl := Option.some.inj h
            exact ⟨rfl, .inr ⟨hx, rfl, fun i o e => .inl e⟩⟩
          · exact nn h
        | exc k H₁ =>
          simp only [cutR] at h
          split at h
          · rename_i hx
            obtain rfl := Option.some.inj h
            exact ⟨rfl, .inr ⟨hx, rfl, fun i o e => .inl e⟩⟩
          · exact nn h
    · exact nn h
end
noncomputable def p0 : Tab := []
noncomputable def c_write_groups : Ct := ctC p0 2 y_write_groups
noncomputable def p1 : Tab := (89, c_write_groups) :: p0
noncomputable def c_put_varint : Ct := ctR p1 1 y_put_varint []
noncomputable def p2 : Tab := (103, c_put_varint) :: p1
noncomputable def c_put_varint32 : Ct := ctR p2 1 y_put_varint32 []
noncomputable def p3 : Tab := (117, c_put_varint32) :: p2
noncomputable def c_put_fixed32 : Ct := ctR p3 1 y_put_fixed32 []
noncomputable def p4 : Tab := (131, c_put_fixed32) :: p3
noncomputable def c_read_groups : Ct := ctR p4 4 y_read_groups []
noncomputable def p5 : Tab := (96, c_read_groups) :: p4
noncomputable def c_read_varint : Ct := ctR p5 2 y_read_varint []
noncomputable def p6 : Tab := (110, c_read_varint) :: p5
noncomputable def c_read_varint32 : Ct := ctR p6 2 y_read_varint32 []
noncomputable def p7 : Tab := (124, c_read_varint32) :: p6
noncomputable def c_read_fixed32 : Ct := ctR p7 2 y_read_fixed32 []
noncomputable def p8 : Tab := (138, c_read_fixed32) :: p7
noncomputable def c_read_lengthed : Ct := ctR p8 2 y_read_lengthed []
noncomputable def p9 : Tab := (145, c_read_lengthed) :: p8
noncomputable def c_checksum : Ct := ctR p9 2 y_checksum []
noncomputable def p10 : Tab := (174, c_checksum) :: p9
noncomputable def c_Cursor_init : Ct := ctR p10 3 y_Cursor_init [.int 0]
noncomputable def p11 : Tab := (189, c_Cursor_init) :: p10
noncomputable def c_Cursor_left : Ct := ctR p11 1 y_Cursor_left []
noncomputable def p12 : Tab := (196, c_Cursor_left) :: p11
noncomputable def c_Cursor_varint : Ct := ctR p12 1 y_Cursor_varint []
noncomputable def p13 : Tab := (203, c_Cursor_varint) :: p12
noncomputable def c_Cursor_fixed32 : Ct := ctR p13 1 y_Cursor_fixed32 []
noncomputable def p14 : Tab := (210, c_Cursor_fixed32) :: p13
noncomputable def c_Cursor_lengthed : Ct := ctR p14 1 y_Cursor_lengthed []
noncomputable def p15 : Tab := (224, c_Cursor_lengthed) :: p14
noncomputable def c_Cursor_done : Ct := ctR p15 1 y_Cursor_done []
noncomputable def p16 : Tab := (252, c_Cursor_done) :: p15
noncomputable def c_Sink_init : Ct := ctR p16 1 y_Sink_init []
noncomputable def p17 : Tab := (273, c_Sink_init) :: p16
noncomputable def c_Sink_varint : Ct := ctR p17 2 y_Sink_varint []
noncomputable def p18 : Tab := (280, c_Sink_varint) :: p17
noncomputable def c_Sink_fixed32 : Ct := ctR p18 2 y_Sink_fixed32 []
noncomputable def p19 : Tab := (287, c_Sink_fixed32) :: p18
noncomputable def c_Sink_lengthed : Ct := ctR p19 2 y_Sink_lengthed []
noncomputable def p20 : Tab := (301, c_Sink_lengthed) :: p19
noncomputable def c_Sink_done : Ct := ctR p20 1 y_Sink_done []
noncomputable def p21 : Tab := (329, c_Sink_done) :: p20
noncomputable def c_RunInfo_init : Ct := ctR p21 6 y_RunInfo_init []
noncomputable def p22 : Tab := (350, c_RunInfo_init) :: p21
noncomputable def c_RunInfo_row : Ct := ctR p22 1 y_RunInfo_row []
noncomputable def p23 : Tab := (357, c_RunInfo_row) :: p22
noncomputable def c_RunInfo_fits : Ct := ctR p23 2 y_RunInfo_fits []
noncomputable def p24 : Tab := (364, c_RunInfo_fits) :: p23
noncomputable def c_Manifesto_init : Ct := ctR p24 6 y_Manifesto_init []
noncomputable def p25 : Tab := (385, c_Manifesto_init) :: p24
noncomputable def c_Manifesto_row : Ct := ctC p25 1 y_Manifesto_row
noncomputable def p26 : Tab := (392, c_Manifesto_row) :: p25
noncomputable def c_Manifesto_encode : Ct := ctC p26 1 y_Manifesto_encode
noncomputable def p27 : Tab := (399, c_Manifesto_encode) :: p26
noncomputable def c_decode_manifesto : Ct := ctC p27 1 y_decode_manifesto
noncomputable def p28 : Tab := (413, c_decode_manifesto) :: p27
noncomputable def c_law_number : Ct := ctR p28 4 y_law_number []
noncomputable def p29 : Tab := (423, c_law_number) :: p28
noncomputable def c_law_field : Ct := ctR p29 3 y_law_field []
noncomputable def p30 : Tab := (428, c_law_field) :: p29
noncomputable def c_law_fields : Ct := ctC p30 3 y_law_fields
noncomputable def p31 : Tab := (435, c_law_fields) :: p30
noncomputable def c_law_read : Ct := ctC p31 1 y_law_read
noncomputable def p32 : Tab := (442, c_law_read) :: p31
noncomputable def c_law_varint : Ct := ctR p32 1 y_law_varint []
noncomputable def p33 : Tab := (449, c_law_varint) :: p32
noncomputable def c_law_part : Ct := ctR p33 2 y_law_part []
noncomputable def p34 : Tab := (454, c_law_part) :: p33
noncomputable def c_law_write : Ct := ctC p34 1 y_law_write
noncomputable def p35 : Tab := (461, c_law_write) :: p34
noncomputable def c_law_sum : Ct := ctR p35 1 y_law_sum []
noncomputable def p36 : Tab := (468, c_law_sum) :: p35
noncomputable def c_law_kin : Ct := ctC p36 2 y_law_kin
noncomputable def p37 : Tab := (475, c_law_kin) :: p36
noncomputable def c_law_fits : Ct := ctR p37 4 y_law_fits []
noncomputable def p38 : Tab := (482, c_law_fits) :: p37
noncomputable def c_law_agrees : Ct := ctC p38 3 y_law_agrees
noncomputable def p39 : Tab := (489, c_law_agrees) :: p38
noncomputable def c_law_word : Ct := ctR p39 2 y_law_word []
noncomputable def p40 : Tab := (496, c_law_word) :: p39
noncomputable def c_law_body : Ct := ctR p40 1 y_law_body []
noncomputable def p41 : Tab := (503, c_law_body) :: p40
noncomputable def c_law_run : Ct := ctR p41 2 y_law_run []
noncomputable def p42 : Tab := (510, c_law_run) :: p41
noncomputable def c_law_hurt : Ct := ctR p42 3 y_law_hurt []
noncomputable def p43 : Tab := (517, c_law_hurt) :: p42
noncomputable def c_law_draw : Ct := ctR p43 2 y_law_draw []
noncomputable def p44 : Tab := (524, c_law_draw) :: p43
theorem cf_write_groups : cF (sScope (stD 14)) (sBody (stD 14)) = some y_write_groups := by kernel_rfl
theorem cf_put_varint : cF (sScope (stD 16)) (sBody (stD 16)) = some y_put_varint := by kernel_rfl
theorem cf_put_varint32 : cF (sScope (stD 18)) (sBody (stD 18)) = some y_put_varint32 := by kernel_rfl
theorem cf_put_fixed32 : cF (sScope (stD 20)) (sBody (stD 20)) = some y_put_fixed32 := by kernel_rfl
theorem cf_read_groups : cF (sScope (stD 15)) (sBody (stD 15)) = some y_read_groups := by kernel_rfl
theorem cf_read_varint : cF (sScope (stD 17)) (sBody (stD 17)) = some y_read_varint := by kernel_rfl
theorem cf_read_varint32 : cF (sScope (stD 19)) (sBody (stD 19)) = some y_read_varint32 := by kernel_rfl
theorem cf_read_fixed32 : cF (sScope (stD 21)) (sBody (stD 21)) = some y_read_fixed32 := by kernel_rfl
theorem cf_read_lengthed : cF (sScope (stD 22)) (sBody (stD 22)) = some y_read_lengthed := by kernel_rfl
theorem cf_checksum : cF (sScope (stD 26)) (sBody (stD 26)) = some y_checksum := by kernel_rfl
theorem cf_Cursor_init : cF (sScope (stM 27 0)) (sBody (stM 27 0)) = some y_Cursor_init := by kernel_rfl
theorem cf_Cursor_left : cF (sScope (stM 27 1)) (sBody (stM 27 1)) = some y_Cursor_left := by kernel_rfl
theorem cf_Cursor_varint : cF (sScope (stM 27 2)) (sBody (stM 27 2)) = some y_Cursor_varint := by kernel_rfl
theorem cf_Cursor_fixed32 : cF (sScope (stM 27 3)) (sBody (stM 27 3)) = some y_Cursor_fixed32 := by kernel_rfl
theorem cf_Cursor_lengthed : cF (sScope (stM 27 5)) (sBody (stM 27 5)) = some y_Cursor_lengthed := by kernel_rfl
theorem cf_Cursor_done : cF (sScope (stM 27 9)) (sBody (stM 27 9)) = some y_Cursor_done := by kernel_rfl
theorem cf_Sink_init : cF (sScope (stM 28 0)) (sBody (stM 28 0)) = some y_Sink_init := by kernel_rfl
theorem cf_Sink_varint : cF (sScope (stM 28 1)) (sBody (stM 28 1)) = some y_Sink_varint := by kernel_rfl
theorem cf_Sink_fixed32 : cF (sScope (stM 28 2)) (sBody (stM 28 2)) = some y_Sink_fixed32 := by kernel_rfl
theorem cf_Sink_lengthed : cF (sScope (stM 28 4)) (sBody (stM 28 4)) = some y_Sink_lengthed := by kernel_rfl
theorem cf_Sink_done : cF (sScope (stM 28 8)) (sBody (stM 28 8)) = some y_Sink_done := by kernel_rfl
theorem cf_RunInfo_init : cF (sScope (stM 32 0)) (sBody (stM 32 0)) = some y_RunInfo_init := by kernel_rfl
theorem cf_RunInfo_row : cF (sScope (stM 32 1)) (sBody (stM 32 1)) = some y_RunInfo_row := by kernel_rfl
theorem cf_RunInfo_fits : cF (sScope (stM 32 2)) (sBody (stM 32 2)) = some y_RunInfo_fits := by kernel_rfl
theorem cf_Manifesto_init : cF (sScope (stM 33 0)) (sBody (stM 33 0)) = some y_Manifesto_init := by kernel_rfl
theorem cf_Manifesto_row : cF (sScope (stM 33 1)) (sBody (stM 33 1)) = some y_Manifesto_row := by kernel_rfl
theorem cf_Manifesto_encode : cF (sScope (stM 33 2)) (sBody (stM 33 2)) = some y_Manifesto_encode := by kernel_rfl
theorem cf_decode_manifesto : cF (sScope (stD 34)) (sBody (stD 34)) = some y_decode_manifesto := by kernel_rfl
theorem cf_law_number : cF (sScope (stD 41)) (sBody (stD 41)) = some y_law_number := by kernel_rfl
theorem cf_law_field : cF (sScope (stD 42)) (sBody (stD 42)) = some y_law_field := by kernel_rfl
theorem cf_law_fields : cF (sScope (stD 43)) (sBody (stD 43)) = some y_law_fields := by kernel_rfl
theorem cf_law_read : cF (sScope (stD 44)) (sBody (stD 44)) = some y_law_read := by kernel_rfl
theorem cf_law_varint : cF (sScope (stD 45)) (sBody (stD 45)) = some y_law_varint := by kernel_rfl
theorem cf_law_part : cF (sScope (stD 46)) (sBody (stD 46)) = some y_law_part := by kernel_rfl
theorem cf_law_write : cF (sScope (stD 47)) (sBody (stD 47)) = some y_law_write := by kernel_rfl
theorem cf_law_sum : cF (sScope (stD 48)) (sBody (stD 48)) = some y_law_sum := by kernel_rfl
theorem cf_law_kin : cF (sScope (stD 49)) (sBody (stD 49)) = some y_law_kin := by kernel_rfl
theorem cf_law_fits : cF (sScope (stD 50)) (sBody (stD 50)) = some y_law_fits := by kernel_rfl
theorem cf_law_agrees : cF (sScope (stD 51)) (sBody (stD 51)) = some y_law_agrees := by kernel_rfl
theorem cf_law_word : cF (sScope (stD 52)) (sBody (stD 52)) = some y_law_word := by kernel_rfl
theorem cf_law_body : cF (sScope (stD 53)) (sBody (stD 53)) = some y_law_body := by kernel_rfl
theorem cf_law_run : cF (sScope (stD 54)) (sBody (stD 54)) = some y_law_run := by kernel_rfl
theorem cf_law_hurt : cF (sScope (stD 55)) (sBody (stD 55)) = some y_law_hurt := by kernel_rfl
theorem cf_law_draw : cF (sScope (stD 56)) (sBody (stD 56)) = some y_law_draw := by kernel_rfl
theorem cf_law : cF (sScope (stD 57)) (sBody (stD 57)) = some y_law := by kernel_rfl
section
variable {w : World} {B : Heap}
theorem t0 (BO : BaseOk w B) : TabOk w B 1 p0 := TabOk.nil BO
theorem t1 (BO : BaseOk w B) : TabOk w B 3 p1 := TabOk.cons BO (t0 BO) (callCut 2 (d_write_groups BO.K) rfl BO cf_write_groups (t0 BO))
theorem t2 (BO : BaseOk w B) : TabOk w B 5 p2 := TabOk.cons BO (t1 BO) (callRun 1 (d_put_varint BO.K) rfl BO cf_put_varint (t1 BO))
theorem t3 (BO : BaseOk w B) : TabOk w B 7 p3 := TabOk.cons BO (t2 BO) (callRun 1 (d_put_varint32 BO.K) rfl BO cf_put_varint32 (t2 BO))
theorem t4 (BO : BaseOk w B) : TabOk w B 9 p4 := TabOk.cons BO (t3 BO) (callRun 1 (d_put_fixed32 BO.K) rfl BO cf_put_fixed32 (t3 BO))
theorem t5 (BO : BaseOk w B) : TabOk w B 11 p5 := TabOk.cons BO (t4 BO) (callRun 4 (d_read_groups BO.K) rfl BO cf_read_groups (t4 BO))
theorem t6 (BO : BaseOk w B) : TabOk w B 13 p6 := TabOk.cons BO (t5 BO) (callRun 2 (d_read_varint BO.K) rfl BO cf_read_varint (t5 BO))
theorem t7 (BO : BaseOk w B) : TabOk w B 15 p7 := TabOk.cons BO (t6 BO) (callRun 2 (d_read_varint32 BO.K) rfl BO cf_read_varint32 (t6 BO))
theorem t8 (BO : BaseOk w B) : TabOk w B 17 p8 := TabOk.cons BO (t7 BO) (callRun 2 (d_read_fixed32 BO.K) rfl BO cf_read_fixed32 (t7 BO))
theorem t9 (BO : BaseOk w B) : TabOk w B 19 p9 := TabOk.cons BO (t8 BO) (callRun 2 (d_read_lengthed BO.K) rfl BO cf_read_lengthed (t8 BO))
theorem t10 (BO : BaseOk w B) : TabOk w B 21 p10 := TabOk.cons BO (t9 BO) (callRun 2 (d_checksum BO.K) rfl BO cf_checksum (t9 BO))
theorem t11 (BO : BaseOk w B) : TabOk w B 23 p11 := TabOk.cons BO (t10 BO) (callRun 3 (d_Cursor_init BO.K) rfl BO cf_Cursor_init (t10 BO))
theorem t12 (BO : BaseOk w B) : TabOk w B 25 p12 := TabOk.cons BO (t11 BO) (callRun 1 (d_Cursor_left BO.K) rfl BO cf_Cursor_left (t11 BO))
theorem t13 (BO : BaseOk w B) : TabOk w B 27 p13 := TabOk.cons BO (t12 BO) (callRun 1 (d_Cursor_varint BO.K) rfl BO cf_Cursor_varint (t12 BO))
theorem t14 (BO : BaseOk w B) : TabOk w B 29 p14 := TabOk.cons BO (t13 BO) (callRun 1 (d_Cursor_fixed32 BO.K) rfl BO cf_Cursor_fixed32 (t13 BO))
theorem t15 (BO : BaseOk w B) : TabOk w B 31 p15 := TabOk.cons BO (t14 BO) (callRun 1 (d_Cursor_lengthed BO.K) rfl BO cf_Cursor_lengthed (t14 BO))
theorem t16 (BO : BaseOk w B) : TabOk w B 33 p16 := TabOk.cons BO (t15 BO) (callRun 1 (d_Cursor_done BO.K) rfl BO cf_Cursor_done (t15 BO))
theorem t17 (BO : BaseOk w B) : TabOk w B 35 p17 := TabOk.cons BO (t16 BO) (callRun 1 (d_Sink_init BO.K) rfl BO cf_Sink_init (t16 BO))
theorem t18 (BO : BaseOk w B) : TabOk w B 37 p18 := TabOk.cons BO (t17 BO) (callRun 2 (d_Sink_varint BO.K) rfl BO cf_Sink_varint (t17 BO))
theorem t19 (BO : BaseOk w B) : TabOk w B 39 p19 := TabOk.cons BO (t18 BO) (callRun 2 (d_Sink_fixed32 BO.K) rfl BO cf_Sink_fixed32 (t18 BO))
theorem t20 (BO : BaseOk w B) : TabOk w B 41 p20 := TabOk.cons BO (t19 BO) (callRun 2 (d_Sink_lengthed BO.K) rfl BO cf_Sink_lengthed (t19 BO))
theorem t21 (BO : BaseOk w B) : TabOk w B 43 p21 := TabOk.cons BO (t20 BO) (callRun 1 (d_Sink_done BO.K) rfl BO cf_Sink_done (t20 BO))
theorem t22 (BO : BaseOk w B) : TabOk w B 45 p22 := TabOk.cons BO (t21 BO) (callRun 6 (d_RunInfo_init BO.K) rfl BO cf_RunInfo_init (t21 BO))
theorem t23 (BO : BaseOk w B) : TabOk w B 47 p23 := TabOk.cons BO (t22 BO) (callRun 1 (d_RunInfo_row BO.K) rfl BO cf_RunInfo_row (t22 BO))
theorem t24 (BO : BaseOk w B) : TabOk w B 49 p24 := TabOk.cons BO (t23 BO) (callRun 2 (d_RunInfo_fits BO.K) rfl BO cf_RunInfo_fits (t23 BO))
theorem t25 (BO : BaseOk w B) : TabOk w B 51 p25 := TabOk.cons BO (t24 BO) (callRun 6 (d_Manifesto_init BO.K) rfl BO cf_Manifesto_init (t24 BO))
theorem t26 (BO : BaseOk w B) : TabOk w B 53 p26 := TabOk.cons BO (t25 BO) (callCut 1 (d_Manifesto_row BO.K) rfl BO cf_Manifesto_row (t25 BO))
theorem t27 (BO : BaseOk w B) : TabOk w B 55 p27 := TabOk.cons BO (t26 BO) (callCut 1 (d_Manifesto_encode BO.K) rfl BO cf_Manifesto_encode (t26 BO))
theorem t28 (BO : BaseOk w B) : TabOk w B 57 p28 := TabOk.cons BO (t27 BO) (callCut 1 (d_decode_manifesto BO.K) rfl BO cf_decode_manifesto (t27 BO))
theorem t29 (BO : BaseOk w B) : TabOk w B 59 p29 := TabOk.cons BO (t28 BO) (callRun 4 (d__law_number BO.K) rfl BO cf_law_number (t28 BO))
theorem t30 (BO : BaseOk w B) : TabOk w B 61 p30 := TabOk.cons BO (t29 BO) (callRun 3 (d__law_field BO.K) rfl BO cf_law_field (t29 BO))
theorem t31 (BO : BaseOk w B) : TabOk w B 63 p31 := TabOk.cons BO (t30 BO) (callCut 3 (d__law_fields BO.K) rfl BO cf_law_fields (t30 BO))
theorem t32 (BO : BaseOk w B) : TabOk w B 65 p32 := TabOk.cons BO (t31 BO) (callCut 1 (d__law_read BO.K) rfl BO cf_law_read (t31 BO))
theorem t33 (BO : BaseOk w B) : TabOk w B 67 p33 := TabOk.cons BO (t32 BO) (callRun 1 (d__law_varint BO.K) rfl BO cf_law_varint (t32 BO))
theorem t34 (BO : BaseOk w B) : TabOk w B 69 p34 := TabOk.cons BO (t33 BO) (callRun 2 (d__law_part BO.K) rfl BO cf_law_part (t33 BO))
theorem t35 (BO : BaseOk w B) : TabOk w B 71 p35 := TabOk.cons BO (t34 BO) (callCut 1 (d__law_write BO.K) rfl BO cf_law_write (t34 BO))
theorem t36 (BO : BaseOk w B) : TabOk w B 73 p36 := TabOk.cons BO (t35 BO) (callRun 1 (d__law_sum BO.K) rfl BO cf_law_sum (t35 BO))
theorem t37 (BO : BaseOk w B) : TabOk w B 75 p37 := TabOk.cons BO (t36 BO) (callCut 2 (d__law_kin BO.K) rfl BO cf_law_kin (t36 BO))
theorem t38 (BO : BaseOk w B) : TabOk w B 77 p38 := TabOk.cons BO (t37 BO) (callRun 4 (d__law_fits BO.K) rfl BO cf_law_fits (t37 BO))
theorem t39 (BO : BaseOk w B) : TabOk w B 79 p39 := TabOk.cons BO (t38 BO) (callCut 3 (d__law_agrees BO.K) rfl BO cf_law_agrees (t38 BO))
theorem t40 (BO : BaseOk w B) : TabOk w B 81 p40 := TabOk.cons BO (t39 BO) (callRun 2 (d__law_word BO.K) rfl BO cf_law_word (t39 BO))
theorem t41 (BO : BaseOk w B) : TabOk w B 83 p41 := TabOk.cons BO (t40 BO) (callRun 1 (d__law_body BO.K) rfl BO cf_law_body (t40 BO))
theorem t42 (BO : BaseOk w B) : TabOk w B 85 p42 := TabOk.cons BO (t41 BO) (callRun 2 (d__law_run BO.K) rfl BO cf_law_run (t41 BO))
theorem t43 (BO : BaseOk w B) : TabOk w B 87 p43 := TabOk.cons BO (t42 BO) (callRun 3 (d__law_hurt BO.K) rfl BO cf_law_hurt (t42 BO))
theorem t44 (BO : BaseOk w B) : TabOk w B 89 p44 := TabOk.cons BO (t43 BO) (callRun 2 (d__law_draw BO.K) rfl BO cf_law_draw (t43 BO))
end
end Rk
end

section
open PySem PySem.W PySem.Calls PyProof.Rows PySem.Builtin
set_option maxRecDepth 100000
set_option maxHeartbeats 0
namespace Rk
noncomputable abbrev theRow : RowW := PySem.Challenge.rw_xw0265_01.row.toRowW
theorem ints_of {R : WRecords} : ∀ {xs : List WData}, WShape.hasItems R xs .int = true → ∃ is : List Int, xs = is.map .int
  | [], _ => ⟨[], rfl⟩
  | x :: xs, h => by
    have h' : WShape.has R x .int = true ∧ WShape.hasItems R xs .int = true := by simpa [WShape.hasItems] using h
    obtain ⟨i, rfl⟩ := hasW_int h'.1
    obtain ⟨is, rfl⟩ := ints_of h'.2
    exact ⟨i :: is, rfl⟩
noncomputable def RaInv (R : WRecords) (cl : Str → Option Addr) (h : Heap) (vs : List Value) : List WData → Prop
  | [] => vs = []
  | d :: ds => ∃ v r a b, vs = v :: r ∧ ReadsW R cl h v d a ∧ ReadsAllW R cl h r ds b
theorem ra_inv {R : WRecords} {cl : Str → Option Addr} {h : Heap} {vs : List Value} {ds : List WData} {as : List Addr} (x : ReadsAllW R cl h vs ds as) : RaInv R cl h vs ds := by
  induction x using ReadsAllW.casesOn with
  | nil => exact rfl
  | cons a b => exact ⟨_, _, _, _, rfl, a, b⟩
theorem ra_nil {R : WRecords} {cl : Str → Option Addr} {h : Heap} {vs : List Value} {as : List Addr} (x : ReadsAllW R cl h vs [] as) : vs = [] := ra_inv x
theorem ra_cons {R : WRecords} {cl : Str → Option Addr} {h : Heap} {vs : List Value} {d : WData} {ds : List WData} {as : List Addr} (x : ReadsAllW R cl h vs (d :: ds) as) : ∃ v r a b, vs = v :: r ∧ ReadsW R cl h v d a ∧ ReadsAllW R cl h r ds b := ra_inv x
theorem rep_ints {R : WRecords} {cl : Str → Option Addr} {h : Heap} {g : G} : ∀ {vs : List Value} {is : List Int} {as : List Addr}, ReadsAllW R cl h vs (is.map .int) as → RepL g vs (is.map .int)
  | _, [], _, x => by obtain rfl := ra_nil x; exact .nil
  | _, i :: is, _, x => by
    obtain ⟨v, r, a, b, rfl, h1, h2⟩ := ra_cons x
    obtain ⟨t, rfl, _⟩ := readsW_int_inv h1
    exact .cons (.int _ _) (rep_ints h2)
theorem pre_ints {args : List WData} (h : theRow.claim.pre args = true) : ∃ is : List Int, args = [.list (is.map .int)] ∧ is.length ≤ 63 := by
  obtain ⟨h1, h2⟩ := pre_splitW h
  obtain ⟨d, r, rfl, hd, hr⟩ := hasAllW_cons (e := .list .int) (es := []) h1
  have := hasAllW_nil hr
  subst this
  obtain ⟨xs, rfl, hx⟩ := hasW_list hd
  obtain ⟨is, rfl⟩ := ints_of hx
  refine ⟨is, rfl, ?_⟩
  by_cases hl : is.length ≤ 63
  · exact hl
  · exfalso
    have e : theRow.pre = .and (.not (.lt (.lit (.int 63)) (.len (.arg 0)))) (.lit (.bool true)) := rfl
    rw [e] at h2
    have h3 : (63 : Int) < (is.length : Int) := by omega
    simp [WTm.holds, WTm.value, less?, Num.less?, h3] at h2
theorem walk_law (plain : ∀ is : List Int, is.length ≤ 63 → ∃ k H', runU p44 k y_law [.list (is.map .int)] [] = some (.ok (.bool true) H')) : WalkC kView kLoose (XL kView []) kHk.says theRow kDef [] := by
  intro w s₀ s₁ mg mb G Y a o pm cd doc dV kV ho hod hcd hdf hmg hgens args vals as hpre hlay hrd hwell hsys
  obtain ⟨is, rfl, hlen⟩ := pre_ints hpre
  have X : (kObjs w.params).In s₁.heap := kIn_of Y
  have BO := baseOk_of X (topRead_of G.T)
  obtain ⟨k, H', hr⟩ := plain is hlen
  obtain ⟨v1, r1, a1, b1, rfl, hv, hrest⟩ := ra_cons hrd
  obtain rfl := ra_nil hrest
  obtain ⟨ad, vs, aa, rfl, ⟨oa, ha, hc, n, hdt⟩, hall, rfl⟩ := readsW_list_inv hv
  have ha' : a = 529 := by
    have e1 : mg (Str.ofString "law") = some (.ref 529) := mg_of X G.T.g (by kernel_rfl)
    have e2 : kDef.name = Str.ofString "law" := by kernel_rfl
    rw [e2, e1] at hmg
    cases hmg; rfl
  subst ha'
  have D := d_law X
  refine def_top (us := [.list (is.map .int)]) D BO (t44 BO) cf_law rfl rfl (by show 301 + 1 + 5 * 89 < 1000; decide) (by show 4 + 3 + 50 * 89 + 100 < 9900; decide) rfl (fun g hg => ?_) rfl hr fun h' tk cv g kp rv => ?_
  · exact .cons (.list (o := oa) (n := n) (items := vs.toList) (hg _ _ ha) hc (by rw [hdt]) (rep_ints hall)) .nil
  · obtain rfl := rv.bool_inv
    refine GoodW.toG ⟨.inl ⟨_, .bool true, [], rfl, fun cls => rfl, .bool true, (by wrow_post), fun _ => ⟨List.nodup_nil, fun a h => nomatch h⟩⟩, kp, rfl, hgens⟩
theorem law_holds (plain : ∀ is : List Int, is.length ≤ 63 → ∃ k H', runU p44 k y_law [.list (is.map .int)] [] = some (.ok (.bool true) H')) : PySem.Challenge.rw_xw0265_01.Holds := ktop (walk_law plain)
end Rk
end

section
open PySem PySem.W PySem.Calls PyProof.Rows PySem.Builtin
set_option maxRecDepth 100000
set_option maxHeartbeats 1000000
namespace Rk
noncomputable def rn {β : Type} (m : AM β) (st : St) (P : β → St → Prop) (E : Addr → List O → Prop) : Prop := match m st with
  | some (.ok b s) => P b s
  | some (.exc k s) => E k s.H
  | .none => False
section
variable {α β : Type} {P : β → St → Prop} {E : Addr → List O → Prop} {st : St} {φ : Tab} {k : Nat}
theorem rn_bind {m : AM α} {f : α → AM β} : rn (AM.bind m f) st P E = rn m st (fun a s => rn (f a) s P E) E := by
  unfold rn AM.bind
  cases m st with
  | none => rfl
  | some o => induction o using Out.casesOn <;> rfl
theorem rn_pure {b : β} : rn (AM.pure b) st P E = P b st := rfl
theorem rn_look {f : List O → Option β} : rn (AM.look f) st P E = ∃ b, f st.H = some b ∧ P b st := by
  unfold rn AM.look
  cases f st.H with
  | none => simp
  | some b => simp
theorem rn_setl {i : Nat} {v : V} {P : Unit → St → Prop} : rn (AM.setl i v) st P E = P () ⟨fun j => if j = i then some v else st.σ j, st.H⟩ := rfl
theorem rn_alloc {o : O} {P : Nat → St → Prop} : rn (AM.alloc o) st P E = P st.H.length ⟨st.σ, st.H ++ [o]⟩ := rfl
theorem rn_fail : rn (fun _ => .none) st P E = False := rfl
theorem rn_mono {m : AM β} {P' : β → St → Prop} {E' : Addr → List O → Prop} (h : rn m st P E) (h1 : ∀ b s, P b s → P' b s) (h2 : ∀ k H, E k H → E' k H) : rn m st P' E' := by
  unfold rn at h ⊢
  cases q : m st with
  | none => rw [q] at h; exact h
  | some o =>
    rw [q] at h
    induction o using Out.casesOn with
    | ok b s => exact h1 b s h
    | exc k s => exact h2 k _ h
variable {PV : V → St → Prop}
variable {PB : Bool → St → Prop}
variable {PO : Option V → St → Prop}
theorem ry_nil : rn (evYs φ k []) st PO E = PO .none st := by simp -iota only [evYs_e0, rn_pure]
theorem ry_cons {y : Y} {ys : List Y} : rn (evYs φ k (y :: ys)) st PO E = rn (evY φ k y) st (fun f s => match f with | .none => rn (evYs φ k ys) s PO E | some v => PO (some v) s) E := by
  simp -iota only [evYs_e1, rn_bind]
  congr; funext f s; induction f using Option.casesOn <;> rfl
theorem ry_expr {e : X} : rn (evY φ k (.expr e)) st PO E = rn (evX φ e) st (fun v s => v = .none ∧ PO .none s) E := by
  simp only [evY_e0, rn_bind]
  congr; funext v s; induction v using V.casesOn <;> simp [rn_pure, rn_fail]
theorem ry_ret {e : X} : rn (evY φ k (.ret e)) st PO E = rn (evX φ e) st (fun v s => PO (some v) s) E := by simp -iota only [evY_e1, rn_bind, rn_pure]
theorem ry_set {i : Nat} {e : X} : rn (evY φ k (.set i e)) st PO E = rn (evX φ e) st (fun v s => PO .none ⟨fun j => if j = i then some v else s.σ j, s.H⟩) E := by simp -iota only [evY_e2, rn_bind, rn_pure, rn_setl]
theorem ry_newl {i : Nat} {xs : List X} : rn (evY φ k (.newl i xs)) st PO E = rn (evXs φ xs) st (fun vs s => vs.length ≤ 1000000 ∧ PO .none ⟨fun j => if j = i then some (.ref s.H.length) else s.σ j, s.H ++ [.list vs]⟩) E := by
  simp -iota only [evY_e3, rn_bind]
  congr; funext vs s; by_cases h : vs.length ≤ 1000000 <;> simp -iota [h, rn_bind, rn_pure, rn_setl, rn_alloc, rn_fail]
theorem ry_unp {is : List Nat} {e : X} : rn (evY φ k (.unp is e)) st PO E = rn (evX φ e) st (fun v s => ∃ vs, v = .tuple vs ∧ vs.length ≤ 1000 ∧ rn (setAll is vs) s (fun _ s => PO .none s) E) E := by
  simp only [evY_e4, rn_bind]
  congr; funext v s
  induction v using V.casesOn <;> simp [rn_fail]
  rename_i l
  by_cases h : l.length ≤ 1000 <;> simp [h, rn_bind, rn_pure, rn_fail]
theorem ry_seta {o : X} {a : Str} {e : X} : rn (evY φ k (.seta o a e)) st PO E = rn (evX φ e) st (fun v s => rn (evX φ o) s (fun x s => rn (setaV x a v) s (fun _ s => PO .none s) E) E) E := by simp -iota only [evY_e5, rn_bind, rn_pure]
theorem ry_seti {o i e : X} : rn (evY φ k (.seti o i e)) st PO E = rn (evX φ e) st (fun v s => rn (evX φ o) s (fun x s => rn (evX φ i) s (fun y s => rn (setiV x y v) s (fun _ s => PO .none s) E) E) E) E := by simp -iota only [evY_e6, rn_bind, rn_pure]
theorem ry_aug {i : Nat} {op : Operator} {e : X} : rn (evY φ k (.aug i op e)) st PO E = rn (evX φ (.loc i)) st (fun a s => rn (evX φ e) s (fun b s => ∃ v, augV op a b = some v ∧ PO .none ⟨fun j => if j = i then some v else s.σ j, s.H⟩) E) E := by simp -iota only [evY_e7, rn_bind, rn_pure, rn_look, rn_setl]
theorem ry_auga {o : X} {a : Str} {op : Operator} {e : X} : rn (evY φ k (.auga o a op e)) st PO E = rn (evX φ o) st (fun x s => rn (attrV x a) s (fun u s => rn (evX φ e) s (fun b s => ∃ v, augV op u b = some v ∧ rn (setaV x a v) s (fun _ s => PO .none s) E) E) E) E := by simp -iota only [evY_e8, rn_bind, rn_pure, rn_look]
theorem ry_ifs {t : T} {b e : List Y} : rn (evY φ k (.ifs t b e)) st PO E = rn (evT φ t) st (fun c s => if c then rn (evYs φ k b) s PO E else rn (evYs φ k e) s PO E) E := by
  simp -iota only [evY_e9, rn_bind]
  congr; funext c s; induction c using Bool.casesOn <;> rfl
theorem ry_whl {t : T} {b : List Y} : rn (evY φ k (.whl t b)) st PO E = rn (whileV (evT φ t) (evYs φ k b) k) st PO E := by simp -iota only [evY_e10]
theorem ry_fors {i : Nat} {it : X} {b : List Y} : rn (evY φ k (.fors i it b)) st PO E = rn (evX φ it) st (fun x s => ∃ xs, itemsV s.H x = some xs ∧ rn (forV (fun v => AM.bind (AM.setl i v) fun _ => evYs φ k b) xs) s PO E) E := by simp -iota only [evY_e11, rn_bind, rn_look]
theorem ry_raise {c : Addr} {x : X} : rn (evY φ k (.raise c [x])) st PO E = rn (evX φ x) st (fun v s => (match v with | .text => True | .str x => x.length ≤ 100000 | _ => False) ∧ E c s.H) E := by
  simp only [evY_e12, rn_bind, evXs_e0, evXs_e1, rn_pure]
  congr; funext v s
  unfold rn
  induction v using V.casesOn <;> simp
  rename_i x
  by_cases h : x.length ≤ 100000 <;> simp [h]
theorem rn_while {t : AM Bool} {b : AM (Option V)} (I : Nat → St → Prop) (hI : ∀ n st, I n st → rn t st (fun c s => if c then rn b s (fun f s' => match f with | .none => ∃ m, m < n ∧ I m s' | some v => PO (some v) s') E else PO .none s) E) :
    ∀ (n : Nat) (st : St) (fuel : Nat), I n st → n < fuel → rn (whileV t b fuel) st PO E := by
  intro n
  induction n using Nat.strongRecOn with
  | ind n ih =>
    intro st fuel h hf
    cases fuel with
    | zero => lia
    | succ fuel =>
      simp -iota only [whileV_e1, rn_bind]
      refine rn_mono (hI n st h) (fun c s hc => ?_) fun _ _ e => e
      induction c using Bool.casesOn with
      | false => simpa [rn_pure] using hc
      | true =>
        simp -iota only [if_true] at hc ⊢
        rw [rn_bind]
        refine rn_mono hc (fun f s' hf' => ?_) fun _ _ e => e
        induction f using Option.casesOn with
        | none => obtain ⟨m, hm, hi⟩ := hf'; exact ih m hm s' fuel hi (by lia)
        | some v => exact hf'
theorem rn_for {b : V → AM (Option V)} (I : List V → St → Prop) (hI : ∀ v r st, I (v :: r) st → rn (b v) st (fun f s' => match f with | .none => I r s' | some u => PO (some u) s') E) (hn : ∀ st, I [] st → PO .none st) :
    ∀ (xs : List V) (st : St), I xs st → rn (forV b xs) st PO E := by
  intro xs
  induction xs with
  | nil => intro st h; exact hn st h
  | cons v r ih =>
    intro st h
    simp -iota only [forV_e1, rn_bind]
    refine rn_mono (hI v r st h) (fun f s' hf => ?_) fun _ _ e => e
    induction f using Option.casesOn with
    | none => exact ih s' hf
    | some u => exact hf
theorem ctR_of {m : Nat} {ys : List Y} {du us : List V} {H : List O} {o : Res} (hl : us.length + du.length = m) (h : rn (AM.bind (evYs φ KF ys) fun f => frzRet (f.getD .none)) ⟨fun j => (us ++ du)[j % 100]?, H⟩ (fun b s => Res.ok b s.H = o) fun k H => Res.exc k H = o) : ctR φ m ys du us H = some o := by
  unfold ctR
  rw [if_pos hl]
  unfold rn at h
  unfold runU
  cases q : (AM.bind (evYs φ KF ys) fun f => frzRet (f.getD .none)) ⟨fun j => (us ++ du)[j % 100]?, H⟩ with
  | none => rw [q] at h; exact h.elim
  | some p =>
    rw [q] at h
    induction p using Out.casesOn with
    | ok b s => exact congrArg some h
    | exc k s => exact congrArg some h
theorem ctC_of {m : Nat} {ys : List Y} {us : List V} {H : List O} {o : Res} (hl : us.length = m) (h : rn (AM.bind (evYs φ KF ys) fun f => frzRet (f.getD .none)) ⟨fun j => us[j % 100]?, H⟩ (fun b s => Res.ok b H = o ∧ ∃ ext, s.H = H ++ ext) fun k H' => Res.exc k H = o ∧ ∃ ext, H' = H ++ ext) : ctC φ m ys us H = some o := by
  unfold ctC
  rw [if_pos hl]
  unfold rn at h
  unfold runU
  cases q : (AM.bind (evYs φ KF ys) fun f => frzRet (f.getD .none)) ⟨fun j => us[j % 100]?, H⟩ with
  | none => rw [q] at h; exact h.elim
  | some p =>
    rw [q] at h
    induction p using Out.casesOn with
    | ok b s =>
      show cutR H (some (.ok b s.H)) = some o
      simp only [cutR]
      rw [if_pos h.2]; exact congrArg some h.1
    | exc k s =>
      show cutR H (some (.exc k s.H)) = some o
      simp only [cutR]
      rw [if_pos h.2]; exact congrArg some h.1
end
theorem clean_e4 : clean .none = true := rfl
theorem clean_e5 : clean (.bool b) = true := rfl
theorem clean_e6 : clean (.int i) = true := rfl
theorem clean_e7 : clean (.str s) = true := rfl
theorem clean_e8 : clean .text = true := rfl
theorem clean_e9 : clean (.bytes x) = true := rfl
theorem clean_e10 : clean (.bar x) = true := rfl
theorem clean_e11 : clean (.rng x y z) = true := rfl
theorem clean_e12 : clean (.fn f) = true := rfl
noncomputable def enc (n : Nat) : List UInt8 := if n < 128 then [n.toUInt8] else (n % 128 + 128).toUInt8 :: enc (n / 128)
theorem enc_small {n : Nat} (h : n < 128) : enc n = [n.toUInt8] := by rw [enc, if_pos h]
theorem enc_big {n : Nat} (h : ¬ n < 128) : enc n = (n % 128 + 128).toUInt8 :: enc (n / 128) := by rw [enc, if_neg h]
theorem bv_add {H : List O} {a b : Int} : binV H .Add (.int a) (.int b) = some (.int (a + b)) := rfl
theorem bv_sub {H : List O} {a b : Int} : binV H .Sub (.int a) (.int b) = some (.int (a - b)) := rfl
theorem av_add {a b : Int} : augV .Add (.int a) (.int b) = some (.int (a + b)) := rfl
theorem get_app {H : List O} {o : O} {r : List O} : (H ++ o :: r)[H.length]? = some o := by simp
theorem set_app {H : List O} {o p : O} {r : List O} : (H ++ o :: r).set H.length p = H ++ p :: r := by simp
section
variable {P : V → St → Prop} {E : Addr → List O → Prop} {st : St}
theorem mk_app {H : List O} {i : Nat} {b : List UInt8} (h : H[i]? = some (.barr b)) : methK H (.ref i) (S "append") = some .bapp := by simp [methK, instIn', h]
theorem mk_ext {H : List O} {i : Nat} {b : List UInt8} (h : H[i]? = some (.barr b)) : methK H (.ref i) (S "extend") = some .bext := by
  have : ¬ (S "extend" = S "append") := by decide
  simp only [methK, instIn', h]
  rw [if_neg this]
  simp
theorem mk_lapp {H : List O} {i : Nat} {l : List V} (h : H[i]? = some (.list l)) : methK H (.ref i) (S "append") = some .lapp := by simp [methK, instIn', h]
end
theorem bitAnd_nat (n m : Nat) : bitAnd (n : Int) (m : Int) = ((n &&& m : Nat) : Int) := by
  unfold bitAnd
  have h1 : decide (0 ≤ (n : Int)) = true := by simp
  have h2 : decide (0 ≤ (m : Int)) = true := by simp
  rw [h1, h2]
  simp
theorem bitOr_nat (n m : Nat) : bitOr (n : Int) (m : Int) = ((n ||| m : Nat) : Int) := by
  unfold bitOr bitAnd bitNot
  have h1 : decide (0 ≤ -(n : Int) - 1) = false := by simp; lia
  have h2 : decide (0 ≤ -(m : Int) - 1) = false := by simp; omega
  rw [h1, h2]
  have e1 : (-(-(n : Int) - 1) - 1).toNat = n := by lia
  have e2 : (-(-(m : Int) - 1) - 1).toNat = m := by lia
  simp only [e1, e2]
  lia
theorem and127 (n : Nat) : bitAnd (n : Int) 127 = ((n % 128 : Nat) : Int) := by
  have := bitAnd_nat n 127
  rw [show ((127 : Nat) : Int) = 127 from rfl] at this
  rw [this]
  congr 1
  exact Nat.and_two_pow_sub_one_eq_mod n 7
theorem or128 (n : Nat) (h : n < 128) : bitOr (n : Int) 128 = ((n + 128 : Nat) : Int) := by
  have := bitOr_nat n 128
  rw [show ((128 : Nat) : Int) = 128 from rfl] at this
  rw [this]
  congr 1
  have e := Nat.two_pow_add_eq_or_of_lt (b := n) (i := 7) h 1
  rw [Nat.or_comm]
  simp at e
  lia
theorem fdiv128 (n : Nat) : (n : Int).fdiv 128 = (n : Int) / 128 := by
  rw [Int.fdiv_eq_ediv_of_nonneg _ (by decide)]
theorem enc_len2 : ∀ (k n : Nat), n < 128 ^ (k + 1) → (enc n).length ≤ k + 1
  | 0, n, h => by rw [enc_small (by simpa using h)]; simp
  | k + 1, n, h => by
    by_cases h' : n < 128
    · rw [enc_small h']; simp
    · rw [enc_big h']
      have := enc_len2 k (n / 128) (by rw [Nat.div_lt_iff_lt_mul (by decide)]; rw [Nat.pow_succ] at h; exact h)
      simp only [List.length_cons]; lia
@[reducible] noncomputable def St.put (s : St) (i : Nat) (v : V) : St := ⟨fun j => if j = i then some v else s.σ j, s.H⟩
section
variable {α β : Type} {φ : Tab} {k : Nat} {st s1 s2 s3 s4 : St} {P : Option V → St → Prop} {E : Addr → List O → Prop} {e a b o : X} {v x y u : V} {vs us : List V} {xs : List X} {ys : List Y} {t : T} {ts : List T} {i : Nat}
theorem bd {m : AM α} {f : α → AM β} {z : α} (h : m st = some (.ok z s1)) : AM.bind m f st = f z s1 := by unfold AM.bind; rw [h]
theorem lk {f : List O → Option β} {z : β} (h : f st.H = some z) : AM.look f st = some (.ok z st) := by unfold AM.look; rw [h]; rfl
theorem rn_ok {m : AM β} {z : β} {P : β → St → Prop} (h : m st = some (.ok z s1)) : rn m st P E = P z s1 := by unfold rn; rw [h]
theorem x_val : evX φ (.val v) st = some (.ok v st) := rfl
theorem x_loc (h : st.σ i = some v) : evX φ (.loc i) st = some (.ok v st) := by simp only [evX_e1, h]
theorem put_eq : (st.put i v).σ i = some v := if_pos rfl
theorem put_ne {j : Nat} (h : Nat.beq j i = false) (h' : st.σ j = some x) : (st.put i v).σ j = some x := (if_neg (Nat.ne_of_beq_eq_false h)).trans h'
theorem x_bin {op : Operator} (ha : evX φ a st = some (.ok x s1)) (hb : evX φ b s1 = some (.ok y s2)) (h : binV s2.H op x y = some v) : evX φ (.bin op a b) st = some (.ok v s2) := by
  simp -iota only [evX_e2]; rw [bd ha, bd hb, lk h]
theorem x_neg {n : Int} (ha : evX φ a st = some (.ok (.int n) s1)) : evX φ (.neg a) st = some (.ok (.int (-n)) s1) := by
  simp -iota only [evX_e3]; rw [bd ha]; rfl
theorem x_and_t (ha : evX φ a st = some (.ok (.bool true) s1)) (hb : evX φ b s1 = some (.ok y s2)) : evX φ (.bool .And a b) st = some (.ok y s2) := by
  simp -iota only [evX_e4]; rw [bd ha]; exact hb
theorem x_and_f (ha : evX φ a st = some (.ok (.bool false) s1)) : evX φ (.bool .And a b) st = some (.ok (.bool false) s1) := by
  simp -iota only [evX_e4]; rw [bd ha]; rfl
theorem x_cmp {op : CmpOp} {c : Bool} (ha : evX φ a st = some (.ok x s1)) (hb : evX φ b s1 = some (.ok y s2)) (h : cmpV op x y = some c) : evX φ (.cmp op a b) st = some (.ok (.bool c) s2) := by
  simp -iota only [evX_e5]; rw [bd ha, bd hb, lk (z := .bool c) (by rw [h]; rfl)]
theorem xs_nil : evXs φ [] st = some (.ok [] st) := rfl
theorem xs_cons (ha : evX φ a st = some (.ok x s1)) (hb : evXs φ xs s1 = some (.ok vs s2)) : evXs φ (a :: xs) st = some (.ok (x :: vs) s2) := by
  simp -iota only [evXs_e1]; rw [bd ha, bd hb]; rfl
theorem xo_none : evXo φ .none st = some (.ok .none st) := rfl
theorem xo_some (ha : evX φ a st = some (.ok x s1)) : evXo φ (some a) st = some (.ok (some x) s1) := by
  simp -iota only [evXo_e1]; rw [bd ha]; rfl
theorem x_call {f : Value} (ha : evXs φ xs st = some (.ok vs s1)) (h : callV φ f vs s1 = some (.ok v s2)) : evX φ (.call f xs) st = some (.ok v s2) := by
  simp -iota only [evX_e6]; rw [bd ha, h]
theorem x_meth {m : Str} {q : MK} (ho : evX φ o st = some (.ok x s1)) (hm : methK s1.H x m = some q) (ha : evXs φ xs s1 = some (.ok vs s2)) (h : methDo φ x q vs s2 = some (.ok v s3)) : evX φ (.meth o m xs) st = some (.ok v s3) := by
  simp -iota only [evX_e7]; rw [bd ho, bd (lk hm), bd ha, h]
theorem x_attr {at_ : Str} (ho : evX φ o st = some (.ok x s1)) (h : attrV x at_ s1 = some (.ok v s2)) : evX φ (.attr o at_) st = some (.ok v s2) := by
  simp -iota only [evX_e8]; rw [bd ho, h]
theorem x_item (ha : evX φ a st = some (.ok x s1)) (hb : evX φ b s1 = some (.ok y s2)) (h : itemV s2.H x y = some v) : evX φ (.item a b) st = some (.ok v s2) := by
  simp -iota only [evX_e9]; rw [bd ha, bd hb, lk h]
theorem x_slice {lo hi : Option X} {l r : Option V} (ha : evX φ a st = some (.ok x s1)) (hl : evXo φ lo s1 = some (.ok l s2)) (hh : evXo φ hi s2 = some (.ok r s3)) (h : sliceV s3.H x l r = some v) : evX φ (.slice a lo hi) st = some (.ok v s3) := by
  simp -iota only [evX_e10]; rw [bd ha, bd hl, bd hh, lk h]
theorem len_le {l : List V} (h : Nat.ble l.length 1000000 = true) : l.length ≤ 1000000 := Nat.le_of_ble_eq_true h
theorem x_list (ha : evXs φ xs st = some (.ok vs s1)) (h : vs.length ≤ 1000000) : evX φ (.list xs) st = some (.ok (.list vs) s1) := by
  simp -iota only [evX_e11]; rw [bd ha, lk (if_pos h)]
theorem x_tup (ha : evXs φ xs st = some (.ok vs s1)) (h : vs.length ≤ 1000000) : evX φ (.tup xs) st = some (.ok (.tuple vs) s1) := by
  simp -iota only [evX_e12]; rw [bd ha, lk (if_pos h)]
theorem x_comp (ha : evX φ a st = some (.ok x s1)) (hi : itemsV s1.H x = some vs) (hc : compV (evX φ e) i vs s1 = some (.ok us s2)) (h : us.length ≤ 1000000) : evX φ (.comp e i a) st = some (.ok (.list us) s2) := by
  simp -iota only [evX_e13]; rw [bd ha, bd (lk hi), bd hc, lk (if_pos h)]
theorem f_nil : evF φ [] st = some (.ok () st) := rfl
theorem f_cons {n : Int} (ha : evX φ a st = some (.ok (.int n) s1)) (hn : n.natAbs < 10 ^ 100) (hb : evF φ xs s1 = some (.ok () s2)) : evF φ (a :: xs) st = some (.ok () s2) := by
  simp -iota only [evF_e1]; rw [bd ha, bd (lk (z := ()) (if_pos hn)), hb]
theorem x_fstr (ha : evF φ xs st = some (.ok () s1)) : evX φ (.fstr xs) st = some (.ok .text s1) := by
  simp -iota only [evX_e14]; rw [bd ha]; rfl
theorem c_fn {f : Addr} {ct : Ct} {H : List O} (hc : clsInit f = .none) (hf : frzAll vs st = some (.ok us s1)) (hl : φ.lookup f = some ct) (h : ct us s1.H = some (.ok v H)) : callV φ (.ref f) vs st = some (.ok v ⟨s1.σ, H⟩) := by
  rw [callV_r hc, bd hf]; unfold useC; rw [hl]; dsimp only; rw [h]; rfl
theorem m_fn {f : Addr} {ct : Ct} {H : List O} (hf : frzAll vs st = some (.ok us s1)) (hl : φ.lookup f = some ct) (h : ct (x :: us) s1.H = some (.ok v H)) : methDo φ x (.fn f) vs st = some (.ok v ⟨s1.σ, H⟩) := by
  simp only [methDo]; rw [bd hf]; unfold useC; rw [hl]; dsimp only; rw [h]; rfl
theorem c_bi {id : String} (hi : id ≠ "isinstance") (h : builtinV st.H id vs = some v) : callV φ (.builtin id) vs st = some (.ok v st) := by
  rw [show callV φ (.builtin id) vs = AM.look fun H => builtinV H id vs from if_neg hi, lk h]
theorem c_ty {id : String} (hi : id ≠ "bytearray") (h : typeV st.H id vs = some v) : callV φ (.type id) vs st = some (.ok v st) := by
  rw [show callV φ (.type id) vs = AM.look fun H => typeV H id vs from if_neg hi, lk h]
theorem c_len (h : builtinV st.H "len" vs = some v) : callV φ (.builtin "len") vs st = some (.ok v st) := c_bi (by decide) h
theorem c_sum (h : builtinV st.H "sum" vs = some v) : callV φ (.builtin "sum") vs st = some (.ok v st) := c_bi (by decide) h
theorem c_min (h : builtinV st.H "min" vs = some v) : callV φ (.builtin "min") vs st = some (.ok v st) := c_bi (by decide) h
theorem c_range (h : typeV st.H "range" vs = some v) : callV φ (.type "range") vs st = some (.ok v st) := c_ty (by decide) h
theorem c_bytes (h : typeV st.H "bytes" vs = some v) : callV φ (.type "bytes") vs st = some (.ok v st) := c_ty (by decide) h
theorem c_tuple (h : typeV st.H "tuple" vs = some v) : callV φ (.type "tuple") vs st = some (.ok v st) := c_ty (by decide) h
theorem c_list (h : typeV st.H "list" vs = some v) : callV φ (.type "list") vs st = some (.ok v st) := c_ty (by decide) h
theorem t_ex {c : Bool} (h : evX φ e st = some (.ok (.bool c) s1)) : evT φ (.ex e) st = some (.ok c s1) := by
  simp -iota only [evT_e0]; rw [bd h]; rfl
theorem t_cmp {op : CmpOp} {c : Bool} (ha : evX φ a st = some (.ok x s1)) (hb : evX φ b s1 = some (.ok y s2)) (h : cmpV op x y = some c) : evT φ (.cmp op a b) st = some (.ok c s2) := by
  simp -iota only [evT_e1]; rw [bd ha, bd hb, lk h]
theorem t_not_f (h : evT φ t st = some (.ok true s1)) : evT φ (.not t) st = some (.ok false s1) := by
  simp -iota only [evT_e2]; rw [bd h]; rfl
theorem t_and_t {c : Bool} (h : evT φ t st = some (.ok true s1)) (h' : evT φ (.bool .And ts) s1 = some (.ok c s2)) : evT φ (.bool .And (t :: ts)) st = some (.ok c s2) := by
  simp -iota only [evT_e3, evTs_e1]; rw [bd h]; simpa only [evT] using h'
theorem t_and_f (h : evT φ t st = some (.ok false s1)) : evT φ (.bool .And (t :: ts)) st = some (.ok false s1) := by
  simp -iota only [evT_e3, evTs_e1]; rw [bd h]; rfl
theorem t_and0 : evT φ (.bool .And []) st = some (.ok true st) := by simp -iota only [evT_e3, evTs_e0]; rfl
theorem t_or_f {c : Bool} (h : evT φ t st = some (.ok false s1)) (h' : evT φ (.bool .Or ts) s1 = some (.ok c s2)) : evT φ (.bool .Or (t :: ts)) st = some (.ok c s2) := by
  simp -iota only [evT_e3, evTs_e1]; rw [bd h]; simpa only [evT] using h'
theorem t_or_t (h : evT φ t st = some (.ok true s1)) : evT φ (.bool .Or (t :: ts)) st = some (.ok true s1) := by
  simp -iota only [evT_e3, evTs_e1]; rw [bd h]; rfl
theorem t_or0 : evT φ (.bool .Or []) st = some (.ok false st) := by simp -iota only [evT_e3, evTs_e0]; rfl
section
variable {n m : Int}
theorem c_lt_t (h : n < m) : cmpV .Lt (.int n) (.int m) = some true := congrArg some (decide_eq_true h)
theorem c_lt_f (h : ¬ n < m) : cmpV .Lt (.int n) (.int m) = some false := congrArg some (decide_eq_false h)
theorem c_gt_t (h : m < n) : cmpV .Gt (.int n) (.int m) = some true := congrArg some (decide_eq_true h)
theorem c_gt_f (h : ¬ m < n) : cmpV .Gt (.int n) (.int m) = some false := congrArg some (decide_eq_false h)
theorem c_ge_t (h : m ≤ n) : cmpV .GtE (.int n) (.int m) = some true := congrArg some (decide_eq_true h)
theorem c_ge_f (h : ¬ m ≤ n) : cmpV .GtE (.int n) (.int m) = some false := congrArg some (decide_eq_false h)
theorem c_eq_t (h : n = m) : cmpV .Eq (.int n) (.int m) = some true := congrArg some (decide_eq_true h)
theorem c_eq_f (h : ¬ n = m) : cmpV .Eq (.int n) (.int m) = some false := congrArg some (decide_eq_false h)
end
@[irreducible] noncomputable def rz (φ : Tab) (ys : List Y) (st : St) (P : Option V → St → Prop) (E : Addr → List O → Prop) : Prop := rn (evYs φ KF ys) st P E
theorem rz_eq : rz φ ys st P E = rn (evYs φ KF ys) st P E := by unfold rz; rfl
theorem g_nil (h : P .none st) : rz φ [] st P E := by rw [rz_eq, ry_nil]; exact h
theorem g_set (h : evX φ e st = some (.ok v s1)) (h' : rz φ ys (s1.put i v) P E) : rz φ (.set i e :: ys) st P E := by
  simp -iota only [rz_eq] at *
  rw [ry_cons, ry_set, rn_ok h]; exact h'
theorem g_ret (h : evX φ e st = some (.ok v s1)) (h' : P (some v) s1) : rz φ (.ret e :: ys) st P E := by
  simp -iota only [rz_eq] at *
  rw [ry_cons, ry_ret, rn_ok h]; exact h'
theorem g_expr (h : evX φ e st = some (.ok .none s1)) (h' : rz φ ys s1 P E) : rz φ (.expr e :: ys) st P E := by
  simp -iota only [rz_eq] at *
  rw [ry_cons, ry_expr, rn_ok h]; exact ⟨rfl, h'⟩
theorem g_newl (h : evXs φ xs st = some (.ok vs s1)) (hl : vs.length ≤ 1000000) (h' : rz φ ys (St.put ⟨s1.σ, s1.H ++ [.list vs]⟩ i (.ref s1.H.length)) P E) : rz φ (.newl i xs :: ys) st P E := by
  simp -iota only [rz_eq] at *
  rw [ry_cons, ry_newl, rn_ok h]; exact ⟨hl, h'⟩
theorem g_aug {op : Operator} (hi : st.σ i = some x) (h : evX φ e st = some (.ok y s1)) (hv : augV op x y = some v) (h' : rz φ ys (s1.put i v) P E) : rz φ (.aug i op e :: ys) st P E := by
  simp -iota only [rz_eq] at *
  rw [ry_cons, ry_aug, rn_ok (x_loc hi), rn_ok h]; exact ⟨v, hv, h'⟩
noncomputable def putσ (σ : Nat → Option V) : List Nat → List V → Nat → Option V
  | i :: is, v :: vs => putσ (fun j => if j = i then some v else σ j) is vs
  | _, _ => σ
@[reducible] noncomputable def puts (s : St) (is : List Nat) (vs : List V) : St := ⟨putσ s.σ is vs, s.H⟩
theorem sets_ok : ∀ {is : List Nat} {vs : List V} {s : St}, is.length = vs.length → setAll is vs s = some (.ok () (puts s is vs))
  | [], [], s, _ => rfl
  | i :: is, v :: vs, s, h => by
    simp -iota only [setAll_e1]
    rw [bd (z := ()) (s1 := s.put i v) rfl]
    exact sets_ok (Nat.succ.inj h)
  | [], _ :: _, s, h => by cases h
  | _ :: _, [], s, h => by cases h
noncomputable def nin (j : Nat) : List Nat → Bool
  | [] => true
  | i :: r => !Nat.beq j i && nin j r
theorem nin_e0 : nin j [] = true := rfl
theorem nin_e1 : nin j (i :: r) = (!Nat.beq j i && nin j r) := rfl
theorem putσ_ne {j : Nat} : ∀ {is : List Nat} {vs : List V} {σ : Nat → Option V}, nin j is = true → putσ σ is vs j = σ j
  | [], [], σ, _ => rfl
  | [], _ :: _, σ, _ => rfl
  | _ :: _, [], σ, _ => rfl
  | i :: is, v :: vs, σ, h => by
    rw [nin_e1, Bool.and_eq_true, Bool.not_eq_true'] at h
    exact (putσ_ne h.2).trans (if_neg (Nat.ne_of_beq_eq_false h.1))
theorem puts_ne {j : Nat} {is : List Nat} (h : nin j is = true) (h' : st.σ j = some x) : (puts st is vs).σ j = some x := (putσ_ne h).trans h'
theorem g_unp {is : List Nat} (h : evX φ e st = some (.ok (.tuple vs) s1)) (hl : is.length = vs.length) (hn : Nat.ble vs.length 1000 = true) (h' : rz φ ys (puts s1 is vs) P E) : rz φ (.unp is e :: ys) st P E := by
  simp -iota only [rz_eq] at *
  rw [ry_cons, ry_unp, rn_ok h]; exact ⟨vs, rfl, Nat.le_of_ble_eq_true hn, by rw [rn_ok (sets_ok hl)]; exact h'⟩
theorem g_app {ys b : List Y} (h : rn (evYs φ k (b ++ ys)) st P E) : rn (evYs φ k b) st (fun f s => match f with | .none => rn (evYs φ k ys) s P E | some v => P (some v) s) E := by
  induction b generalizing st with
  | nil => rw [ry_nil]; exact h
  | cons y b ih =>
    rw [List.cons_append, ry_cons] at h
    rw [ry_cons]
    refine rn_mono h (fun f s q => ?_) fun _ _ q => q
    induction f using Option.casesOn with
    | none => exact ih q
    | some v => exact q
theorem g_if_t {b e : List Y} (h : evT φ t st = some (.ok true s1)) (h' : rz φ (b ++ ys) s1 P E) : rz φ (.ifs t b e :: ys) st P E := by
  simp -iota only [rz_eq] at *
  rw [ry_cons, ry_ifs, rn_ok h, if_pos rfl]; exact g_app h'
theorem g_if_f {b e : List Y} (h : evT φ t st = some (.ok false s1)) (h' : rz φ (e ++ ys) s1 P E) : rz φ (.ifs t b e :: ys) st P E := by
  simp -iota only [rz_eq] at *
  rw [ry_cons, ry_ifs, rn_ok h, if_neg (fun q => nomatch q)]; exact g_app h'
noncomputable def WhlP (I : Nat → St → Prop) (n : Nat) (P : Option V → St → Prop) : Option V → St → Prop
  | .none, s => ∃ m, m < n ∧ I m s
  | some v, s => P (some v) s
theorem g_whl {b : List Y} (I : Nat → St → Prop) (n : Nat) (hk : n < KF) (hi : I n st)
    (hI : ∀ n s, I n s → (∃ s', evT φ t s = some (.ok false s') ∧ rz φ ys s' P E) ∨ ∃ s', evT φ t s = some (.ok true s') ∧ rz φ b s' (WhlP I n P) E) : rz φ (.whl t b :: ys) st P E := by
  simp -iota only [rz_eq] at *
  rw [ry_cons, ry_whl]
  refine rn_while I (fun m s hm => ?_) n st KF hi hk
  rcases hI m s hm with ⟨s', h1, h2⟩ | ⟨s', h1, h2⟩
  · rw [rn_ok h1, if_neg (fun q => nomatch q)]; exact h2
  · rw [rn_ok h1, if_pos rfl]
    refine rn_mono h2 (fun f s q => ?_) fun _ _ q => q
    induction f using Option.casesOn <;> exact q
noncomputable def ForP (I : List V → St → Prop) (r : List V) (P : Option V → St → Prop) : Option V → St → Prop
  | .none, s => I r s
  | some v, s => P (some v) s
theorem g_for {it : X} {b : List Y} (I : List V → St → Prop) (h : evX φ it st = some (.ok x s1)) (hx : itemsV s1.H x = some vs) (hi : I vs s1)
    (hn : ∀ s, I [] s → rz φ ys s P E) (hI : ∀ v r s, I (v :: r) s → rz φ b (s.put i v) (ForP I r P) E) : rz φ (.fors i it b :: ys) st P E := by
  simp -iota only [rz_eq] at *
  rw [ry_cons, ry_fors, rn_ok h]
  refine ⟨vs, hx, rn_for I (fun v r s hs => ?_) hn vs s1 hi⟩
  rw [rn_bind, rn_setl]
  refine rn_mono (hI v r s hs) (fun f s q => ?_) fun _ _ q => q
  induction f using Option.casesOn <;> exact q
theorem g_raise {c : Addr} (h : evX φ e st = some (.ok .text s1)) (h' : E c s1.H) : rz φ (.raise c [e] :: ys) st P E := by
  simp -iota only [rz_eq] at *
  rw [ry_cons, ry_raise, rn_ok h]; exact ⟨trivial, h'⟩
theorem g_raise_s {c : Addr} {z : Str} (hz : z.length ≤ 100000) (h : evX φ e st = some (.ok (.str z) s1)) (h' : E c s1.H) : rz φ (.raise c [e] :: ys) st P E := by
  simp -iota only [rz_eq] at *
  rw [ry_cons, ry_raise, rn_ok h]; exact ⟨hz, h'⟩
noncomputable def RetR (o : Res) : Option V → St → Prop := fun f s => rn (frzRet (f.getD .none)) s (fun b s => Res.ok b s.H = o) fun k H => Res.exc k H = o
noncomputable def ExcR (o : Res) : Addr → List O → Prop := fun k H => Res.exc k H = o
theorem ctR_g {m : Nat} {ys : List Y} {du us : List V} {H : List O} {o : Res} (hl : us.length + du.length = m) (h : rz φ ys ⟨fun j => (us ++ du)[j % 100]?, H⟩ (RetR o) (ExcR o)) : ctR φ m ys du us H = some o :=
  ctR_of hl (by rw [rn_bind]; rw [rz_eq] at h; exact h)
theorem ret_ok {f : Option V} {o : Res} (h : frzRet (f.getD .none) st = some (.ok v s1)) (ho : Res.ok v s1.H = o) : RetR o f st := by
  unfold RetR; rw [rn_ok h]; exact ho
theorem x_call_e {f : Value} {kd : Addr} (ha : evXs φ xs st = some (.ok vs s1)) (h : callV φ f vs s1 = some (.exc kd s2)) : evX φ (.call f xs) st = some (.exc kd s2) := by
  simp -iota only [evX_e6]; rw [bd ha, h]
theorem x_meth_e {m : Str} {q : MK} {kd : Addr} (ho : evX φ o st = some (.ok x s1)) (hm : methK s1.H x m = some q) (ha : evXs φ xs s1 = some (.ok vs s2)) (h : methDo φ x q vs s2 = some (.exc kd s3)) : evX φ (.meth o m xs) st = some (.exc kd s3) := by
  simp -iota only [evX_e7]; rw [bd ho, bd (lk hm), bd ha, h]
theorem c_fn_e {f : Addr} {ct : Ct} {H : List O} {kd : Addr} (hc : clsInit f = .none) (hf : frzAll vs st = some (.ok us s1)) (hl : φ.lookup f = some ct) (h : ct us s1.H = some (.exc kd H)) : callV φ (.ref f) vs st = some (.exc kd ⟨s1.σ, H⟩) := by
  rw [callV_r hc, bd hf]; unfold useC; rw [hl]; dsimp only; rw [h]; rfl
theorem m_fn_e {f : Addr} {ct : Ct} {H : List O} {kd : Addr} (hf : frzAll vs st = some (.ok us s1)) (hl : φ.lookup f = some ct) (h : ct (x :: us) s1.H = some (.exc kd H)) : methDo φ x (.fn f) vs st = some (.exc kd ⟨s1.σ, H⟩) := by
  simp only [methDo]; rw [bd hf]; unfold useC; rw [hl]; dsimp only; rw [h]; rfl
theorem bd_e {m : AM α} {f : α → AM β} {kd : Addr} (h : m st = some (.exc kd s1)) : AM.bind m f st = some (.exc kd s1) := by unfold AM.bind; rw [h]
theorem rn_e {m : AM β} {P : β → St → Prop} {kd : Addr} (h : m st = some (.exc kd s1)) : rn m st P E = E kd s1.H := by unfold rn; rw [h]
theorem g_set_e {kd : Addr} (h : evX φ e st = some (.exc kd s1)) (h' : E kd s1.H) : rz φ (.set i e :: ys) st P E := by
  simp -iota only [rz_eq] at *
  rw [ry_cons, ry_set, rn_e h]; exact h'
theorem g_ret_e {kd : Addr} (h : evX φ e st = some (.exc kd s1)) (h' : E kd s1.H) : rz φ (.ret e :: ys) st P E := by
  simp -iota only [rz_eq] at *
  rw [ry_cons, ry_ret, rn_e h]; exact h'
theorem g_expr_e {kd : Addr} (h : evX φ e st = some (.exc kd s1)) (h' : E kd s1.H) : rz φ (.expr e :: ys) st P E := by
  simp -iota only [rz_eq] at *
  rw [ry_cons, ry_expr, rn_e h]; exact h'
theorem g_unp_e {is : List Nat} {kd : Addr} (h : evX φ e st = some (.exc kd s1)) (h' : E kd s1.H) : rz φ (.unp is e :: ys) st P E := by
  simp -iota only [rz_eq] at *
  rw [ry_cons, ry_unp, rn_e h]; exact h'
section
variable {H : List O} {C : Addr} {at_ : List (Str × V)} {m : Str} {l : List V} {j : Nat}
theorem a_get (hi : instIn' st.H x = some (C, at_)) (hc : (attrsOf C).contains m = true) (hg : getAt m at_ = some v) (hv : ∀ f, v ≠ .fn f) : attrV x m st = some (.ok v st) := by
  unfold attrV
  refine lk ?_
  rw [hi]
  show (if (attrsOf C).contains m = true then _ else _) = _
  rw [if_pos hc, hg]
  induction v using V.casesOn with
  | fn f => exact absurd rfl (hv f)
  | _ => rfl
theorem a_set (hi : st.H[j]? = some (.inst C at_)) (hl : Nat.ble at_.length 100 = true) (hc : (attrsOf C).contains m = true) : setaV (.ref j) m v st = some (.ok () ⟨st.σ, st.H.set j (.inst C (putAt m v at_))⟩) := by
  unfold setaV
  simp only [hi]
  rw [if_pos ⟨Nat.le_of_ble_eq_true hl, hc⟩]
theorem g_seta (h : evX φ e st = some (.ok v s1)) (ho : evX φ o s1 = some (.ok x s2)) (hs : setaV x m v s2 = some (.ok () s3)) (h' : rz φ ys s3 P E) : rz φ (.seta o m e :: ys) st P E := by
  simp -iota only [rz_eq] at *
  rw [ry_cons, ry_seta, rn_ok h, rn_ok ho, rn_ok hs]; exact h'
theorem g_auga {op : Operator} (ho : evX φ o st = some (.ok x s1)) (ha : attrV x m s1 = some (.ok u s2)) (h : evX φ e s2 = some (.ok y s3)) (hv : augV op u y = some v) (hs : setaV x m v s3 = some (.ok () s4)) (h' : rz φ ys s4 P E) : rz φ (.auga o m op e :: ys) st P E := by
  simp -iota only [rz_eq] at *
  rw [ry_cons, ry_auga, rn_ok ho, rn_ok ha, rn_ok h]; exact ⟨v, hv, by rw [rn_ok hs]; exact h'⟩
theorem d_lapp (h : st.H[j]? = some (.list l)) (hl : l.length ≤ 1000000) : methDo φ (.ref j) .lapp [v] st = some (.ok .none ⟨st.σ, st.H.set j (.list (l ++ [v]))⟩) := by
  simp only [methDo, h, if_pos hl]
theorem d_bapp {b : List UInt8} {n : Int} (h : st.H[j]? = some (.barr b)) (hn : 0 ≤ n ∧ n < 256 ∧ b.length ≤ 1000000) : methDo φ (.ref j) .bapp [.int n] st = some (.ok .none ⟨st.σ, st.H.set j (.barr (b ++ [n.toNat.toUInt8]))⟩) := by
  simp only [methDo, h, if_pos hn]
theorem d_bext {b c : List UInt8} (h : st.H[j]? = some (.barr b)) (hn : b.length + c.length ≤ 1000000) : methDo φ (.ref j) .bext [.bytes c] st = some (.ok .none ⟨st.σ, st.H.set j (.barr (b ++ c))⟩) := by
  simp only [methDo, h, if_pos hn]
theorem z_list (h : st.H[j]? = some (.list l)) : frzOne (.ref j) st = some (.ok (.list l) ⟨st.σ, st.H.set j (.frozen (.list l))⟩) := by unfold frzOne; simp only [h]
theorem z_barr {b : List UInt8} (h : st.H[j]? = some (.barr b)) : frzOne (.ref j) st = some (.ok (.ref j) st) := by unfold frzOne; simp only [h]
theorem z_froz (h : st.H[j]? = some (.frozen v)) : frzOne (.ref j) st = some (.ok v st) := by unfold frzOne; simp only [h]
theorem z_cons (h : frzOne x st = some (.ok y s1)) (h' : frzAll vs s1 = some (.ok us s2)) : frzAll (x :: vs) st = some (.ok (y :: us) s2) := by simp -iota only [frzAll_e1]; rw [bd h, bd h']; rfl
theorem z_nil : frzAll [] st = some (.ok [] st) := rfl
theorem cl_ok (h : clean v = true) : (if clean v then (AM.pure v : AM V) else fun _ => .none) st = some (.ok v st) := by rw [if_pos h]; rfl
theorem r_tup (h : frzAll vs st = some (.ok us s1)) (hc : cleanL us = true) : frzRet (.tuple vs) st = some (.ok (.tuple us) s1) := by
  unfold frzRet
  rw [bd (z := V.tuple us) ((bd h).trans rfl)]
  exact cl_ok hc
theorem r_list (h : st.H[j]? = some (.list l)) (hc : cleanL l = true) : frzRet (.ref j) st = some (.ok (.list l) ⟨st.σ, st.H.set j (.frozen (.list l))⟩) := by
  unfold frzRet
  rw [bd (z_list h)]
  exact cl_ok hc
theorem r_inst (hc : cleanA at_ = true) : frzRet (.inst C at_) st = some (.ok (.inst C at_) st) := by
  unfold frzRet
  rw [bd (z := V.inst C at_) (s1 := st) rfl]
  exact cl_ok hc
theorem c_cls {f fi : Addr} {done : Bool} {ct : Ct} (hc : clsInit f = some (fi, done)) (hf : frzAll vs st = some (.ok us s1)) (hl : φ.lookup fi = some ct) (h : ct (.ref s1.H.length :: us) (s1.H ++ [.inst f []]) = some (.ok u H)) (hm : madeV s1.H.length done u ⟨s1.σ, H⟩ = some (.ok v s2)) : callV φ (.ref f) vs st = some (.ok v s2) := by
  rw [callV_c hc, bd hf]
  refine (bd (z := s1.H.length) (s1 := ⟨s1.σ, s1.H ++ [.inst f []]⟩) rfl).trans ?_
  refine (bd (z := u) (s1 := ⟨s1.σ, H⟩) ?_).trans hm
  unfold useC; rw [hl]; dsimp only; rw [h]; rfl
theorem made_t (h : st.H[j]? = some (.inst C at_)) : madeV j true .none st = some (.ok (.inst C at_) ⟨st.σ, st.H.set j (.frozen (.inst C at_))⟩) := by
  show frzInst j st = _
  unfold frzInst; rw [h]
theorem c_bar0 : callV φ (.type "bytearray") [] st = some (.ok (.ref st.H.length) ⟨st.σ, st.H ++ [.barr []]⟩) := rfl
theorem c_bar1 {b : List UInt8} (h : b.length ≤ 16777216) : callV φ (.type "bytearray") [.bytes b] st = some (.ok (.ref st.H.length) ⟨st.σ, st.H ++ [.barr b]⟩) := by rw [show callV φ (.type "bytearray") [.bytes b] = AM.bind (AM.alloc (.barr b)) fun i => AM.pure (.ref i) from if_pos h]; rfl
end
theorem bytesIn_cases {H : List O} {d : V} {b : List UInt8} (h : bytesIn H d = some b) : d = .bytes b ∨ d = .bar b ∨ ∃ i, d = .ref i ∧ H[i]? = some (.barr b) := by
  induction d using V.casesOn with
  | bytes c => exact .inl (Option.some.inj h ▸ rfl)
  | bar c => exact .inr (.inl (Option.some.inj h ▸ rfl))
  | ref i =>
    have h : (match H[i]? with | some (.barr b) => some b | _ => none) = some b := h
    cases hb : H[i]? with
    | none => rw [hb] at h; exact nn h
    | some ob =>
      rw [hb] at h
      induction ob using O.casesOn with
      | barr c => exact .inr (.inr ⟨i, rfl, hb.trans (congrArg (fun x => some (O.barr x)) (Option.some.inj h))⟩)
      | _ => exact nn h
  | _ => exact nn h
theorem z_by {st : St} {d : V} {b : List UInt8} (h : bytesIn st.H d = some b) : frzOne d st = some (.ok d st) := by
  rcases bytesIn_cases h with rfl | rfl | ⟨i, rfl, hi⟩
  · rfl
  · rfl
  · exact z_barr hi
noncomputable abbrev snk (j : Nat) : O := .inst 332 [(S "parts", .ref j)]
noncomputable abbrev cur (d : V) (a : Nat) : O := .inst 255 [(S "data", d), (S "at", .int a)]
theorem ii_ref {H : List O} {C : Addr} {at_ : List (Str × V)} {j : Nat} (h : H[j]? = some (.inst C at_)) : instIn' H (.ref j) = some (C, at_) := by simp only [instIn', h]
theorem at_data : ¬ (S "data" = S "at") := by decide
theorem snk_p {j l : Nat} (h : st.H[j]? = some (snk l)) : attrV (.ref j) (S "parts") st = some (.ok (.ref l) st) := a_get (ii_ref h) (by decide) (if_pos rfl) (fun f q => by cases q)
theorem cur_d {j l : Nat} {d : V} (h : st.H[j]? = some (cur d l)) (hd : ∀ f, d ≠ .fn f) : attrV (.ref j) (S "data") st = some (.ok d st) := a_get (ii_ref h) (by decide) (if_pos rfl) hd
theorem cur_a {j l : Nat} {d : V} (h : st.H[j]? = some (cur d l)) : attrV (.ref j) (S "at") st = some (.ok (.int l) st) := a_get (ii_ref h) (by decide) ((if_neg at_data).trans (if_pos rfl)) (fun f q => by cases q)
theorem cur_s {j l n : Nat} {d : V} (h : st.H[j]? = some (cur d l)) : setaV (.ref j) (S "at") (.int n) st = some (.ok () ⟨st.σ, st.H.set j (cur d n)⟩) := by
  rw [a_set h rfl (by decide), show putAt (S "at") (V.int n) [(S "data", d), (S "at", .int l)] = [(S "data", d), (S "at", V.int n)] by simp -iota [putAt_e1, at_data]]
theorem mk_fn {H : List O} {C : Addr} {at_ : List (Str × V)} {m : Str} {f : Addr} (hi : instIn' H x = some (C, at_)) (hf : (methOf C).lookup m = some f) (hn : getAt m at_ = none) : methK H x m = some (.fn f) := by
  unfold methK
  rw [hi]
  dsimp only
  rw [hf, hn]
theorem set_get {H : List O} {i : Nat} {o p : O} (h : H[i]? = some o) : (H.set i p)[i]? = some p := by
  have := (List.getElem?_eq_some_iff.mp h).1
  simp -iota [this]
theorem set_set {H : List O} {i : Nat} {o p : O} : (H.set i o).set i p = H.set i p := by simp -iota
noncomputable def RetC (H : List O) (o : Res) : Option V → St → Prop := fun f s => rn (frzRet (f.getD .none)) s (fun b s => Res.ok b H = o ∧ ∃ ext, s.H = H ++ ext) fun k H' => Res.exc k H = o ∧ ∃ ext, H' = H ++ ext
noncomputable def ExcC (H : List O) (o : Res) : Addr → List O → Prop := fun k H' => Res.exc k H = o ∧ ∃ ext, H' = H ++ ext
theorem ctC_g {m : Nat} {ys : List Y} {us : List V} {H : List O} {o : Res} (hl : us.length = m) (h : rz φ ys ⟨fun j => us[j % 100]?, H⟩ (RetC H o) (ExcC H o)) : ctC φ m ys us H = some o :=
  ctC_of hl (by rw [rn_bind]; rw [rz_eq] at h; exact h)
theorem retC_ok {f : Option V} {H : List O} {o : Res} (ext : List O) (h : frzRet (f.getD .none) st = some (.ok v s1)) (ho : Res.ok v H = o) (hx : s1.H = H ++ ext) : RetC H o f st := by
  unfold RetC; rw [rn_ok h]; exact ⟨ho, ext, hx⟩
theorem c_isi {w : String} {b : Bool} (h : isInst v w = some b) : callV φ (.builtin "isinstance") [v, .fn (.type w)] st = some (.ok (.bool b) st) := by
  rw [show callV φ (.builtin "isinstance") [v, .fn (.type w)] = AM.look fun _ => (isInst v w).map .bool from rfl]
  exact lk (by rw [h]; rfl)
theorem ys_set (h : evX φ e st = some (.ok v s1)) : evYs φ k [.set i e] st = some (.ok .none (s1.put i v)) := by
  simp -iota only [evYs_e0, evYs_e1, evY_e2]
  exact (bd (z := (Option.none : Option V)) (s1 := s1.put i v) ((bd h).trans rfl)).trans rfl
theorem ys_set_e {kd : Addr} (h : evX φ e st = some (.exc kd s1)) : evYs φ k [.set i e] st = some (.exc kd s1) := by
  simp -iota only [evYs_e0, evYs_e1, evY_e2]
  exact bd_e (bd_e h)
theorem g_try_ok {b : List Y} {hs : List (Addr × X)} (h : evYs φ KF b st = some (.ok .none s1)) (h' : rz φ ys s1 P E) : rz φ (.tries b hs :: ys) st P E := by
  rw [rz_eq] at h' ⊢
  have : evY φ KF (.tries b hs) st = some (.ok .none s1) := by simp only [evY_e13, h]
  rw [ry_cons, rn_ok this]; exact h'
theorem g_try_e {b : List Y} {hs : List (Addr × X)} {kd : Addr} {p : Addr × X} (h : evYs φ KF b st = some (.exc kd s1)) (hf : (hs.find? fun p => (subOf kd).contains p.1) = some p) (hx : evX φ p.2 s1 = some (.ok v s2)) (h' : P (some v) s2) : rz φ (.tries b hs :: ys) st P E := by
  rw [rz_eq]
  have : evY φ KF (.tries b hs) st = some (.ok (some v) s2) := by
    have e : evY φ KF (.tries b hs) st = (AM.bind (evX φ p.2) fun v => AM.pure (some v)) s1 := by simp only [evY_e13, h, hf]
    rw [e, bd hx]; rfl
  rw [ry_cons, rn_ok this]; exact h'
theorem g_seti (h : evX φ e st = some (.ok v s1)) (ho : evX φ o s1 = some (.ok x s2)) (hi : evX φ a s2 = some (.ok y s3)) (hs : setiV x y v s3 = some (.ok () s4)) (h' : rz φ ys s4 P E) : rz φ (.seti o a e :: ys) st P E := by
  rw [rz_eq] at h' ⊢
  rw [ry_cons, ry_seti, rn_ok h, rn_ok ho, rn_ok hi, rn_ok hs]; exact h'
theorem d_seti {H : List O} {σ : Nat → Option V} {j n w : Nat} {b : List UInt8} (hj : H[j]? = some (.barr b)) (hk : n < b.length) (hw : w < 256) (hl : b.length ≤ 16777216) : setiV (.ref j) (.int n) (.int w) ⟨σ, H⟩ = some (.ok () ⟨σ, H.set j (.barr (b.set n w.toUInt8))⟩) := by
  unfold setiV
  simp only [hj]
  rw [if_pos ⟨by lia, by lia, by lia, by lia, hl⟩]
  rfl
noncomputable def RetE (H : List O) (R : V → Prop) : Option V → St → Prop := fun f s => rn (frzRet (f.getD .none)) s (fun b s => R b ∧ ∃ ext, s.H = H ++ ext) fun _ _ => False
noncomputable def NoE : Addr → List O → Prop := fun _ _ => False
theorem ctC_ex {m : Nat} {us : List V} {H : List O} {R : V → Prop} (hl : us.length = m) (h : rn (AM.bind (evYs φ KF ys) fun f => frzRet (f.getD .none)) ⟨fun j => us[j % 100]?, H⟩ (fun b s => R b ∧ ∃ ext, s.H = H ++ ext) fun _ _ => False) : ∃ b, ctC φ m ys us H = some (.ok b H) ∧ R b := by
  unfold ctC
  rw [if_pos hl]
  unfold rn at h
  unfold runU
  split at h
  · rename_i b s hv
    rw [hv]
    simp only [cutR]
    rw [if_pos h.2]
    exact ⟨b, rfl, h.1⟩
  · exact h.elim
  · exact h.elim
theorem ctC_x {m : Nat} {us : List V} {H : List O} {R : V → Prop} (hl : us.length = m) (h : rz φ ys ⟨fun j => us[j % 100]?, H⟩ (RetE H R) NoE) : ∃ b, ctC φ m ys us H = some (.ok b H) ∧ R b :=
  ctC_ex hl (by rw [rn_bind]; rw [rz_eq] at h; exact h)
theorem retE_ok {f : Option V} {H : List O} {R : V → Prop} (ext : List O) (h : frzRet (f.getD .none) st = some (.ok v s1)) (ho : R v) (hx : s1.H = H ++ ext) : RetE H R f st := by
  unfold RetE; rw [rn_ok h]; exact ⟨ho, ext, hx⟩
noncomputable def RetS (H : List O) (R : V → Prop) : Option V → St → Prop := fun f s => rn (frzRet (f.getD .none)) s (fun b s => R b ∧ s.H = H) fun _ _ => False
theorem ctR_x {m : Nat} {us : List V} {H : List O} {R : V → Prop} (hl : us.length = m) (h : rz φ ys ⟨fun j => us[j % 100]?, H⟩ (RetS H R) NoE) : ∃ b, ctR φ m ys [] us H = some (.ok b H) ∧ R b := by
  rw [rz_eq] at h
  have h : rn (AM.bind (evYs φ KF ys) fun f => frzRet (f.getD .none)) ⟨fun j => us[j % 100]?, H⟩ (fun b s => R b ∧ s.H = H) (fun _ _ => False) := by rw [rn_bind]; exact h
  unfold ctR
  rw [if_pos (by rw [List.length_nil]; exact hl), List.append_nil]
  unfold rn at h
  unfold runU
  split at h
  · rename_i b s hv
    rw [hv]
    dsimp only
    rw [h.2]
    exact ⟨b, rfl, h.1⟩
  · exact h.elim
  · exact h.elim
theorem retS_ok {f : Option V} {H : List O} {R : V → Prop} (h : frzRet (f.getD .none) st = some (.ok v s1)) (ho : R v) (hx : s1.H = H) : RetS H R f st := by
  unfold RetS; rw [rn_ok h]; exact ⟨ho, hx⟩
end
local macro_rules | `(tactic| lcg_sub) => `(tactic| (repeat' first
  | with_reducible first | exact x_val | apply x_loc | assumption | exact put_eq | apply put_ne | exact xs_nil | apply xs_cons | apply t_cmp | apply x_bin | apply x_item | apply x_attr | apply x_call | apply x_meth | apply x_call_e | apply x_meth_e | apply x_tup | apply x_slice | apply x_list | apply x_neg | exact xo_none | apply xo_some | apply t_and_t | exact t_and0 | apply t_ex | apply len_le | apply c_fn | apply c_fn_e | apply m_fn | apply m_fn_e | apply c_len | apply c_range | apply c_bytes | apply c_tuple | apply x_fstr | exact f_nil | apply f_cons | exact bv_add | exact bv_sub | exact av_add
  | with_reducible first | exact snk_p (by assumption) | exact cur_d (by assumption) (by assumption) | exact cur_a (by assumption) | exact mk_app (by assumption) | exact mk_ext (by assumption) | exact mk_lapp (by assumption) | exact d_bext (by assumption) (by assumption) | exact d_bapp (by assumption) (by assumption) | exact d_lapp (by assumption) (by assumption)
  | with_reducible first | exact c_lt_t (by assumption) | exact c_lt_f (by assumption) | exact c_ge_t (by assumption) | exact c_ge_f (by assumption) | exact c_eq_t (by assumption) | exact c_eq_t rfl | exact c_eq_f (by assumption) | exact c_gt_t (by assumption) | exact c_gt_f (by assumption) | exact c_le_t (by assumption) | exact c_le_f (by assumption) | exact c_ne_t (by assumption) | exact c_ne_f (by assumption)
  | exact (rfl : St.σ _ _ = _) | with_reducible apply puts_ne | exact (rfl : nin _ _ = _) | exact (rfl : Nat.beq _ _ = _) | exact (rfl : clsInit _ = _) | exact (rfl : List.lookup (α := Addr) (β := Ct) _ _ = _) | exact (rfl : frzAll _ _ = _) | with_reducible apply z_cons | exact (rfl : frzOne _ _ = _) | exact z_by (by with_reducible assumption) | exact (rfl : Nat.ble _ _ = _)))
noncomputable def le4 (n : Nat) : List UInt8 := [(n % 256).toUInt8, (n / 256 % 256).toUInt8, (n / 65536 % 256).toUInt8, (n / 16777216 % 256).toUInt8]
theorem ty_bytes {H : List O} {v : V} {b : List UInt8} (h : bytesIn H v = some b) (hz : b.length ≤ 16777216) : typeV H "bytes" [v] = some (.bytes b) := by
  unfold typeV
  rw [if_neg (show ¬ "bytes" = "range" by decide), if_pos rfl]
  rcases bytesIn_cases h with rfl | rfl | ⟨i, rfl, hi⟩
  · exact if_pos hz
  · exact if_pos hz
  · show (match bytesIn H (.ref i) with | some b => if b.length ≤ 16777216 then some (V.bytes b) else .none | .none => .none) = _
    rw [h]; exact if_pos hz
theorem tv_bytes {H : List O} {l : List V} (h : l.length ≤ 1000000) : typeV H "bytes" [.list l] = ((intsOf l).bind octets).map .bytes := by
  unfold typeV
  rw [if_neg (show ¬ "bytes" = "range" by decide), if_pos rfl]
  exact if_pos h
theorem oc_nil : octets [] = some [] := rfl
theorem oc_cons {n : Nat} {r : List Int} {b : List UInt8} (h : n < 256) (hr : octets r = some b) : octets ((n : Int) :: r) = some (n.toUInt8 :: b) := by
  rw [octets_e1, if_pos (by lia), hr]; rfl
theorem ty_one {H : List O} {n : Nat} (h : n < 256) : typeV H "bytes" [.list [.int n]] = some (.bytes [n.toUInt8]) :=
  (tv_bytes (len_le rfl)).trans (congrArg (fun o => Option.map V.bytes o) (oc_cons h oc_nil))
theorem and255 (n : Nat) : bitAnd (n : Int) 255 = (n : Int) % 256 := by
  have := bitAnd_nat n 255
  rw [show ((255 : Nat) : Int) = 255 from rfl] at this
  rw [this, show n &&& 255 = n % 256 from Nat.and_two_pow_sub_one_eq_mod n 8]
  norm_cast
theorem fdivn (n k : Nat) : (n : Int).fdiv (k : Int) = ((n / k : Nat) : Int) := by
  rw [Int.fdiv_eq_ediv_of_nonneg _ (by lia)]; norm_cast
theorem fmodn (n k : Nat) : (n : Int).fmod (k : Int) = ((n % k : Nat) : Int) := by
  rw [Int.fmod_eq_emod_of_nonneg _ (by omega)]; norm_cast
theorem by_ref {H : List O} {i : Nat} {b : List UInt8} (h : H[i]? = some (.barr b)) : bytesIn H (.ref i) = some b := by simp only [bytesIn, h]
theorem get_set {H r : List O} {o p : O} : ((H ++ o :: r).set H.length p)[H.length]? = some p := by rw [set_app]; exact get_app
noncomputable def WgI (n : Nat) (H : List O) (m : Nat) (st : St) : Prop := ∃ (x : Nat) (acc : List UInt8), st.σ 0 = some (.int x) ∧ st.σ 2 = some (.ref H.length) ∧ st.H = H ++ [.barr acc] ∧ acc ++ enc x = enc n ∧ x < 128 ^ (m + 1) ∧ acc.length + m ≤ 20
theorem av_shr7 {x : Nat} : augV .RShift (.int x) (.int 7) = some (.int (x / 128 : Nat)) := congrArg (fun i => some (V.int i)) (fdiv128 x)
theorem spec_write_groups {n most : Nat} {H : List O} (h : n ≤ most) (h2 : most < 2 ^ 64) : c_write_groups [.int n, .int most] H = some (.ok (.bytes (enc n)) H) := by
  have h' : ¬ ((most : Int) < n) := by lia
  have h0 : ¬ ((n : Int) < 0) := by lia
  refine ctC_g rfl (g_if_f (t_or_f (by lcg_sub) (t_or_f (by lcg_sub) t_or0)) (g_set (x_call xs_nil c_bar0) ?_))
  refine g_whl (WgI n H) 10 (by unfold KF; lia) ⟨n, [], rfl, rfl, rfl, rfl, Nat.lt_of_lt_of_le (Nat.lt_of_le_of_lt h h2) (by decide), by decide⟩ ?_
  rintro m ⟨σ, H'⟩ ⟨x, acc, e0, e2, e3, e4, e5, e6⟩
  obtain rfl : H' = _ := e3
  by_cases hx : x < 128
  · have hx' : ¬ ((128 : Int) ≤ x) := by lia
    rw [enc_small hx] at e4
    refine .inl ⟨_, by lcg_sub, g_expr (x_meth (x_loc e2) (mk_app get_app) (by lcg_sub) (d_bapp get_app ⟨by lia, by lia, by lia⟩)) ?_⟩
    refine g_ret (x_call (xs_cons (x_loc e2) xs_nil) (c_bytes (ty_bytes (by_ref get_set) ?_))) (retC_ok [.barr (enc n)] rfl ?_ ?_)
    · simp; lia
    · exact congrArg (fun z => Res.ok (.bytes z) H) e4
    · exact set_app.trans (congrArg (fun z => H ++ [O.barr z]) e4)
  · have hx' : ((128 : Int) ≤ x) := by lia
    rw [enc_big hx] at e4
    induction m using Nat.casesOn with
    | zero => exact absurd e5 (by omega)
    | succ m =>
      have v : binV (H ++ [O.barr acc]) .BitAnd (.int x) (.int 127) = some (.int ((x % 128 : Nat) : Int)) := congrArg (fun i => some (V.int i)) (and127 x)
      have v2 : binV (H ++ [O.barr acc]) .BitOr (.int (x % 128 : Nat)) (.int 128) = some (.int ((x % 128 + 128 : Nat) : Int)) := congrArg (fun i => some (V.int i)) (or128 _ (Nat.mod_lt _ (by decide)))
      refine .inr ⟨_, by lcg_sub, g_expr (x_meth (x_loc e2) (mk_app get_app) (by lcg_sub) (d_bapp get_app ⟨by lia, by lia, by lia⟩)) (g_aug e0 (by lcg_sub) av_shr7 (g_nil ?_))⟩
      refine ⟨m, Nat.lt_succ_self m, x / 128, acc ++ [(x % 128 + 128).toUInt8], rfl, e2, set_app, ?_, ?_, ?_⟩
      · rw [← e4, List.append_assoc]; rfl
      · rw [Nat.div_lt_iff_lt_mul (by decide)]; rw [Nat.pow_succ] at e5; exact e5
      · rw [List.length_append, List.length_singleton]; lia
theorem spec_put_varint {n : Nat} {H : List O} (h : n < 2 ^ 64) : c_put_varint [.int n] H = some (.ok (.bytes (enc n)) H) := by
  have h0 : (0 : Int) ≤ n := by lia
  refine ctR_g rfl ?_
  by_cases hx : n < 128
  · have hx' : (n : Int) < 128 := by lia
    have e := ty_one (H := H) (show n < 256 by lia)
    exact g_if_t (by lcg_sub) (g_ret (by lcg_sub) (ret_ok rfl (by rw [enc_small hx]; rfl)))
  · have hx' : ¬ ((n : Int) < 128) := by lia
    have e : c_write_groups [.int n, .int 18446744073709551615] H = _ := spec_write_groups (n := n) (most := 18446744073709551615) (H := H) (by lia) (by decide)
    exact g_if_f (t_and_t (by lcg_sub) (t_and_f (by lcg_sub))) (g_ret (by lcg_sub) (ret_ok rfl rfl))
theorem spec_put_varint32 {n : Nat} {H : List O} (h : n < 2 ^ 32) : c_put_varint32 [.int n] H = some (.ok (.bytes (enc n)) H) := by
  have h0 : (0 : Int) ≤ n := by lia
  refine ctR_g rfl ?_
  by_cases hx : n < 128
  · have hx' : (n : Int) < 128 := by lia
    have e := ty_one (H := H) (show n < 256 by lia)
    exact g_if_t (by lcg_sub) (g_ret (by lcg_sub) (ret_ok rfl (by rw [enc_small hx]; rfl)))
  · have hx' : ¬ ((n : Int) < 128) := by lia
    have e : c_write_groups [.int n, .int 4294967295] H = _ := spec_write_groups (n := n) (most := 4294967295) (H := H) (by lia) (by decide)
    exact g_if_f (t_and_t (by lcg_sub) (t_and_f (by lcg_sub))) (g_ret (by lcg_sub) (ret_ok rfl rfl))
theorem ty_four {H : List O} {a b c d : Nat} (ha : a < 256) (hb : b < 256) (hc : c < 256) (hd : d < 256) : typeV H "bytes" [.list [.int a, .int b, .int c, .int d]] = some (.bytes [a.toUInt8, b.toUInt8, c.toUInt8, d.toUInt8]) :=
  (tv_bytes (len_le rfl)).trans (congrArg (fun o => Option.map V.bytes o) (oc_cons ha (oc_cons hb (oc_cons hc (oc_cons hd oc_nil)))))
theorem bv_shr {H : List O} {x : Nat} (k : Nat) : binV H .RShift (.int x) (.int k) = some (.int (x / 2 ^ k : Nat)) := by
  have : binV H .RShift (.int x) (.int k) = if 0 ≤ (k : Int) then some (.int ((x : Int).fdiv (2 ^ (k : Int).toNat))) else .none := rfl
  rw [this, if_pos (by omega), Int.toNat_natCast, ← fdivn]; norm_cast
theorem bv_255 {H : List O} {x : Nat} : binV H .BitAnd (.int x) (.int 255) = some (.int (x % 256 : Nat)) := congrArg (fun i => some (V.int i)) ((and255 x).trans (by norm_cast))
theorem spec_put_fixed32 {n : Nat} {H : List O} (h : n < 2 ^ 32) : c_put_fixed32 [.int n] H = some (.ok (.bytes (le4 n)) H) := by
  have h0 : ¬ ((n : Int) < 0) := by lia
  have h1 : ¬ ((4294967295 : Int) < n) := by lia
  have f8 : binV H .RShift (.int n) (.int 8) = some (.int (n / 256 : Nat)) := bv_shr 8
  have f16 : binV H .RShift (.int n) (.int 16) = some (.int (n / 65536 : Nat)) := bv_shr 16
  have f24 : binV H .RShift (.int n) (.int 24) = some (.int (n / 16777216 % 256 : Nat)) := by rw [show n / 16777216 % 256 = n / 16777216 by lia]; exact bv_shr 24
  have e := ty_four (H := H) (a := n % 256) (b := n / 256 % 256) (c := n / 65536 % 256) (d := n / 16777216 % 256) (by lia) (by lia) (by lia) (by lia)
  have a1 := bv_255 (H := H) (x := n)
  have a2 := bv_255 (H := H) (x := n / 256)
  have a3 := bv_255 (H := H) (x := n / 65536)
  exact ctR_g rfl (g_if_f (t_or_f (by lcg_sub) (t_or_f (by lcg_sub) t_or0)) (g_ret (by lcg_sub) (ret_ok rfl rfl)))
theorem spec_Sink_init {i : Nat} {H : List O} (h : H[i]? = some (.inst 332 [])) : c_Sink_init [.ref i] H = some (.ok .none (H.set i (snk H.length) ++ [.barr []])) := by
  have hi : i < H.length := (List.getElem?_eq_some_iff.mp h).1
  have h' : (H ++ [O.barr []])[i]? = some (.inst 332 []) := by rw [List.getElem?_append_left hi]; exact h
  refine ctR_g rfl (g_seta (x_call xs_nil c_bar0) (x_loc rfl) (a_set h' rfl (by decide)) (g_nil (ret_ok rfl ?_)))
  exact congrArg (Res.ok .none) (List.set_append_left _ _ hi)
theorem spec_Sink_varint {i j n : Nat} {c : List UInt8} {H : List O} (h : H[i]? = some (snk j)) (hj : H[j]? = some (.barr c)) (hn : n < 2 ^ 64) (hc : c.length ≤ 900000) : c_Sink_varint [.ref i, .int n] H = some (.ok .none (H.set j (.barr (c ++ enc n)))) := by
  have h0 : (0 : Int) ≤ n := by lia
  refine ctR_g rfl ?_
  by_cases hx : n < 128
  · have hx' : (n : Int) < 128 := by lia
    have hb : 0 ≤ (n : Int) ∧ (n : Int) < 256 ∧ c.length ≤ 1000000 := by lia
    rw [enc_small hx]
    refine g_if_t (by lcg_sub) (g_expr (by lcg_sub) (g_nil ?_))
    exact ret_ok rfl rfl
  · have hx' : ¬ ((n : Int) < 128) := by lia
    have e := spec_put_varint (n := n) (H := H) hn
    have el : c.length + (enc n).length ≤ 1000000 := by have := enc_len2 9 n (Nat.lt_of_lt_of_le hn (by decide)); lia
    refine g_if_f (t_and_t (by lcg_sub) (t_and_f (by lcg_sub))) (g_expr (by lcg_sub) (g_nil ?_))
    exact ret_ok rfl rfl
theorem spec_Sink_fixed32 {i j n : Nat} {c : List UInt8} {H : List O} (h : H[i]? = some (snk j)) (hj : H[j]? = some (.barr c)) (hn : n < 2 ^ 32) (hc : c.length ≤ 900000) : c_Sink_fixed32 [.ref i, .int n] H = some (.ok .none (H.set j (.barr (c ++ le4 n)))) := by
  have e := spec_put_fixed32 (n := n) (H := H) hn
  have el : c.length + (le4 n).length ≤ 1000000 := Nat.le_trans (Nat.add_le_add_right hc _) (by decide : 900000 + 4 ≤ 1000000)
  refine ctR_g rfl (g_expr (by lcg_sub) (g_nil ?_))
  exact ret_ok rfl rfl
theorem bl_len {H : List O} {b : List UInt8} (h : b.length ≤ 16777216) : builtinV H "len" [.bytes b] = some (.int b.length) := by
  unfold builtinV
  rw [if_pos rfl]
  exact if_pos h
theorem spec_Sink_lengthed {i j : Nat} {c b : List UInt8} {H : List O} (h : H[i]? = some (snk j)) (hj : H[j]? = some (.barr c)) (hb : b.length ≤ 10000) (hc : c.length ≤ 900000) : c_Sink_lengthed [.ref i, .bytes b] H = some (.ok .none (H.set j (.barr (c ++ enc b.length ++ b)))) := by
  have e := spec_put_varint32 (n := b.length) (H := H) (by lia)
  have el := enc_len2 9 b.length (Nat.lt_of_le_of_lt hb (by decide))
  have hij : j ≠ i := fun q => by rw [← q, hj] at h; cases h
  have l1 : c.length + (enc b.length).length ≤ 1000000 := by lia
  have bl := bl_len (H := H) (b := b) (by lia)
  have h2 : (H.set j (O.barr (c ++ enc b.length)))[i]? = some (snk j) := by rw [List.getElem?_set_ne hij]; exact h
  have hj2 : (H.set j (O.barr (c ++ enc b.length)))[j]? = some (.barr (c ++ enc b.length)) := set_get hj
  have l2 : (c ++ enc b.length).length + b.length ≤ 1000000 := by rw [List.length_append]; lia
  refine ctR_g rfl (g_expr (by lcg_sub) (g_expr (by lcg_sub) (g_nil ?_)))
  exact ret_ok rfl (congrArg (Res.ok .none) set_set)
theorem spec_Sink_done {i j : Nat} {c : List UInt8} {H : List O} (h : H[i]? = some (snk j)) (hj : H[j]? = some (.barr c)) (hc : c.length ≤ 1000000) : c_Sink_done [.ref i] H = some (.ok (.bytes c) H) := by
  have tb := ty_bytes (by_ref hj) (by lia)
  refine ctR_g rfl (g_ret (by lcg_sub) ?_)
  exact ret_ok rfl rfl
noncomputable def gsc : Nat → List UInt8 → Except Nat (Nat × Nat)
  | 0, _ => .error 2
  | _ + 1, [] => .error 1
  | m + 1, x :: r => if x.toNat < 128 then .ok (x.toNat, 1) else match gsc m r with
    | .ok (n, k) => .ok (x.toNat % 128 + 128 * n, k + 1)
    | .error e => .error e
theorem gsc_e0 : gsc 0 r = .error 2 := rfl
theorem gsc_e1 : gsc (m + 1) [] = .error 1 := rfl
theorem gsc_e2 : gsc (m + 1) (x :: r) = if x.toNat < 128 then .ok (x.toNat, 1) else match gsc m r with
    | .ok (n, k) => .ok (x.toNat % 128 + 128 * n, k + 1)
    | .error e => .error e := rfl
noncomputable def exk (e : Nat) : Addr := if e = 1 then 68 else 56
theorem it_bytes {H : List O} {d : V} {b : List UInt8} {k : Nat} (h : bytesIn H d = some b) (hk : k < b.length) (hl : b.length ≤ 16777216) : itemV H d (.int k) = some (.int (b[k]).toNat) := by
  have e : 0 ≤ (k : Int) ∧ (k : Int) < 2 ^ 40 := by lia
  have e2 : (if b.length ≤ 16777216 then (b[(k : Int).toNat]?).map (fun x => V.int x.toNat) else .none) = some (V.int (b[k]).toNat) := by rw [if_pos hl, Int.toNat_natCast, List.getElem?_eq_getElem hk]; rfl
  unfold itemV
  dsimp only
  rw [if_pos e]
  rcases bytesIn_cases h with rfl | rfl | ⟨i, rfl, hi⟩
  · exact e2
  · exact e2
  · have n : listIn H (.ref i) = .none := by simp only [listIn, hi]
    dsimp only
    rw [n, h]; exact e2
theorem bl_bytes {H : List O} {d : V} {b : List UInt8} (h : bytesIn H d = some b) (hl : b.length ≤ 16777216) : builtinV H "len" [d] = some (.int b.length) := by
  unfold builtinV
  rw [if_pos rfl]
  rcases bytesIn_cases h with rfl | rfl | ⟨i, rfl, hi⟩
  · exact if_pos hl
  · exact if_pos hl
  · have n : listIn H (.ref i) = .none := by simp only [listIn, hi]
    show (match listIn H (.ref i) with | some l => if l.length ≤ 1000000 then some (V.int l.length) else .none | .none => match bytesIn H (.ref i) with | some b => if b.length ≤ 16777216 then some (V.int b.length) else .none | .none => .none) = _
    rw [n, h]; exact if_pos hl
theorem tv_range {H : List O} {n : Int} : typeV H "range" [.int n] = some (.rng 0 n 1) := by unfold typeV; rw [if_pos rfl]; rfl
theorem iv_rng {H : List O} {a b c : Int} (h : a.natAbs < 2 ^ 40 ∧ b.natAbs < 2 ^ 40 ∧ c.natAbs < 2 ^ 20 ∧ c ≠ 0) : itemsV H (.rng a b c) = some ((rngItems a b c).map .int) := by
  unfold itemsV; exact if_pos h
theorem rng_items (m : Nat) (h : m < 2 ^ 30) {H : List O} : itemsV H (.rng 0 m 1) = some ((List.range m).map fun (k : Nat) => V.int (k : Int)) := by
  have e : Builtin.Range.rangeSize 0 m 1 = m := by
    unfold Builtin.Range.rangeSize
    simp -iota
    intro h'; lia
  rw [iv_rng ⟨by decide, by omega, by decide, by decide⟩, rngItems, e]
  simp -iota
theorem bitOr_shift {n x i : Nat} (h : n < 2 ^ i) : bitOr (n : Int) ((x : Int) * 2 ^ i) = ((n + x * 2 ^ i : Nat) : Int) := by
  have e : (x : Int) * 2 ^ i = ((x * 2 ^ i : Nat) : Int) := by push_cast; rfl
  rw [e, bitOr_nat]
  congr 1
  rw [Nat.or_comm, Nat.mul_comm x, ← Nat.two_pow_add_eq_or_of_lt h x, Nat.add_comm]
noncomputable def RgI (d : V) (b : List UInt8) (a m most : Nat) (H : List O) (r : List V) (st : St) : Prop := ∃ (i acc : Nat), i + r.length = m ∧ st.σ 0 = some d ∧ st.σ 1 = some (.int (a + i)) ∧ st.σ 2 = some (.int m) ∧ st.σ 3 = some (.int most) ∧ st.σ 4 = some (.int acc) ∧ st.σ 5 = some (.int (7 * i : Nat)) ∧ acc < 2 ^ (7 * i) ∧ st.H = H ∧ a + i ≤ b.length ∧
    gsc m (b.drop a) = match gsc r.length (b.drop (a + i)) with | .ok (n, k) => .ok (acc + 2 ^ (7 * i) * n, i + k) | .error e => .error e
noncomputable def resG (H : List O) (a most : Nat) : Except Nat (Nat × Nat) → Res
  | .ok (n, k) => if n ≤ most then .ok (.tuple [.int n, .int (a + k : Nat)]) H else .exc 56 H
  | .error e => .exc (exk e) H
theorem rG_ok {H : List O} {a most n k : Nat} (h : n ≤ most) : resG H a most (.ok (n, k)) = .ok (.tuple [.int n, .int (a + k : Nat)]) H := if_pos h
theorem rG_x {H : List O} {a most n k : Nat} (h : ¬ n ≤ most) : resG H a most (.ok (n, k)) = .exc 56 H := if_neg h
theorem rg_lt {acc x i : Nat} (hacc : acc < 2 ^ (7 * i)) : acc + x % 128 * 2 ^ (7 * i) < 2 ^ (7 * (i + 1)) := by
  rw [Nat.mul_add, Nat.pow_add, Nat.mul_comm (2 ^ (7 * i))]
  have : x % 128 + 1 ≤ 128 := by lia
  calc acc + x % 128 * 2 ^ (7 * i) < (x % 128 + 1) * 2 ^ (7 * i) := by rw [Nat.add_mul]; lia
    _ ≤ 2 ^ (7 * 1) * 2 ^ (7 * i) := Nat.mul_le_mul_right _ this
theorem bv_shl {H : List O} {x k : Nat} (hx : x < 2 ^ 64) (hk : k ≤ 1000000) : binV H .LShift (.int x) (.int k) = some (.int ((x : Int) * 2 ^ k)) := if_pos ⟨by lia, by lia, by omega⟩
theorem bv_127 {H : List O} {x : Nat} : binV H .BitAnd (.int x) (.int 127) = some (.int (x % 128 : Nat)) := congrArg (fun i => some (V.int i)) (and127 x)
theorem av_shl {n x i : Nat} (h : n < 2 ^ i) : augV .BitOr (.int n) (.int ((x : Int) * 2 ^ i)) = some (.int (n + x * 2 ^ i : Nat)) := congrArg (fun i => some (V.int i)) (bitOr_shift h)
theorem rg_step {b : List UInt8} {a i acc q m : Nat} (hlt : a + i < b.length) (hx : ¬ (b[a + i]).toNat < 128) (hg : gsc m (b.drop a) = match gsc (q + 1) (b.drop (a + i)) with | .ok (n, k) => .ok (acc + 2 ^ (7 * i) * n, i + k) | .error e => .error e) :
    gsc m (b.drop a) = match gsc q (b.drop (a + (i + 1))) with | .ok (n, k) => .ok (acc + (b[a + i]).toNat % 128 * 2 ^ (7 * i) + 2 ^ (7 * (i + 1)) * n, i + 1 + k) | .error e => .error e := by
  rw [hg, List.drop_eq_getElem_cons hlt, gsc_e2, if_neg hx]
  show _ = match gsc q (b.drop (a + i + 1)) with | .ok (n, k) => _ | .error e => _
  cases gsc q (b.drop (a + i + 1)) with
  | error e => rfl
  | ok p =>
    show Except.ok _ = Except.ok _
    rw [Nat.mul_add 7, Nat.pow_add, Nat.mul_add, Nat.mul_comm ((b[a + i]).toNat % 128), Nat.mul_assoc, Nat.add_assoc, Nat.add_assoc, Nat.add_comm 1]
theorem rg_done {b : List UInt8} {a i acc q m : Nat} (hlt : a + i < b.length) (hx : (b[a + i]).toNat < 128) (hg : gsc m (b.drop a) = match gsc (q + 1) (b.drop (a + i)) with | .ok (n, k) => .ok (acc + 2 ^ (7 * i) * n, i + k) | .error e => .error e) :
    gsc m (b.drop a) = .ok (acc + (b[a + i]).toNat % 128 * 2 ^ (7 * i), i + 1) := by
  rw [hg, List.drop_eq_getElem_cons hlt, gsc_e2, if_pos hx, Nat.mod_eq_of_lt hx, Nat.mul_comm (b[a + i]).toNat]
theorem spec_read_groups {H : List O} {d : V} {b : List UInt8} {a m most : Nat} (hb : bytesIn H d = some b) (hl : b.length ≤ 100000) (ha : a ≤ b.length) (hm : m ≤ 10) (hmo : most < 2 ^ 64) : c_read_groups [d, .int a, .int m, .int most] H = some (resG H a most (gsc m (b.drop a))) := by
  have h0 : ¬ ((a : Int) < 0) := by lia
  have tr : typeV H "range" [.int m] = some (.rng 0 m 1) := tv_range
  refine ctR_g rfl (g_if_f (by lcg_sub) (g_set x_val (g_set x_val ?_)))
  refine g_for (RgI d b a m most H) (by lcg_sub) (rng_items m (by lia)) ⟨0, 0, by simp, rfl, rfl, rfl, rfl, rfl, rfl, by decide, rfl, ha, ?_⟩ ?_ ?_
  · simp -iota only [List.length_map, List.length_range, Nat.add_zero, Nat.mul_zero, Nat.pow_zero, Nat.one_mul, Nat.zero_add]
    cases gsc m (b.drop a) <;> rfl
  · rintro s ⟨i, acc, e1, s0, s1, s2, s3, s4, s5, hacc, sH, hai, hg⟩
    have g : (m : Int).natAbs < 10 ^ 100 := Nat.lt_of_le_of_lt hm (by decide)
    refine g_raise (by lcg_sub) ?_
    rw [show gsc m (b.drop a) = .error 2 from hg, sH]; exact rfl
  · rintro v r ⟨σ, H'⟩ ⟨i, acc, e1, s0, s1, s2, s3, s4, s5, hacc, sH, hai, hg⟩
    obtain rfl : H' = _ := sH
    have ebl := bl_bytes hb (show b.length ≤ 16777216 by lia)
    by_cases hx : b.length ≤ a + i
    · have h1 : ((b.length : Int) ≤ a + i) := by lia
      refine g_if_t (by lcg_sub) (g_raise_s (by decide) x_val ?_)
      rw [hg, show b.drop (a + i) = [] from List.drop_eq_nil_of_le hx]; exact rfl
    · have h1 : ¬ ((b.length : Int) ≤ a + i) := by lia
      have hlt : a + i < b.length := by lia
      have eit : itemV H' d (.int (a + i)) = _ := it_bytes hb hlt (by omega)
      have hi : i ≤ 9 := by rw [List.length_cons] at e1; lia
      have hA2 := rg_lt (x := (b[a + i]).toNat) hacc
      have eLS : binV H' .LShift (.int ((b[a + i]).toNat % 128 : Nat)) (.int (7 * i : Nat)) = _ := bv_shl (by lia) (by lia)
      have e7 := bv_127 (H := H') (x := (b[a + i]).toNat)
      have eOR := av_shl (x := (b[a + i]).toNat % 128) hacc
      refine g_if_f (by lcg_sub) (g_set (by lcg_sub) (g_aug (by lcg_sub) x_val av_add (g_aug (by lcg_sub) (by lcg_sub) eOR ?_)))
      by_cases hxs : (b[a + i]).toNat < 128
      · have hxs' : (((b[a + i]).toNat : Int) < 128) := by lia
        refine g_if_t (by lcg_sub) ?_
        rw [rg_done hlt hxs hg]
        generalize acc + (b[a + i]).toNat % 128 * 2 ^ (7 * i) = A at *
        by_cases hb' : A ≤ most
        · have hb2 : ¬ ((most : Int) < A) := by lia
          rw [rG_ok hb']
          refine g_if_f (by lcg_sub) (g_ret (by lcg_sub) (ret_ok rfl ?_))
          rfl
        · have hb2 : ((most : Int) < A) := by lia
          have hA3 : (A : Int).natAbs < 10 ^ 100 := Nat.lt_of_lt_of_le hA2 (Nat.le_trans (Nat.pow_le_pow_right (by decide) (show 7 * (i + 1) ≤ 77 by lia)) (by decide))
          have hmo3 : (most : Int).natAbs < 10 ^ 100 := Nat.lt_trans hmo (by decide)
          rw [rG_x hb']
          refine g_if_t (by lcg_sub) (g_raise (by lcg_sub) ?_)
          exact rfl
      · have hxs' : ¬ (((b[a + i]).toNat : Int) < 128) := by lia
        refine g_if_f (by lcg_sub) (g_aug (by lcg_sub) x_val av_add (g_nil ?_))
        refine ⟨i + 1, acc + (b[a + i]).toNat % 128 * 2 ^ (7 * i), by rw [List.length_cons] at e1; lia, s0, ?_, s2, s3, rfl, ?_, hA2, rfl, hlt, rg_step hlt hxs hg⟩
        · exact congrArg (fun i => some (V.int i)) (by lia : (a : Int) + i + 1 = a + (i + 1 : Nat))
        · exact congrArg (fun i => some (V.int i)) (by lia : ((7 * i : Nat) : Int) + 7 = (7 * (i + 1) : Nat))
noncomputable abbrev M64 : Nat := 18446744073709551615
noncomputable abbrev M32 : Nat := 4294967295
noncomputable def num (b : List UInt8) (a m most : Nat) : Except Nat (Nat × Nat) := match gsc m (b.drop a) with
  | .ok (n, k) => if n ≤ most then .ok (n, a + k) else .error 2
  | .error e => .error e
noncomputable def resT (H : List O) : Except Nat (Nat × Nat) → Res
  | .ok (n, a) => .ok (.tuple [.int n, .int a]) H
  | .error e => .exc (exk e) H
theorem spec_groups {H : List O} {d : V} {b : List UInt8} {a m most : Nat} (hb : bytesIn H d = some b) (hl : b.length ≤ 100000) (ha : a ≤ b.length) (hm : m ≤ 10) (hmo : most < 2 ^ 64) : c_read_groups [d, .int a, .int m, .int most] H = some (resT H (num b a m most)) := by
  rw [spec_read_groups hb hl ha hm hmo]
  unfold num
  cases gsc m (b.drop a) with
  | error e => rfl
  | ok p =>
    obtain ⟨n, k⟩ := p
    dsimp only
    by_cases h : n ≤ most
    · rw [rG_ok h, if_pos h]; rfl
    · rw [rG_x h, if_neg h]; rfl
theorem num_fast {b : List UInt8} {a m most : Nat} (h : a < b.length) (hx : (b[a]).toNat < 128) (hm : 127 ≤ most) : num b a (m + 1) most = .ok ((b[a]).toNat, a + 1) := by
  unfold num
  rw [List.drop_eq_getElem_cons h]
  simp only [gsc_e2, if_pos hx]
  rw [if_pos (by lia)]
noncomputable def BD (H : List O) (d : V) (b : List UInt8) : Prop := d = .bytes b ∨ ∃ i, d = .ref i ∧ H[i]? = some (.barr b)
theorem BD.by {H : List O} {d : V} {b : List UInt8} (h : BD H d b) : bytesIn H d = some b := by
  rcases h with rfl | ⟨i, rfl, h⟩
  · rfl
  · simp [bytesIn, h]
theorem BD.set {H : List O} {d : V} {b : List UInt8} {i : Nat} {C : Addr} {at_ : List (Str × V)} {o : O} (h : BD H d b) (hi : H[i]? = some (.inst C at_)) : BD (H.set i o) d b := by
  rcases h with rfl | ⟨j, rfl, h⟩
  · exact .inl rfl
  · have : i ≠ j := fun q => by rw [q, h] at hi; cases hi
    exact .inr ⟨j, rfl, by rw [List.getElem?_set_ne this]; exact h⟩
theorem BD.app {H r : List O} {d : V} {b : List UInt8} (h : BD H d b) : BD (H ++ r) d b := by
  rcases h with rfl | ⟨j, rfl, h⟩
  · exact .inl rfl
  · exact .inr ⟨j, rfl, by rw [List.getElem?_append_left (List.getElem?_eq_some_iff.mp h).1]; exact h⟩
theorem BD.nf {H : List O} {d : V} {b : List UInt8} (h : BD H d b) : ∀ f, d ≠ .fn f := fun f q => by
  rcases h with rfl | ⟨j, rfl, h⟩ <;> cases q
noncomputable def rvT : T := .bool .And [(.cmp .GtE (.loc 1) (.val (.int 0))), (.cmp .Lt (.loc 1) (.call (.builtin "len") [(.loc 0)])), (.cmp .Lt (.item (.loc 0) (.loc 1)) (.val (.int 128)))]
theorem rv_test {φ : Tab} {st : St} {d : V} {b : List UInt8} {a : Nat} (hb : bytesIn st.H d = some b) (hl : b.length ≤ 100000) (s0 : st.σ 0 = some d) (s1 : st.σ 1 = some (.int a)) :
    (evT φ rvT st = some (.ok true st) ∧ ∃ hx : a < b.length, (b[a]).toNat < 128) ∨ evT φ rvT st = some (.ok false st) := by
  have h0 : (0 : Int) ≤ a := by lia
  have ebl := bl_bytes hb (show b.length ≤ 16777216 by lia)
  by_cases hx : a < b.length
  · have h1 : ((a : Int) < b.length) := by lia
    have eit := it_bytes hb hx (by omega)
    by_cases hx2 : (b[a]).toNat < 128
    · have h2 : (((b[a]).toNat : Int) < 128) := by omega
      exact .inl ⟨t_and_t (by lcg_sub) (t_and_t (by lcg_sub) (by lcg_sub)), hx, hx2⟩
    · have h2 : ¬ (((b[a]).toNat : Int) < 128) := by omega
      exact .inr (t_and_t (by lcg_sub) (t_and_t (by lcg_sub) (t_and_f (by lcg_sub))))
  · have h1 : ¬ ((a : Int) < b.length) := by lia
    exact .inr (t_and_t (by lcg_sub) (t_and_f (by lcg_sub)))
theorem spec_read_varint {H : List O} {d : V} {b : List UInt8} {a : Nat} (h : BD H d b) (hl : b.length ≤ 100000) (ha : a ≤ b.length) : c_read_varint [d, .int a] H = some (resT H (num b a 10 M64)) := by
  have hb := h.by
  have e : c_read_groups [d, .int a, .int 10, .int 18446744073709551615] H = _ := spec_groups (m := 10) (most := M64) hb hl ha (by decide) (by decide)
  refine ctR_g rfl ?_
  rcases rv_test (φ := p5) (st := ⟨fun j => ([d, .int a] ++ [])[j % 100]?, H⟩) hb hl rfl rfl with ⟨ht, hx, hx2⟩ | ht
  · have eit := it_bytes hb hx (by lia)
    rw [num_fast hx hx2 (by decide)]
    refine g_if_t ht (g_ret (by lcg_sub) ?_)
    exact ret_ok rfl rfl
  · refine g_if_f ht ?_
    cases hn : num b a 10 M64 with
    | error q =>
      rw [hn] at e
      replace e : _ = some (Res.exc (exk q) H) := e
      refine g_ret_e (by lcg_sub) ?_
      exact rfl
    | ok p =>
      rw [hn] at e
      replace e : _ = some (Res.ok _ H) := e
      refine g_ret (by lcg_sub) ?_
      exact ret_ok rfl rfl
theorem spec_read_varint32 {H : List O} {d : V} {b : List UInt8} {a : Nat} (h : BD H d b) (hl : b.length ≤ 100000) (ha : a ≤ b.length) : c_read_varint32 [d, .int a] H = some (resT H (num b a 5 M32)) := by
  have hb := h.by
  have e : c_read_groups [d, .int a, .int 5, .int 4294967295] H = _ := spec_groups (m := 5) (most := M32) hb hl ha (by decide) (by decide)
  refine ctR_g rfl ?_
  rcases rv_test (φ := p6) (st := ⟨fun j => ([d, .int a] ++ [])[j % 100]?, H⟩) hb hl rfl rfl with ⟨ht, hx, hx2⟩ | ht
  · have eit := it_bytes hb hx (by omega)
    rw [num_fast hx hx2 (by decide)]
    refine g_if_t ht (g_ret (by lcg_sub) ?_)
    exact ret_ok rfl rfl
  · refine g_if_f ht ?_
    cases hn : num b a 5 M32 with
    | error q =>
      rw [hn] at e
      replace e : _ = some (Res.exc (exk q) H) := e
      refine g_ret_e (by lcg_sub) ?_
      exact rfl
    | ok p =>
      rw [hn] at e
      replace e : _ = some (Res.ok _ H) := e
      refine g_ret (by lcg_sub) ?_
      exact ret_ok rfl rfl
noncomputable def le4v (b : List UInt8) : Nat := match b with
  | x :: y :: z :: w :: _ => x.toNat + y.toNat * 256 + z.toNat * 65536 + w.toNat * 16777216
  | _ => 0
theorem le4v_c {x y z w : UInt8} {r : List UInt8} : le4v (x :: y :: z :: w :: r) = x.toNat + y.toNat * 256 + z.toNat * 65536 + w.toNat * 16777216 := rfl
noncomputable def rdX (b : List UInt8) (a : Nat) : Except Nat (Nat × Nat) := if a + 4 ≤ b.length then .ok (le4v (b.drop a), a + 4) else .error 1
theorem drop4 {b : List UInt8} {a : Nat} (h : a + 4 ≤ b.length) : b.drop a = b[a] :: b[a + 1] :: b[a + 2] :: b[a + 3] :: b.drop (a + 4) := by
  rw [List.drop_eq_getElem_cons (by omega), List.drop_eq_getElem_cons (by omega), List.drop_eq_getElem_cons (by lia), List.drop_eq_getElem_cons (by lia)]
theorem bv_or_shl {H : List O} {n x i : Nat} (h : n < 2 ^ i) : binV H .BitOr (.int n) (.int ((x : Int) * 2 ^ i)) = some (.int (n + x * 2 ^ i : Nat)) := congrArg (fun i => some (V.int i)) (bitOr_shift h)
theorem spec_read_fixed32 {H : List O} {d : V} {b : List UInt8} {a : Nat} (h : BD H d b) (hl : b.length ≤ 100000) (ha : a ≤ b.length) : c_read_fixed32 [d, .int a] H = some (match rdX b a with | .ok (n, _) => .ok (.int n) H | .error e => .exc (exk e) H) := by
  have hb := h.by
  have h0 : ¬ ((a : Int) < 0) := by lia
  have ebl := bl_bytes hb (show b.length ≤ 16777216 by omega)
  unfold rdX
  by_cases hx : a + 4 ≤ b.length
  · have h1 : ¬ ((b.length : Int) < a + 4) := by lia
    rw [if_pos hx, drop4 hx]
    have e0 := it_bytes hb (show a < b.length by omega) (by omega)
    have e1 : itemV H d (.int ((a : Int) + 1)) = _ := it_bytes hb (show a + 1 < b.length by omega) (by omega)
    have e2 : itemV H d (.int ((a : Int) + 2)) = _ := it_bytes hb (show a + 2 < b.length by omega) (by omega)
    have e3 : itemV H d (.int ((a : Int) + 3)) = _ := it_bytes hb (show a + 3 < b.length by lia) (by omega)
    have x0 := (b[a]).toNat_lt
    have x1 := (b[a + 1]).toNat_lt
    have x2 := (b[a + 2]).toNat_lt
    have x3 := (b[a + 3]).toNat_lt
    show _ = some (Res.ok (.int ((b[a]).toNat + (b[a + 1]).toNat * 2 ^ 8 + (b[a + 2]).toNat * 2 ^ 16 + (b[a + 3]).toNat * 2 ^ 24 : Nat)) H)
    generalize (b[a]).toNat = q0 at *
    generalize (b[a + 1]).toNat = q1 at *
    generalize (b[a + 2]).toNat = q2 at *
    generalize (b[a + 3]).toNat = q3 at *
    have s1 : binV H .LShift (.int q1) (.int 8) = _ := bv_shl (H := H) (x := q1) (k := 8) (by lia) (by decide)
    have s2 : binV H .LShift (.int q2) (.int 16) = _ := bv_shl (H := H) (x := q2) (k := 16) (by lia) (by decide)
    have s3 : binV H .LShift (.int q3) (.int 24) = _ := bv_shl (H := H) (x := q3) (k := 24) (by lia) (by decide)
    have o1 := bv_or_shl (H := H) (n := q0) (x := q1) (i := 8) (by omega)
    have o2 := bv_or_shl (H := H) (n := q0 + q1 * 2 ^ 8) (x := q2) (i := 16) (by lia)
    have o3 := bv_or_shl (H := H) (n := q0 + q1 * 2 ^ 8 + q2 * 2 ^ 16) (x := q3) (i := 24) (by lia)
    refine ctR_g rfl (g_if_f (t_or_f (by lcg_sub) (t_or_f (by lcg_sub) t_or0)) (g_ret (by lcg_sub) ?_))
    exact ret_ok rfl rfl
  · have h1 : ((b.length : Int) < a + 4) := by lia
    have ha3 : (a : Int).natAbs < 10 ^ 100 := Nat.lt_of_le_of_lt (show (a : Int).natAbs ≤ 100000 by lia) (by decide)
    rw [if_neg hx]
    refine ctR_g rfl (g_if_t (t_or_f (by lcg_sub) (t_or_t (by lcg_sub))) (g_raise (by lcg_sub) ?_))
    exact rfl
theorem gsc_k : ∀ {m : Nat} {l : List UInt8} {n k : Nat}, gsc m l = .ok (n, k) → k ≤ l.length ∧ 0 < k ∧ k ≤ m
  | 0, _, _, _, h => by cases h
  | m + 1, [], _, _, h => by cases h
  | m + 1, x :: r, n, k, h => by
    simp only [gsc_e2] at h
    split at h
    · cases h; simp
    · split at h
      · rename_i n' k' h'
        cases h
        have := gsc_k h'
        simp; lia
      · cases h
theorem num_at {b : List UInt8} {a m most n a' : Nat} (h : num b a m most = .ok (n, a')) (ha : a ≤ b.length) : a' ≤ b.length ∧ a < a' ∧ n ≤ most := by
  unfold num at h
  split at h
  · rename_i n' k' h'
    split at h
    · cases h
      have := gsc_k h'
      rw [List.length_drop] at this
      omega
    · cases h
  · cases h
noncomputable def rdT (b : List UInt8) (a : Nat) : Except Nat (List UInt8 × Nat) := match num b a 5 M32 with
  | .ok (n, a') => if a' + n ≤ b.length then .ok ((b.drop a').take n, a' + n) else .error 1
  | .error e => .error e
theorem part_ok {k : Int} (h1 : 0 ≤ k) (h2 : k < 1000000) : partOf (some (.int k)) = some (some k) := by
  have h3 : -(2 ^ 40) ≤ k := by lia
  have h4 : k < 2 ^ 40 := by lia
  unfold partOf
  exact if_pos ⟨h3, h4⟩
theorem clip_ok {n a : Nat} (h : a ≤ n) : clip n (a : Int) = a := by unfold clip; rw [if_neg (by lia)]; lia
theorem cut_ok {b : List UInt8} {a n : Nat} (han : a + n ≤ b.length) : cutL b (some (a : Int)) (some ((a : Int) + n)) = (b.drop a).take n := by
  have c1 : clip b.length (a : Int) = a := clip_ok (by lia)
  have c2 : clip b.length ((a : Int) + n) = a + n := clip_ok (a := a + n) (by omega)
  unfold cutL
  show (b.drop (clip b.length (a : Int))).take (clip b.length ((a : Int) + n) - clip b.length (a : Int)) = _
  rw [c1, c2, Nat.add_sub_cancel_left]
theorem sl_two {H : List O} {b : List UInt8} {l u : Option V} {l' u' : Option Int} (h1 : partOf l = some l') (h2 : partOf u = some u') (hz : b.length ≤ 16777216) : sliceV H (.bytes b) l u = some (.bytes (cutL b l' u')) := by
  unfold sliceV
  rw [h1, h2]
  exact if_pos hz
theorem sl_bar {H : List O} {b : List UInt8} {i : Nat} {l u : Option V} {l' u' : Option Int} (hi : H[i]? = some (.barr b)) (h1 : partOf l = some l') (h2 : partOf u = some u') (hz : b.length ≤ 16777216) : sliceV H (.ref i) l u = some (.bar (cutL b l' u')) := by
  unfold sliceV
  rw [h1, h2]
  dsimp only
  rw [hi]
  exact if_pos hz
theorem sl_bytes {H : List O} {d : V} {b : List UInt8} {a n : Nat} (h : BD H d b) (hl : b.length ≤ 100000) (han : a + n ≤ b.length) : ∃ v, sliceV H d (some (.int (a : Nat))) (some (.int ((a : Int) + n))) = some v ∧ bytesIn H v = some ((b.drop a).take n) := by
  have p1 := part_ok (k := (a : Int)) (by lia) (by lia)
  have p2 := part_ok (k := (a : Int) + n) (by lia) (by lia)
  have e := cut_ok han
  rcases h with rfl | ⟨i, rfl, hi⟩
  · exact ⟨_, sl_two p1 p2 (by lia), by rw [e]; rfl⟩
  · exact ⟨_, sl_bar hi p1 p2 (by omega), by rw [e]; rfl⟩
theorem spec_read_lengthed {H : List O} {d : V} {b : List UInt8} {a : Nat} (h : BD H d b) (hl : b.length ≤ 100000) (ha : a ≤ b.length) : c_read_lengthed [d, .int a] H = some (match rdT b a with | .ok (x, a') => .ok (.tuple [.bytes x, .int a']) H | .error e => .exc (exk e) H) := by
  have hb := h.by
  have e := spec_read_varint32 h hl ha
  have ebl := bl_bytes hb (show b.length ≤ 16777216 by lia)
  unfold rdT
  refine ctR_g rfl ?_
  cases hn : num b a 5 M32 with
  | error q =>
    rw [hn] at e
    replace e : _ = some (Res.exc (exk q) H) := e
    refine g_unp_e (by lcg_sub) ?_
    exact rfl
  | ok p =>
    obtain ⟨n, a'⟩ := p
    rw [hn] at e
    replace e : _ = some (Res.ok (.tuple [.int n, .int a']) H) := e
    obtain ⟨q1, q2, q3⟩ := num_at hn ha
    refine g_unp (by lcg_sub) rfl rfl ?_
    dsimp only
    by_cases hx : a' + n ≤ b.length
    · have h1 : ¬ ((b.length : Int) < a' + n) := by lia
      obtain ⟨v, ev, bv⟩ := sl_bytes h hl hx
      have tb := ty_bytes bv (by simp; omega)
      rw [if_pos hx]
      refine g_if_f (by lcg_sub) (g_ret (by lcg_sub) ?_)
      exact ret_ok rfl rfl
    · have h1 : ((b.length : Int) < a' + n) := by lia
      have g1 : (n : Int).natAbs < 10 ^ 100 := Nat.lt_of_le_of_lt (show (n : Int).natAbs ≤ M32 by omega) (by decide)
      have g2 : ((b.length : Int) - a').natAbs < 10 ^ 100 := Nat.lt_of_le_of_lt (show ((b.length : Int) - a').natAbs ≤ 100000 by omega) (by decide)
      rw [if_neg hx]
      refine g_if_t (by lcg_sub) (g_raise (by lcg_sub) ?_)
      exact rfl
theorem spec_Cursor_init {H : List O} {d : V} {b : List UInt8} {i : Nat} (h : BD H d b) (hl : b.length ≤ 100000) (hi : H[i]? = some (.inst 255 [])) : c_Cursor_init [.ref i, d] H = some (.ok .none (H.set i (cur d 0))) := by
  have hb := h.by
  have h0 : ¬ ((0 : Int) < 0) := by decide
  have h1 : ¬ ((b.length : Int) < 0) := by omega
  have ebl := bl_bytes hb (show b.length ≤ 16777216 by omega)
  refine ctR_g rfl (g_if_f (t_or_f (by lcg_sub) (t_or_f (by lcg_sub) t_or0)) (g_seta (by lcg_sub) (x_loc rfl) (a_set hi rfl (by decide)) (g_seta (by lcg_sub) (x_loc rfl) (a_set (set_get hi) rfl (by decide)) (g_nil ?_))))
  refine ret_ok rfl (congrArg (Res.ok .none) (set_set.trans (congrArg (fun z => H.set i (O.inst 255 z)) ?_)))
  simp [putAt_e0, putAt_e1, at_data]
theorem spec_Cursor_left {H : List O} {d : V} {b : List UInt8} {i a : Nat} (h : BD H d b) (hl : b.length ≤ 100000) (hi : H[i]? = some (cur d a)) : c_Cursor_left [.ref i] H = some (.ok (.int ((b.length : Int) - a)) H) := by
  have hn := h.nf
  have ebl := bl_bytes h.by (show b.length ≤ 16777216 by omega)
  exact ctR_g rfl (g_ret (by lcg_sub) (ret_ok rfl rfl))
theorem spec_Cursor_varint {H : List O} {d : V} {b : List UInt8} {i a : Nat} (h : BD H d b) (hl : b.length ≤ 100000) (ha : a ≤ b.length) (hi : H[i]? = some (cur d a)) : c_Cursor_varint [.ref i] H = some (match num b a 10 M64 with | .ok (n, a') => .ok (.int n) (H.set i (cur d a')) | .error e => .exc (exk e) H) := by
  have hb := h.by
  have hn := h.nf
  have e := spec_read_varint h hl ha
  have ebl := bl_bytes hb (show b.length ≤ 16777216 by omega)
  refine ctR_g rfl (g_set (by lcg_sub) ?_)
  have rest : ∀ st : St, st.H = H → st.σ 0 = some (.ref i) → st.σ 1 = some (.int a) → rz p12 (y_Cursor_varint.drop 2) st (RetR (match num b a 10 M64 with | .ok (n, a') => .ok (.int n) (H.set i (cur d a')) | .error e => .exc (exk e) H)) (ExcR (match num b a 10 M64 with | .ok (n, a') => .ok (.int n) (H.set i (cur d a')) | .error e => .exc (exk e) H)) := by
    rintro ⟨σ, H'⟩ hH s0 s1
    obtain rfl : H' = H := hH
    cases hq : num b a 10 M64 with
    | error q =>
      rw [hq] at e
      replace e : _ = some (Res.exc (exk q) H') := e
      refine g_unp_e (by lcg_sub) ?_
      exact rfl
    | ok p =>
      obtain ⟨n, a'⟩ := p
      rw [hq] at e
      replace e : _ = some (Res.ok (.tuple [.int n, .int a']) H') := e
      exact g_unp (by lcg_sub) rfl rfl (g_seta (by lcg_sub) (by lcg_sub) (cur_s hi) (g_ret (by lcg_sub) (ret_ok rfl rfl)))
  by_cases hx : a < b.length
  · have h1 : ((a : Int) < b.length) := by omega
    have eit := it_bytes hb hx (by omega)
    by_cases hx2 : (b[a]).toNat < 128
    · have h2 : (((b[a]).toNat : Int) < 128) := by omega
      have eit2 := it_bytes (h.set (o := cur d (a + 1)) hi).by hx (by omega)
      have hi2 := set_get (p := cur d (a + 1)) hi
      rw [num_fast hx hx2 (by decide)]
      refine g_if_t (by lcg_sub) (g_seta (v := .int ((a : Int) + 1)) (by lcg_sub) (by lcg_sub) (cur_s (n := a + 1) hi) (g_ret (by lcg_sub) ?_))
      exact ret_ok rfl rfl
    · have h2 : ¬ (((b[a]).toNat : Int) < 128) := by omega
      exact g_if_f (t_and_t (by lcg_sub) (t_and_f (by lcg_sub))) (rest _ rfl rfl rfl)
  · have h1 : ¬ ((a : Int) < b.length) := by omega
    exact g_if_f (t_and_f (by lcg_sub)) (rest _ rfl rfl rfl)
theorem spec_Cursor_fixed32 {H : List O} {d : V} {b : List UInt8} {i a : Nat} (h : BD H d b) (hl : b.length ≤ 100000) (ha : a ≤ b.length) (hi : H[i]? = some (cur d a)) : c_Cursor_fixed32 [.ref i] H = some (match rdX b a with | .ok (n, a') => .ok (.int n) (H.set i (cur d a')) | .error e => .exc (exk e) H) := by
  have hb := h.by
  have hn := h.nf
  have e := spec_read_fixed32 h hl ha
  unfold rdX at e ⊢
  refine ctR_g rfl ?_
  by_cases hx : a + 4 ≤ b.length
  · rw [if_pos hx] at e ⊢
    replace e : _ = some (Res.ok _ H) := e
    exact g_set (by lcg_sub) (g_auga (by lcg_sub) (by lcg_sub) (by lcg_sub) av_add (cur_s (n := a + 4) hi) (g_ret (by lcg_sub) (ret_ok rfl rfl)))
  · rw [if_neg hx] at e ⊢
    replace e : _ = some (Res.exc 68 H) := e
    refine g_set_e (by lcg_sub) ?_
    exact rfl
theorem spec_Cursor_lengthed {H : List O} {d : V} {b : List UInt8} {i a : Nat} (h : BD H d b) (hl : b.length ≤ 100000) (ha : a ≤ b.length) (hi : H[i]? = some (cur d a)) : c_Cursor_lengthed [.ref i] H = some (match rdT b a with | .ok (x, a') => .ok (.bytes x) (H.set i (cur d a')) | .error e => .exc (exk e) H) := by
  have hb := h.by
  have hn := h.nf
  have e := spec_read_lengthed h hl ha
  refine ctR_g rfl ?_
  cases hq : rdT b a with
  | error q =>
    rw [hq] at e
    replace e : _ = some (Res.exc (exk q) H) := e
    refine g_unp_e (by lcg_sub) ?_
    exact rfl
  | ok p =>
    obtain ⟨x, a'⟩ := p
    rw [hq] at e
    replace e : _ = some (Res.ok (.tuple [.bytes x, .int a']) H) := e
    exact g_unp (by lcg_sub) rfl rfl (g_seta (by lcg_sub) (by lcg_sub) (cur_s hi) (g_ret (by lcg_sub) (ret_ok rfl rfl)))
theorem mk_left {H : List O} {i a : Nat} {d : V} (hi : H[i]? = some (cur d a)) : methK H (.ref i) (S "left") = some (.fn 196) := mk_fn (ii_ref hi) (by rfl) (by rfl)
theorem spec_Cursor_done {H : List O} {d : V} {b : List UInt8} {i a : Nat} (h : BD H d b) (hl : b.length ≤ 100000) (ha : a ≤ b.length) (hi : H[i]? = some (cur d a)) : c_Cursor_done [.ref i] H = some (if a < b.length then .exc 56 H else .ok .none H) := by
  have hb := h.by
  have hn := h.nf
  have e := spec_Cursor_left h hl hi
  have ebl := bl_bytes hb (show b.length ≤ 16777216 by omega)
  refine ctR_g rfl ?_
  by_cases hx : a < b.length
  · have h1 : ((a : Int) < b.length) := by omega
    have g2 : ((b.length : Int) - a).natAbs < 10 ^ 100 := Nat.lt_of_le_of_lt (show ((b.length : Int) - a).natAbs ≤ 100000 by omega) (by decide)
    have ml := mk_left hi
    rw [if_pos hx]
    refine g_if_t (by lcg_sub) (g_raise (by lcg_sub) ?_)
    exact rfl
  · have h1 : ¬ ((a : Int) < b.length) := by omega
    rw [if_neg hx]
    exact g_if_f (by lcg_sub) (g_nil (ret_ok rfl rfl))
noncomputable def lowv (b : List UInt8) (a : Nat) : Nat → Nat
  | 0 => 0
  | t + 1 => lowv b a t + 128 ^ t * ((b[a + t]?.getD 0).toNat % 128)
theorem lowv_e0 : lowv b a 0 = 0 := rfl
theorem lowv_e1 : lowv b a (t + 1) = lowv b a t + 128 ^ t * ((b[a + t]?.getD 0).toNat % 128) := rfl
noncomputable def dn (a : Nat) : Nat → List V
  | 0 => []
  | i + 1 => .int (a + i : Nat) :: dn a i
theorem dn_e0 : dn a 0 = [] := rfl
theorem dn_e1 : dn a (i + 1) = .int (a + i : Nat) :: dn a i := rfl
theorem dn_eq (a : Nat) : ∀ t : Nat, (List.range t).map (fun (k : Nat) => V.int (((a : Int) + t - 1) + k * (-1))) = dn a t
  | 0 => rfl
  | t + 1 => by
    rw [List.range_succ_eq_map]
    simp only [List.map_cons, List.map_map, dn_e1]
    congr 1
    · congr 1; push_cast; lia
    · rw [← dn_eq a t]
      apply List.map_congr_left
      intro k _
      simp only [Function.comp]
      congr 1; push_cast; lia
theorem rng_down {a t : Nat} {H : List O} (h : a + t ≤ 1000000) : itemsV H (.rng ((a : Int) + t - 1) ((a : Int) - 1) (-1)) = some (dn a t) := by
  have e : Builtin.Range.rangeSize ((a : Int) + t - 1) ((a : Int) - 1) (-1) = t := by
    unfold Builtin.Range.rangeSize
    rw [if_neg (by decide)]
    split
    · simp; lia
    · lia
  rw [iv_rng ⟨by omega, by omega, by decide, by decide⟩, rngItems, e, ← dn_eq]
  simp
theorem bv_mul {H : List O} {x : Int} {k : Nat} (hk : k < 2 ^ 64) : binV H .Mult (.int x) (.int k) = some (.int (x * k)) := by
  have e : binV H .Mult (.int x) (.int k) = mulV (.int x) (.int k) := rfl
  rw [e]
  exact if_pos (.inl (by omega))
theorem bv_pow {H : List O} {x k : Nat} (hx : x < 2 ^ 64) (hk : k ≤ 1000000) : binV H .Pow (.int x) (.int k) = some (.int ((x : Int) ^ k)) := by
  exact (if_pos ⟨by omega, by omega, by omega⟩ : (if 0 ≤ (k : Int) ∧ (k : Int) ≤ 1000000 ∧ (x : Int).natAbs < 2 ^ 64 then some (V.int ((x : Int) ^ (k : Int).toNat)) else .none) = _)
noncomputable def resL (a : Nat) (H : List O) : Except Nat (Nat × Nat) → Res
  | .ok (n, a') => .ok (.tuple [.int 0, .int n, .int a']) H
  | .error e => .ok (.tuple [.int e, .int 0, .int a]) H
noncomputable def LnI (b : List UInt8) (a m bits : Nat) (H : List O) (j : Nat) (st : St) : Prop := ∃ t, t + j = m ∧ st.σ 0 = some (.bytes b) ∧ st.σ 1 = some (.int a) ∧ st.σ 2 = some (.int m) ∧ st.σ 3 = some (.int bits) ∧ st.σ 4 = some (.int (a + t)) ∧ st.H = H ∧ a + t ≤ b.length ∧ (∀ i, i < t → 128 ≤ (b[a + i]?.getD 0).toNat) ∧
    gsc m (b.drop a) = match gsc j (b.drop (a + t)) with | .ok (n, k) => .ok (lowv b a t + 128 ^ t * n, t + k) | .error e => .error e
noncomputable def LnJ (b : List UInt8) (a bits t w : Nat) (H : List O) (r : List V) (st : St) : Prop := ∃ i n, i ≤ t ∧ r = dn a i ∧ st.σ 0 = some (.bytes b) ∧ st.σ 1 = some (.int a) ∧ st.σ 3 = some (.int bits) ∧ st.σ 4 = some (.int (a + t)) ∧ st.σ 5 = some (.int (n : Nat)) ∧ st.H = H ∧ lowv b a i + 128 ^ i * n = w
theorem ln_0 {b : List UInt8} {a m : Nat} : gsc m (b.drop a) = match gsc m (b.drop (a + 0)) with | .ok (n, k) => .ok (lowv b a 0 + 128 ^ 0 * n, 0 + k) | .error e => .error e := by
  simp only [lowv_e0, Nat.add_zero, Nat.pow_zero, Nat.one_mul, Nat.zero_add]
  cases gsc m (b.drop a) <;> rfl
theorem ln_s {b : List UInt8} {a m j t : Nat} (hx : a + t < b.length) (h2 : 128 ≤ (b[a + t]).toNat) (hg : gsc m (b.drop a) = match gsc (j + 1) (b.drop (a + t)) with | .ok (n, k) => .ok (lowv b a t + 128 ^ t * n, t + k) | .error e => .error e) :
    gsc m (b.drop a) = match gsc j (b.drop (a + (t + 1))) with | .ok (n, k) => .ok (lowv b a (t + 1) + 128 ^ (t + 1) * n, t + 1 + k) | .error e => .error e := by
  rw [hg, List.drop_eq_getElem_cons hx, gsc_e2, if_neg (Nat.not_lt.mpr h2)]
  show _ = match gsc j (b.drop (a + t + 1)) with | .ok (n, k) => _ | .error e => _
  cases gsc j (b.drop (a + t + 1)) with
  | error e => rfl
  | ok p =>
    have hgd : b[a + t]?.getD 0 = b[a + t] := by simp [hx]
    show Except.ok _ = Except.ok _
    rw [lowv_e1, hgd, Nat.pow_succ, Nat.mul_add, Nat.mul_assoc, Nat.add_assoc, Nat.add_assoc, Nat.add_comm 1]
theorem num_e {b : List UInt8} {a m w e : Nat} (h : gsc m (b.drop a) = .error e) : num b a m w = .error e := by unfold num; rw [h]
theorem num_o {b : List UInt8} {a m w n k : Nat} (h : gsc m (b.drop a) = .ok (n, k)) (hn : n ≤ w) : num b a m w = .ok (n, a + k) := by unfold num; rw [h]; exact if_pos hn
theorem num_x {b : List UInt8} {a m w n k : Nat} (h : gsc m (b.drop a) = .ok (n, k)) (hn : ¬ n ≤ w) : num b a m w = .error 2 := by unfold num; rw [h]; exact if_neg hn
theorem ln_big {n bits : Nat} : (2 : Int) ^ bits ≤ n ↔ ¬ n ≤ 2 ^ bits - 1 := by
  have hpos : 0 < 2 ^ bits := Nat.two_pow_pos bits
  have : (((2 ^ bits : Nat) : Int) ≤ n) ↔ 2 ^ bits ≤ n := Int.ofNat_le
  push_cast at this
  lia
theorem ln_end {E : Addr → List O → Prop} {b : List UInt8} {a m bits t n : Nat} {H : List O} {s : St} (hbi : bits ≤ 64) (z1 : s.σ 1 = some (.int a)) (z3 : s.σ 3 = some (.int bits)) (z4 : s.σ 4 = some (.int (a + t))) (z5 : s.σ 5 = some (.int n)) (sH : s.H = H)
    (hg : gsc m (b.drop a) = .ok (n, t + 1)) : rz p28 (y_law_number.drop 6) s (RetR (resL a H (num b a m (2 ^ bits - 1)))) E := by
  have e2 : binV s.H .Pow (.int 2) (.int bits) = some (.int (2 ^ bits)) := bv_pow (x := 2) (k := bits) (by decide) (by lia)
  by_cases hn : n ≤ 2 ^ bits - 1
  · have hc : ¬ ((2 : Int) ^ bits ≤ n) := fun q => ln_big.mp q hn
    refine g_if_f (by lcg_sub) ?_
    refine g_ret (by lcg_sub) (ret_ok rfl ?_)
    rw [num_o hg hn, sH]; rfl
  · have hc : ((2 : Int) ^ bits ≤ n) := ln_big.mpr hn
    refine g_if_t (by lcg_sub) ?_
    refine g_ret (by lcg_sub) (ret_ok rfl ?_)
    rw [num_x hg hn, sH]; rfl
theorem ln_for {E : Addr → List O → Prop} {b : List UInt8} {a m bits t : Nat} {H : List O} {s : St} (hx : a + t < b.length) (hl : b.length ≤ 90000) (hbi : bits ≤ 64) (s0 : s.σ 0 = some (.bytes b)) (z1 : s.σ 1 = some (.int a)) (z3 : s.σ 3 = some (.int bits)) (z4 : s.σ 4 = some (.int (a + t))) (sH : s.H = H)
    (hbig : ∀ i, i < t → 128 ≤ (b[a + i]?.getD 0).toNat) (hg : gsc m (b.drop a) = .ok (lowv b a t + 128 ^ t * (b[a + t]).toNat, t + 1)) : rz p28 (y_law_number.drop 4) s (RetR (resL a H (num b a m (2 ^ bits - 1)))) E := by
  have eit : itemV s.H (.bytes b) (.int (a + t)) = _ := it_bytes (H := s.H) (d := .bytes b) rfl hx (by lia)
  have tr : typeV s.H "range" [.int ((a : Int) + t - 1), .int ((a : Int) - 1), .int (-1)] = some (.rng ((a : Int) + t - 1) ((a : Int) - 1) (-1)) := rfl
  refine g_set (x_item (x_loc s0) (x_loc z4) eit) ?_
  refine g_for (LnJ b a bits t (lowv b a t + 128 ^ t * (b[a + t]).toNat) H) (by lcg_sub) (rng_down (by lia)) ?_ ?_ ?_
  · exact ⟨t, (b[a + t]).toNat, Nat.le_refl _, rfl, s0, z1, z3, z4, rfl, sH, rfl⟩
  · rintro s ⟨i, n, hi, hr, y0, y1, y3, y4, y5, yH, hv⟩
    induction i using Nat.casesOn with
    | succ i => cases hr
    | zero =>
      refine ln_end hbi y1 y3 y4 y5 yH ?_
      rw [hg, ← hv]; simp [lowv_e0]
  · rintro v r s ⟨i, n, hi, hr, y0, y1, y3, y4, y5, yH, hv⟩
    induction i using Nat.casesOn with
    | zero => cases hr
    | succ i =>
      cases hr
      have hlti : a + i < b.length := by lia
      have e1 : itemV s.H (.bytes b) (.int (a + i : Nat)) = _ := it_bytes (H := s.H) (d := .bytes b) rfl hlti (by lia)
      have em : binV s.H .Mult (.int n) (.int 128) = some (.int (n * 128)) := bv_mul (k := 128) (by decide)
      have hgi : b[a + i]?.getD 0 = b[a + i] := by simp [hlti]
      have hb2 := hbig i (by lia)
      rw [hgi] at hb2
      refine g_set (by lcg_sub) (g_nil ?_)
      refine ⟨i, n * 128 + ((b[a + i]).toNat - 128), by lia, rfl, y0, y1, y3, y4, ?_, yH, ?_⟩
      · exact put_eq.trans (congrArg (fun i => some (V.int i)) (by omega))
      · rw [← hv, lowv_e1, hgi, Nat.pow_succ, show (b[a + i]).toNat % 128 = (b[a + i]).toNat - 128 from ?_, Nat.mul_add, Nat.mul_comm n, ← Nat.mul_assoc]
        · lia
        · have := (b[a + i]).toNat_lt; lia
theorem spec_law_number {H : List O} {b : List UInt8} {a m bits : Nat} (hl : b.length ≤ 90000) (ha : a ≤ b.length) (hm : m ≤ 10) (hbi : bits ≤ 64) : c_law_number [.bytes b, .int a, .int m, .int bits] H = some (resL a H (num b a m (2 ^ bits - 1))) := by
  refine ctR_g rfl ?_
  have ebl : ∀ H, builtinV H "len" [.bytes b] = some (.int b.length) := fun H => bl_bytes rfl (by omega)
  refine g_set (by lcg_sub) ?_
  refine g_whl (LnI b a m bits H) m (by unfold KF; lia) ⟨0, Nat.zero_add m, rfl, rfl, rfl, rfl, rfl, rfl, ha, fun i h => absurd h (Nat.not_lt_zero i), ln_0⟩ ?_
  rintro j s ⟨t, e1, s0, s1, s2, s3, s4, sH, hat, hbig, hg⟩
  have ebl := ebl s.H
  by_cases hx : a + t < b.length
  · have h1 : ((a : Int) + t < b.length) := by omega
    have eit : itemV s.H (.bytes b) (.int (a + t)) = _ := it_bytes (H := s.H) (d := .bytes b) rfl hx (by lia)
    have hne : ¬ ((a : Int) + t = b.length) := by omega
    cases j with
    | zero =>
      have h3 : ¬ ((a : Int) + t < a + m) := by lia
      have h4 : ((a : Int) + t = a + m) := by lia
      refine .inl ⟨s, t_and_t (by lcg_sub) (t_and_f (by lcg_sub)), ?_⟩
      refine g_if_t (by lcg_sub) (g_ret (by lcg_sub) (ret_ok rfl ?_))
      rw [num_e hg, sH]; rfl
    | succ j =>
      have h3 : ((a : Int) + t < a + m) := by lia
      have h4 : ¬ ((a : Int) + t = a + m) := by lia
      by_cases hx2 : 128 ≤ (b[a + t]).toNat
      · have h2 : (128 ≤ ((b[a + t]).toNat : Int)) := by lia
        refine .inr ⟨s, by lcg_sub, g_aug s4 (by lcg_sub) av_add (g_nil ?_)⟩
        refine ⟨j, Nat.lt_succ_self j, t + 1, by lia, s0, s1, s2, s3, ?_, sH, hx, fun i hi => ?_, ln_s hx hx2 hg⟩
        · exact put_eq.trans (congrArg (fun i => some (V.int i)) (by lia))
        · by_cases q : i = t
          · subst q; simpa [hx] using hx2
          · exact hbig i (by lia)
      · have h2 : ¬ (128 ≤ ((b[a + t]).toNat : Int)) := by lia
        refine .inl ⟨s, t_and_t (by lcg_sub) (t_and_t (by lcg_sub) (t_and_f (by lcg_sub))), ?_⟩
        refine g_if_f (by lcg_sub) (g_if_f (by lcg_sub) ?_)
        refine ln_for hx hl hbi s0 s1 s3 s4 sH hbig ?_
        rw [hg, List.drop_eq_getElem_cons hx, gsc_e2, if_pos (Nat.not_le.mp hx2)]
  · have h1 : ¬ ((a : Int) + t < b.length) := by omega
    have hd : b.drop (a + t) = [] := List.drop_eq_nil_of_le (by omega)
    have heq : (a : Int) + t = b.length := by lia
    rw [hd] at hg
    refine .inl ⟨s, t_and_f (by lcg_sub), ?_⟩
    cases j with
    | zero =>
      have h4 : ((a : Int) + t = a + m) := by omega
      refine g_if_t (by lcg_sub) (g_ret (by lcg_sub) (ret_ok rfl ?_))
      rw [num_e hg, sH]; rfl
    | succ j =>
      have h4 : ¬ ((a : Int) + t = a + m) := by omega
      refine g_if_f (by lcg_sub) (g_if_t (by lcg_sub) (g_ret (by lcg_sub) (ret_ok rfl ?_)))
      rw [num_e hg, sH]; rfl
theorem sA_list {l : List V} (h : l.length ≤ 1000000) : sumA [.list l] = (intsOf l).map fun ns => .int ns.sum := if_pos h
section
variable {P : List V → St → Prop} {E : Addr → List O → Prop} {st : St} {f : AM V} {i : Nat}
end
section
variable {φ : Tab} {k : Nat} {st st' : St} {P : Option V → St → Prop} {E : Addr → List O → Prop}
end
theorem sq_nx : (S "n" == S "x") = false := by decide
theorem sq_nt : (S "n" == S "t") = false := by decide
theorem sn_nt : (S "n" != S "t") = true := by decide
theorem sq_no : (S "n" == S "o") = false := by decide
theorem sq_nl : (S "n" == S "l") = false := by decide
theorem sq_ox : (S "o" == S "x") = false := by decide
theorem sq_ot : (S "o" == S "t") = false := by decide
theorem sn_ot : (S "o" != S "t") = true := by decide
theorem sq_oo : (S "o" == S "o") = true := by decide
theorem sq_ol : (S "o" == S "l") = false := by decide
theorem sq_lx : (S "l" == S "x") = false := by decide
theorem sq_lt : (S "l" == S "t") = false := by decide
theorem sn_lt : (S "l" != S "t") = true := by decide
theorem sq_lo : (S "l" == S "o") = false := by decide
theorem sq_ll : (S "l" == S "l") = true := by decide
theorem sq_xx : (S "x" == S "x") = true := by decide
theorem sq_tx : (S "t" == S "x") = false := by decide
theorem sq_tt : (S "t" == S "t") = true := by decide
theorem sn_tt : (S "t" != S "t") = false := by decide
noncomputable def cmpE : X := .bin .Mult (.item (.loc 101) (.bin .Add (.loc 102) (.loc 999))) (.bin .Pow (.val (.int 256)) (.loc 999))
section
variable {φ : Tab} {st : St} {f : AM V} {i : Nat} {v u : V} {r us : List V}
theorem co_nil : compV f i [] st = some (.ok [] st) := rfl
theorem co_cons (h : f (st.put i v) = some (.ok u (st.put i v))) (h' : compV f i r st = some (.ok us st)) : compV f i (v :: r) st = some (.ok (u :: us) st) := by
  simp -iota only [compV_e1]
  show (match f (st.put i v) with | some (.ok u s') => _ | _ => _) = _
  rw [h]
  exact (bd h').trans rfl
end
theorem cmpE_ok {st : St} {b : List UInt8} {a k x : Nat} {p w : Int} (z1 : st.σ 101 = some (.bytes b)) (z2 : st.σ 102 = some (.int a)) (e : itemV st.H (.bytes b) (.int (a + k : Nat)) = some (.int x)) (hp : binV st.H .Pow (.int 256) (.int k) = some (.int p)) (hm : binV st.H .Mult (.int x) (.int p) = some (.int w)) : evX p29 cmpE (st.put 999 (.int k)) = some (.ok (.int w) (st.put 999 (.int k))) :=
  x_bin (x_item (x_loc z1) (x_bin (x_loc z2) (x_loc put_eq) bv_add) e) (x_bin x_val (x_loc put_eq) hp) hm
theorem pow256 {H : List O} {k : Nat} (h : k ≤ 1000000) : binV H .Pow (.int 256) (.int k) = some (.int ((256 : Int) ^ k)) := bv_pow (x := 256) (k := k) (by decide) h
theorem field_sum {st : St} {b : List UInt8} {a : Nat} (hl : b.length ≤ 90000) (hx : a + 4 ≤ b.length) (z1 : st.σ 101 = some (.bytes b)) (z2 : st.σ 102 = some (.int a)) :
    evX p29 (.call (.builtin "sum") [.comp cmpE 999 (.call (.type "range") [.val (.int 4)])]) st = some (.ok (.int (le4v (b.drop a) : Nat)) st) := by
  have it : ∀ k (h : a + k < b.length), itemV st.H (.bytes b) (.int (a + k : Nat)) = some (.int (b[a + k]).toNat) := fun k h => it_bytes (d := .bytes b) rfl h (by lia)
  have e0 := it 0 (by lia)
  have e1 := it 1 (by lia)
  have e2 := it 2 (by lia)
  have e3 := it 3 (by lia)
  have e4 : le4v (b.drop a) = (b[a + 0]).toNat + (b[a + 1]).toNat * 256 + (b[a + 2]).toNat * 65536 + (b[a + 3]).toNat * 16777216 := by rw [drop4 hx]; rfl
  rw [e4]
  clear it e4
  generalize (b[a + 0]).toNat = q0 at *
  generalize (b[a + 1]).toNat = q1 at *
  generalize (b[a + 2]).toNat = q2 at *
  generalize (b[a + 3]).toNat = q3 at *
  have tr : typeV st.H "range" [.int 4] = some (.rng 0 (4 : Nat) 1) := if_pos rfl
  refine x_call (xs_cons (x_comp (vs := [.int (0 : Nat), .int (1 : Nat), .int (2 : Nat), .int (3 : Nat)]) (us := [.int ((q0 : Int) * (1 : Nat)), .int ((q1 : Int) * (256 : Nat)), .int ((q2 : Int) * (65536 : Nat)), .int ((q3 : Int) * (16777216 : Nat))]) (by lcg_sub) ((rng_items (H := st.H) 4 (by decide)).trans rfl) ?_ (len_le rfl)) xs_nil) (c_sum (?_ : _ = some (V.int _)))
  · exact co_cons (cmpE_ok z1 z2 e0 (pow256 (by decide)) (bv_mul (k := 1) (by decide))) (co_cons (cmpE_ok z1 z2 e1 (pow256 (by decide)) (bv_mul (k := 256) (by decide)))
      (co_cons (cmpE_ok z1 z2 e2 (pow256 (by decide)) (bv_mul (k := 65536) (by decide))) (co_cons (cmpE_ok z1 z2 e3 (pow256 (by decide)) (bv_mul (k := 16777216) (by decide))) co_nil)))
  · unfold builtinV
    rw [if_neg (show ¬ "sum" = "len" by decide), if_pos rfl]
    refine (sA_list (len_le rfl)).trans ?_
    simp -iota only [intsOf_e0, intsOf_e1, Option.map_some, List.sum_cons, List.sum_nil]
    exact congrArg (fun i => some (V.int i)) (by lia)
theorem c_seq {x y : Str} {c : Bool} (h : (x == y) = c) : cmpV .Eq (.str x) (.str y) = some c := congrArg some h
theorem c_sne {x y : Str} {c : Bool} (h : (x != y) = c) : cmpV .NotEq (.str x) (.str y) = some c := congrArg some h
theorem spec_field_x {H : List O} {b : List UInt8} {a : Nat} (hl : b.length ≤ 90000) (ha : a ≤ b.length) : c_law_field [.str (S "x"), .bytes b, .int a] H = some (match rdX b a with | .ok (n, a') => .ok (.tuple [.int 0, .int n, .int a']) H | .error e => .ok (.tuple [.int e, .int 0, .int a]) H) := by
  have ebl : ∀ H, builtinV H "len" [.bytes b] = some (.int b.length) := fun H => bl_bytes rfl (by lia)
  have ebl := ebl H
  unfold rdX
  refine ctR_g rfl (g_if_t (t_cmp (by lcg_sub) (by lcg_sub) (c_seq sq_xx)) ?_)
  by_cases hx : a + 4 ≤ b.length
  · have h1 : ¬ ((b.length : Int) < a + 4) := by lia
    rw [if_pos hx]
    refine g_if_f (by lcg_sub) (g_ret (x_tup (xs_cons x_val (xs_cons (field_sum hl hx rfl rfl) (by lcg_sub))) (len_le rfl)) (ret_ok rfl rfl))
  · have h1 : ((b.length : Int) < a + 4) := by lia
    rw [if_neg hx]
    exact g_if_t (by lcg_sub) (g_ret (by lcg_sub) (ret_ok rfl rfl))
noncomputable def rdN (b : List UInt8) (a : Nat) := num b a 10 M64
noncomputable def rdO (b : List UInt8) (a : Nat) : Except Nat (Nat × Nat) := match num b a 10 M64 with
  | .ok (n, a') => if n < 2 ^ 56 then .ok (n, a') else .error 2
  | .error e => .error e
noncomputable def rdL (b : List UInt8) (a : Nat) : Except Nat (Nat × Nat) := match num b a 10 M64 with
  | .ok (n, a') => if n < 12 then .ok (n, a') else .error 2
  | .error e => .error e
theorem law_num64 {H : List O} {b : List UInt8} {a : Nat} (hl : b.length ≤ 90000) (ha : a ≤ b.length) : c_law_number [.bytes b, .int a, .int 10, .int 64] H = some (resL a H (num b a 10 M64)) := spec_law_number (m := 10) (bits := 64) hl ha (by decide) (by decide)
theorem law_num32 {H : List O} {b : List UInt8} {a : Nat} (hl : b.length ≤ 90000) (ha : a ≤ b.length) : c_law_number [.bytes b, .int a, .int 5, .int 32] H = some (resL a H (num b a 5 M32)) := spec_law_number (m := 5) (bits := 32) hl ha (by decide) (by decide)
theorem gsc_err : ∀ {m : Nat} {l : List UInt8} {e : Nat}, gsc m l = .error e → e = 1 ∨ e = 2
  | 0, _, _, h => by cases h; exact .inr rfl
  | m + 1, [], _, h => by cases h; exact .inl rfl
  | m + 1, x :: r, e, h => by
    simp -iota only [gsc_e2] at h
    split at h
    · cases h
    · split at h
      · cases h
      · rename_i h'; cases h; exact gsc_err h'
theorem num_err {b : List UInt8} {a m most e : Nat} (h : num b a m most = .error e) : e = 1 ∨ e = 2 := by
  unfold num at h
  split at h
  · split at h
    · cases h
    · cases h; exact .inr rfl
  · rename_i h'; cases h; exact gsc_err h'
theorem field_num {H : List O} {b : List UInt8} {a n a' q : Nat} {s : Str} {c : Bool} (hx : (s == S "x") = false) (ht : (s != S "t") = true) (e : c_law_number [.bytes b, .int a, .int 10, .int 64] H = some (.ok (.tuple [.int q, .int n, .int a']) H))
    (hc : ∀ st : St, st.σ 0 = some (.str s) → st.σ 3 = some (.int q) → st.σ 4 = some (.int n) → evT p29 (.bool .And [(.cmp .Eq (.loc 3) (.val (.int 0))), (.bool .Or [(.bool .And [(.cmp .Eq (.loc 0) (.val (.str (S "o")))), (.cmp .GtE (.loc 4) (.bin .Pow (.val (.int 2)) (.val (.int 56))))]), (.bool .And [(.cmp .Eq (.loc 0) (.val (.str (S "l")))), (.cmp .Gt (.loc 4) (.val (.int 11)))])])]) st = some (.ok c st)) :
    c_law_field [.str s, .bytes b, .int a] H = some (.ok (.tuple [.int (if c then 2 else q : Nat), .int n, .int a']) H) := by
  refine ctR_g rfl (g_if_f (t_cmp (by lcg_sub) (by lcg_sub) (c_seq hx)) (g_if_t (t_cmp (by lcg_sub) (by lcg_sub) (c_sne ht)) (g_unp (by lcg_sub) rfl rfl ?_)))
  induction c using Bool.casesOn with
  | true => exact g_if_t (hc _ rfl rfl rfl) (g_set x_val (g_ret (by lcg_sub) (ret_ok rfl rfl)))
  | false => exact g_if_f (hc _ rfl rfl rfl) (g_ret (by lcg_sub) (ret_ok rfl rfl))
theorem spec_field_n {H : List O} {b : List UInt8} {a : Nat} (hl : b.length ≤ 90000) (ha : a ≤ b.length) : c_law_field [.str (S "n"), .bytes b, .int a] H = some (match rdN b a with | .ok (n, a') => .ok (.tuple [.int 0, .int n, .int a']) H | .error e => .ok (.tuple [.int e, .int 0, .int a]) H) := by
  have e := law_num64 (H := H) hl ha
  have hz : ((0 : Nat) : Int) = 0 := rfl
  unfold rdN
  cases hn : num b a 10 M64 with
  | error q =>
    rw [hn] at e
    have hq : ¬ ((q : Int) = 0) := by rcases num_err hn with h | h <;> lia
    exact field_num (c := false) sq_nx sn_nt e fun st z0 z3 z4 => t_and_f (by lcg_sub)
  | ok p =>
    rw [hn] at e
    exact field_num (c := false) (q := 0) sq_nx sn_nt e fun st z0 z3 z4 => t_and_t (by lcg_sub) (t_and_f (t_or_f (t_and_f (t_cmp (by lcg_sub) (by lcg_sub) (c_seq sq_no))) (t_or_f (t_and_f (t_cmp (by lcg_sub) (by lcg_sub) (c_seq sq_nl))) t_or0)))
theorem spec_field_o {H : List O} {b : List UInt8} {a : Nat} (hl : b.length ≤ 90000) (ha : a ≤ b.length) : match rdO b a with | .ok (n, a') => c_law_field [.str (S "o"), .bytes b, .int a] H = some (.ok (.tuple [.int 0, .int n, .int a']) H) | .error e => ∃ n a' : Nat, c_law_field [.str (S "o"), .bytes b, .int a] H = some (.ok (.tuple [.int e, .int n, .int a']) H) := by
  have e := law_num64 (H := H) hl ha
  have hz : ((0 : Nat) : Int) = 0 := rfl
  have ep : ∀ H, binV H .Pow (.int 2) (.int 56) = some (.int 72057594037927936) := fun H => bv_pow (x := 2) (k := 56) (by decide) (by decide)
  unfold rdO
  cases hn : num b a 10 M64 with
  | error q =>
    rw [hn] at e
    have hq : ¬ ((q : Int) = 0) := by rcases num_err hn with h | h <;> omega
    exact ⟨0, a, field_num (c := false) sq_ox sn_ot e fun st z0 z3 z4 => t_and_f (by lcg_sub)⟩
  | ok p =>
    obtain ⟨n, a'⟩ := p
    rw [hn] at e
    by_cases hx : n < 2 ^ 56
    · have h1 : ¬ (72057594037927936 ≤ (n : Int)) := by lia
      dsimp only
      rw [if_pos hx]
      exact field_num (c := false) (q := 0) sq_ox sn_ot e fun st z0 z3 z4 => t_and_t (by lcg_sub) (t_and_f (t_or_f (t_and_t (t_cmp (by lcg_sub) (by lcg_sub) (c_seq sq_oo)) (t_and_f (t_cmp (by lcg_sub) (x_bin x_val x_val (ep _)) (by lcg_sub)))) (t_or_f (t_and_f (t_cmp (by lcg_sub) (by lcg_sub) (c_seq sq_ol))) t_or0)))
    · have h1 : (72057594037927936 ≤ (n : Int)) := by lia
      dsimp only
      rw [if_neg hx]
      exact ⟨n, a', field_num (c := true) (q := 0) sq_ox sn_ot e fun st z0 z3 z4 => t_and_t (by lcg_sub) (t_and_t (t_or_t (t_and_t (t_cmp (by lcg_sub) (by lcg_sub) (c_seq sq_oo)) (t_and_t (t_cmp (by lcg_sub) (x_bin x_val x_val (ep _)) (by lcg_sub)) t_and0))) t_and0)⟩
theorem spec_field_l {H : List O} {b : List UInt8} {a : Nat} (hl : b.length ≤ 90000) (ha : a ≤ b.length) : match rdL b a with | .ok (n, a') => c_law_field [.str (S "l"), .bytes b, .int a] H = some (.ok (.tuple [.int 0, .int n, .int a']) H) | .error e => ∃ n a' : Nat, c_law_field [.str (S "l"), .bytes b, .int a] H = some (.ok (.tuple [.int e, .int n, .int a']) H) := by
  have e := law_num64 (H := H) hl ha
  have hz : ((0 : Nat) : Int) = 0 := rfl
  unfold rdL
  cases hn : num b a 10 M64 with
  | error q =>
    rw [hn] at e
    have hq : ¬ ((q : Int) = 0) := by rcases num_err hn with h | h <;> omega
    exact ⟨0, a, field_num (c := false) sq_lx sn_lt e fun st z0 z3 z4 => t_and_f (by lcg_sub)⟩
  | ok p =>
    obtain ⟨n, a'⟩ := p
    rw [hn] at e
    by_cases hx : n < 12
    · have h1 : ¬ (11 < (n : Int)) := by lia
      dsimp only
      rw [if_pos hx]
      exact field_num (c := false) (q := 0) sq_lx sn_lt e fun st z0 z3 z4 => t_and_t (by lcg_sub) (t_and_f (t_or_f (t_and_f (t_cmp (by lcg_sub) (by lcg_sub) (c_seq sq_lo))) (t_or_f (t_and_t (t_cmp (by lcg_sub) (by lcg_sub) (c_seq sq_ll)) (t_and_f (by lcg_sub))) t_or0)))
    · have h1 : (11 < (n : Int)) := by omega
      dsimp only
      rw [if_neg hx]
      exact ⟨n, a', field_num (c := true) (q := 0) sq_lx sn_lt e fun st z0 z3 z4 => t_and_t (by lcg_sub) (t_and_t (t_or_f (t_and_f (t_cmp (by lcg_sub) (by lcg_sub) (c_seq sq_lo))) (t_or_t (t_and_t (t_cmp (by lcg_sub) (by lcg_sub) (c_seq sq_ll)) (t_and_t (by lcg_sub) t_and0)))) t_and0)⟩
theorem spec_field_t {H : List O} {b : List UInt8} {a : Nat} (hl : b.length ≤ 90000) (ha : a ≤ b.length) : match rdT b a with | .ok (x, a') => c_law_field [.str (S "t"), .bytes b, .int a] H = some (.ok (.tuple [.int 0, .bytes x, .int a']) H) | .error e => ∃ a' : Nat, c_law_field [.str (S "t"), .bytes b, .int a] H = some (.ok (.tuple [.int e, .bytes [], .int a']) H) := by
  have ebl := bl_bytes (H := H) (d := .bytes b) rfl (show b.length ≤ 16777216 by omega)
  have e := law_num32 (H := H) hl ha
  unfold rdT
  cases hn : num b a 5 M32 with
  | error q =>
    rw [hn] at e
    have e : _ = some (Res.ok (.tuple [.int q, .int 0, .int a]) H) := e
    have hq : ¬ ((q : Int) = 0) := by rcases num_err hn with h | h <;> omega
    have hq2 : (0 : Int) < q := by lia
    refine ⟨a, ctR_g rfl (g_if_f (t_cmp (by lcg_sub) (by lcg_sub) (c_seq sq_tx)) (g_if_f (t_cmp (by lcg_sub) (by lcg_sub) (c_sne sn_tt)) (g_unp (by lcg_sub) rfl rfl ?_)))⟩
    exact g_if_f (t_and_f (by lcg_sub)) (g_if_t (by lcg_sub) (g_ret (by lcg_sub) (ret_ok rfl rfl)))
  | ok p =>
    obtain ⟨n, a'⟩ := p
    rw [hn] at e
    have e : _ = some (Res.ok (.tuple [.int 0, .int n, .int a']) H) := e
    by_cases hx : a' + n ≤ b.length
    · have h1 : ¬ ((b.length : Int) < a' + n) := by lia
      have p1 := part_ok (k := (a' : Int)) (by lia) (by lia)
      have p2 := part_ok (k := (a' : Int) + n) (by lia) (by lia)
      have es := sl_two (H := H) p1 p2 (show b.length ≤ 16777216 by lia)
      rw [cut_ok hx] at es
      dsimp only
      rw [if_pos hx]
      have h0 : ¬ ((0 : Int) < 0) := by decide
      refine ctR_g rfl (g_if_f (t_cmp (by lcg_sub) (by lcg_sub) (c_seq sq_tx)) (g_if_f (t_cmp (by lcg_sub) (by lcg_sub) (c_sne sn_tt)) (g_unp (by lcg_sub) rfl rfl ?_)))
      exact g_if_f (t_and_t (by lcg_sub) (t_and_f (by lcg_sub))) (g_if_f (by lcg_sub) (g_ret (by lcg_sub) (ret_ok rfl rfl)))
    · have h1 : ((b.length : Int) < a' + n) := by lia
      dsimp only
      rw [if_neg hx]
      have h0 : ((0 : Int) < 1) := by decide
      refine ⟨a', ctR_g rfl (g_if_f (t_cmp (by lcg_sub) (by lcg_sub) (c_seq sq_tx)) (g_if_f (t_cmp (by lcg_sub) (by lcg_sub) (c_sne sn_tt)) (g_unp (by lcg_sub) rfl rfl ?_)))⟩
      exact g_if_t (t_and_t (by lcg_sub) (t_and_t (by lcg_sub) t_and0)) (g_set x_val (g_if_t (by lcg_sub) (g_ret (by lcg_sub) (ret_ok rfl rfl))))
inductive K where
  | n | o | l | x | t
noncomputable def kstr : K → Str
  | .n => S "n" | .o => S "o" | .l => S "l" | .x => S "x" | .t => S "t"
noncomputable def okI : Except Nat (Nat × Nat) → Except Nat (V × Nat)
  | .ok (n, a) => .ok (.int n, a)
  | .error e => .error e
noncomputable def fld (b : List UInt8) (a : Nat) : K → Except Nat (V × Nat)
  | .n => okI (rdN b a)
  | .o => okI (rdO b a)
  | .l => okI (rdL b a)
  | .x => okI (rdX b a)
  | .t => match rdT b a with | .ok (x, a') => .ok (.bytes x, a') | .error e => .error e
theorem rdN_at {b : List UInt8} {a n a' : Nat} (h : rdN b a = .ok (n, a')) (ha : a ≤ b.length) : a' ≤ b.length ∧ a < a' := let h := num_at h ha; ⟨h.1, h.2.1⟩
theorem rdO_num {b : List UInt8} {a n a' : Nat} (h : rdO b a = .ok (n, a')) : num b a 10 M64 = .ok (n, a') ∧ n < 2 ^ 56 := by
  unfold rdO at h
  split at h
  · split at h
    · rename_i h1 h2; cases h; exact ⟨h1, h2⟩
    · cases h
  · cases h
theorem rdL_num {b : List UInt8} {a n a' : Nat} (h : rdL b a = .ok (n, a')) : num b a 10 M64 = .ok (n, a') ∧ n < 12 := by
  unfold rdL at h
  split at h
  · split at h
    · rename_i h1 h2; cases h; exact ⟨h1, h2⟩
    · cases h
  · cases h
theorem rdX_at {b : List UInt8} {a n a' : Nat} (h : rdX b a = .ok (n, a')) : a' = a + 4 ∧ a + 4 ≤ b.length ∧ n = le4v (b.drop a) := by
  unfold rdX at h
  split at h
  · cases h; exact ⟨rfl, ‹_›, rfl⟩
  · cases h
theorem rdT_at {b x : List UInt8} {a a' : Nat} (h : rdT b a = .ok (x, a')) : ∃ n a1, num b a 5 M32 = .ok (n, a1) ∧ a' = a1 + n ∧ a1 + n ≤ b.length ∧ x = (b.drop a1).take n := by
  unfold rdT at h
  split at h
  · split at h
    · rename_i h1 h2; cases h; exact ⟨_, _, h1, rfl, h2, rfl⟩
    · cases h
  · cases h
theorem okI_ok {r : Except Nat (Nat × Nat)} {v : V} {a : Nat} (h : okI r = .ok (v, a)) : ∃ n : Nat, r = .ok (n, a) ∧ v = .int n := by
  unfold okI at h
  split at h
  · cases h; exact ⟨_, rfl, rfl⟩
  · cases h
theorem okI_err {r : Except Nat (Nat × Nat)} {e : Nat} (h : okI r = .error e) : r = .error e := by
  unfold okI at h
  split at h
  · cases h
  · cases h; rfl
theorem fld_at {b : List UInt8} {a : Nat} {k : K} {v : V} {a' : Nat} (h : fld b a k = .ok (v, a')) (ha : a ≤ b.length) : a' ≤ b.length ∧ a < a' ∧ clean v = true := by
  induction k using K.casesOn <;> simp only [fld] at h
  · obtain ⟨n, h', rfl⟩ := okI_ok h; exact ⟨(rdN_at h' ha).1, (rdN_at h' ha).2, rfl⟩
  · obtain ⟨n, h', rfl⟩ := okI_ok h; have := num_at (rdO_num h').1 ha; exact ⟨this.1, this.2.1, rfl⟩
  · obtain ⟨n, h', rfl⟩ := okI_ok h; have := num_at (rdL_num h').1 ha; exact ⟨this.1, this.2.1, rfl⟩
  · obtain ⟨n, h', rfl⟩ := okI_ok h; have := rdX_at h'; exact ⟨by lia, by lia, rfl⟩
  · split at h
    · rename_i x a1 h'
      cases h
      obtain ⟨n, a1, h1, h2, h3, _⟩ := rdT_at h'
      have := num_at h1 ha
      exact ⟨by lia, by lia, rfl⟩
    · cases h
theorem fld_err {b : List UInt8} {a : Nat} {k : K} {e : Nat} (h : fld b a k = .error e) : e = 1 ∨ e = 2 := by
  induction k using K.casesOn <;> simp only [fld] at h
  · exact num_err (okI_err h)
  · have h := okI_err h; unfold rdO at h
    split at h
    · split at h
      · cases h
      · cases h; exact .inr rfl
    · rename_i h'; cases h; exact num_err h'
  · have h := okI_err h; unfold rdL at h
    split at h
    · split at h
      · cases h
      · cases h; exact .inr rfl
    · rename_i h'; cases h; exact num_err h'
  · have h := okI_err h; unfold rdX at h
    split at h
    · cases h
    · cases h; exact .inl rfl
  · split at h
    · cases h
    · rename_i h'
      cases h
      unfold rdT at h'
      split at h'
      · split at h'
        · cases h'
        · cases h'; exact .inl rfl
      · rename_i h'; cases h'; rename_i h'; exact num_err h'
theorem spec_fld {H : List O} {b : List UInt8} {a : Nat} (k : K) (hl : b.length ≤ 90000) (ha : a ≤ b.length) : match fld b a k with | .ok (v, a') => c_law_field [.str (kstr k), .bytes b, .int a] H = some (.ok (.tuple [.int 0, v, .int a']) H) | .error e => ∃ (v : V) (a' : Nat), c_law_field [.str (kstr k), .bytes b, .int a] H = some (.ok (.tuple [.int e, v, .int a']) H) := by
  induction k using K.casesOn <;> simp only [fld, kstr]
  · have := spec_field_n (H := H) hl ha
    cases h : rdN b a with
    | error e => rw [h] at this; exact ⟨_, _, this⟩
    | ok p => rw [h] at this; exact this
  · have := spec_field_o (H := H) hl ha
    cases h : rdO b a with
    | error e => rw [h] at this; obtain ⟨n, a', q⟩ := this; exact ⟨_, _, q⟩
    | ok p => rw [h] at this; exact this
  · have := spec_field_l (H := H) hl ha
    cases h : rdL b a with
    | error e => rw [h] at this; obtain ⟨n, a', q⟩ := this; exact ⟨_, _, q⟩
    | ok p => rw [h] at this; exact this
  · have := spec_field_x (H := H) hl ha
    cases h : rdX b a with
    | error e => rw [h] at this; exact ⟨_, _, this⟩
    | ok p => rw [h] at this; exact this
  · have := spec_field_t (H := H) hl ha
    cases h : rdT b a with
    | error e => rw [h] at this; obtain ⟨a', q⟩ := this; exact ⟨_, _, q⟩
    | ok p => rw [h] at this; exact this
noncomputable def flds (b : List UInt8) : List K → Nat → Except Nat (List V × Nat)
  | [], a => .ok ([], a)
  | k :: r, a => match fld b a k with
    | .error e => .error e
    | .ok (v, a') => match flds b r a' with
      | .error e => .error e
      | .ok (vs, a'') => .ok (v :: vs, a'')
theorem flds_e0 : flds b [] a = .ok ([], a) := rfl
theorem flds_e1 : flds b (k :: r) a = match fld b a k with
    | .error e => .error e
    | .ok (v, a') => match flds b r a' with
      | .error e => .error e
      | .ok (vs, a'') => .ok (v :: vs, a'') := rfl
theorem cleanL_app : ∀ {l m : List V}, cleanL l = true → cleanL m = true → cleanL (l ++ m) = true
  | [], m, _, h => h
  | v :: l, m, h, h' => by
    simp only [cleanL_e1, Bool.and_eq_true, List.cons_append] at h ⊢
    exact ⟨h.1, cleanL_app h.2 h'⟩
noncomputable def FsR (b : List UInt8) (ks : List K) (a : Nat) (v : V) : Prop := match flds b ks a with
  | .ok (vs, a') => v = .tuple [.int 0, .list vs, .int a']
  | .error e => ∃ (row : List V) (a' : Nat), v = .tuple [.int e, .list row, .int a']
noncomputable def fsF (done : List V) : Except Nat (List V × Nat) → Except Nat (List V × Nat)
  | .ok (vs, a) => .ok (done ++ vs, a)
  | .error e => .error e
noncomputable def FsI (b : List UInt8) (ks : List K) (a : Nat) (H : List O) (r : List V) (st : St) : Prop := ∃ (ks' : List K) (done : List V) (a' : Nat), r = ks'.map (fun k => V.str (kstr k)) ∧ st.σ 1 = some (.bytes b) ∧ st.σ 2 = some (.int a') ∧ st.σ 3 = some (.ref H.length) ∧ st.H = H ++ [.list done] ∧ cleanL done = true ∧ done.length + ks'.length ≤ 10 ∧ a' ≤ b.length ∧ flds b ks a = fsF done (flds b ks' a')
theorem fl_e {b : List UInt8} {k : K} {ks : List K} {a e : Nat} (h : fld b a k = .error e) : flds b (k :: ks) a = .error e := by rw [flds_e1, h]
theorem fl_o {b : List UInt8} {k : K} {ks : List K} {a a' : Nat} {v : V} (h : fld b a k = .ok (v, a')) : flds b (k :: ks) a = fsF [v] (flds b ks a') := by
  rw [flds_e1, h]
  dsimp only
  cases flds b ks a' <;> rfl
theorem fsF_nil {r : Except Nat (List V × Nat)} : r = fsF [] r := by induction r using Except.casesOn <;> rfl
theorem spec_fields' {H : List O} {b : List UInt8} {a : Nat} {s : Str} {ks : List K} (hs : ∀ H, itemsV H (.str s) = some (ks.map fun k => V.str (kstr k))) (hk : ks.length ≤ 10) (hl : b.length ≤ 90000) (ha : a ≤ b.length) :
    ∃ v, c_law_fields [.str s, .bytes b, .int a] H = some (.ok v H) ∧ FsR b ks a v := by
  refine ctC_x rfl (g_newl xs_nil (Nat.zero_le _) ?_)
  refine g_for (FsI b ks a H) (x_loc rfl) (hs _) ⟨ks, [], a, rfl, rfl, rfl, rfl, rfl, rfl, by simpa using hk, ha, fsF_nil⟩ ?_ ?_
  · rintro ⟨σ, H'⟩ ⟨ks', done, a', hr, s1, s2, s3, sH, hc, hln, ha', hf⟩
    obtain rfl : H' = _ := sH
    induction ks' using List.casesOn with
    | cons k ks' => cases hr
    | nil =>
      have cl : cleanL [.int 0, .list done, .int a'] = true := by simp [cleanL_e0, cleanL_e1, clean_e2, clean_e6, hc]
      refine g_ret (by lcg_sub) (retE_ok [.frozen (.list done)] (r_tup (z_cons rfl (z_cons (z_list get_app) (z_cons rfl z_nil))) cl) ?_ set_app)
      unfold FsR
      rw [show flds b ks a = .ok (done ++ [], a') from hf, List.append_nil]
  · rintro v r ⟨σ, H'⟩ ⟨ks', done, a', hr, s1, s2, s3, sH, hc, hln, ha', hf⟩
    obtain rfl : H' = _ := sH
    induction ks' using List.casesOn with
    | nil => cases hr
    | cons k ks' =>
      cases hr
      have sp := spec_fld (H := H ++ [.list done]) k hl ha'
      have ga : (H ++ [O.list done])[H.length]? = some (.list done) := get_app
      cases hfl : fld b a' k with
      | error e =>
        rw [hfl] at sp
        rw [fl_e hfl] at hf
        obtain ⟨v, a2, sp⟩ := sp
        have he2 : (0 : Int) < e := by have := fld_err hfl; lia
        have cl : cleanL [.int e, .list done, .int a2] = true := by simp [cleanL_e0, cleanL_e1, clean_e2, clean_e6, hc]
        refine g_unp (by lcg_sub) rfl rfl (g_if_t (by lcg_sub) (g_ret (by lcg_sub) ?_))
        refine retE_ok [.frozen (.list done)] (r_tup (z_cons rfl (z_cons (z_list get_app) (z_cons rfl z_nil))) cl) ?_ set_app
        unfold FsR
        rw [show flds b ks a = .error e from hf]
        exact ⟨done, a2, rfl⟩
      | ok p =>
        obtain ⟨v, a2⟩ := p
        rw [hfl] at sp
        rw [fl_o hfl] at hf
        replace sp : _ = some (Res.ok (.tuple [.int 0, v, .int a2]) _) := sp
        have q := fld_at hfl ha'
        have h0 : ¬ ((0 : Int) < 0) := by decide
        rw [List.length_cons] at hln
        have hd : done.length ≤ 1000000 := by lia
        refine g_unp (by lcg_sub) rfl rfl (g_if_f (by lcg_sub) (g_expr (by lcg_sub) (g_nil ?_)))
        refine ⟨ks', done ++ [v], a2, rfl, s1, rfl, s3, set_app, cleanL_app hc (by simp [cleanL_e0, cleanL_e1, q.2.2]), by rw [List.length_append, List.length_singleton]; lia, q.1, ?_⟩
        rw [hf]
        cases flds b ks' a2 with
        | error e => rfl
        | ok p => exact congrArg (fun z => Except.ok (z, p.2)) (List.append_assoc done [v] p.1).symm
theorem spec_fields {H : List O} {b : List UInt8} {a : Nat} {s : Str} {ks : List K} (hs : ∀ H, itemsV H (.str s) = some (ks.map fun k => V.str (kstr k))) (hk : ks.length ≤ 10) (hl : b.length ≤ 90000) (ha : a ≤ b.length) :
    match flds b ks a with
    | .ok (vs, a') => c_law_fields [.str s, .bytes b, .int a] H = some (.ok (.tuple [.int 0, .list vs, .int a']) H)
    | .error e => ∃ (row : List V) (a' : Nat), c_law_fields [.str s, .bytes b, .int a] H = some (.ok (.tuple [.int e, .list row, .int a']) H) := by
  obtain ⟨v, h, hr⟩ := spec_fields' (H := H) hs hk hl ha
  unfold FsR at hr
  cases hf : flds b ks a with
  | ok p => rw [hf] at hr; rw [h]; exact congrArg (fun z => some (Res.ok z H)) hr
  | error e => rw [hf] at hr; obtain ⟨row, a', rfl⟩ := hr; exact ⟨row, a', h⟩
structure Run where
  level : Nat
  size : Nat
  check : Nat
  small : List UInt8
  large : List UInt8
structure Row where
  index : Nat
  term : Nat
  last : Nat
  conf : List UInt8
  runs : List Run
noncomputable def runL (r : Run) : List V := [.int r.level, .int r.size, .int r.check, .bytes r.small, .bytes r.large]
noncomputable abbrev runV (r : Run) : V := .tuple (runL r)
noncomputable def rowV (r : Row) : V := .tuple [.int r.index, .int r.term, .bytes r.conf, .int r.last, .tuple (r.runs.map runV)]
noncomputable def rdRun (b : List UInt8) (a : Nat) : Except Nat (Run × Nat) := match rdL b a with
  | .error e => .error e
  | .ok (l, a1) => match rdN b a1 with
    | .error e => .error e
    | .ok (s, a2) => match rdX b a2 with
      | .error e => .error e
      | .ok (x, a3) => match rdT b a3 with
        | .error e => .error e
        | .ok (p, a4) => match rdT b a4 with
          | .error e => .error e
          | .ok (q, a5) => .ok (⟨l, s, x, p, q⟩, a5)
noncomputable def rdRuns (b : List UInt8) : Nat → Nat → Except Nat (List Run × Nat)
  | 0, a => .ok ([], a)
  | n + 1, a => match rdRun b a with
    | .error e => .error e
    | .ok (r, a1) => match rdRuns b n a1 with
      | .error e => .error e
      | .ok (rs, a2) => .ok (r :: rs, a2)
theorem rdRuns_e0 : rdRuns b 0 a = .ok ([], a) := rfl
theorem rdRuns_e1 : rdRuns b (n + 1) a = match rdRun b a with
    | .error e => .error e
    | .ok (r, a1) => match rdRuns b n a1 with
      | .error e => .error e
      | .ok (rs, a2) => .ok (r :: rs, a2) := rfl
structure Head where
  index : Nat
  term : Nat
  last : Nat
  conf : List UInt8
  count : Nat
noncomputable def rdHead (b : List UInt8) (a : Nat) : Except Nat (Head × Nat) := match rdN b a with
  | .error e => .error e
  | .ok (i, a1) => match rdN b a1 with
    | .error e => .error e
    | .ok (t, a2) => match rdO b a2 with
      | .error e => .error e
      | .ok (o, a3) => match rdT b a3 with
        | .error e => .error e
        | .ok (c, a4) => match rdN b a4 with
          | .error e => .error e
          | .ok (n, a5) => .ok (⟨i, t, o, c, n⟩, a5)
noncomputable def dec (b : List UInt8) : Except Nat Row := match rdHead b 0 with
  | .error e => .error e
  | .ok (h, a) => match rdRuns b h.count a with
    | .error e => .error e
    | .ok (rs, a') => if a' < b.length then .error 2 else .ok ⟨h.index, h.term, h.last, h.conf, rs⟩
noncomputable abbrev HK : List K := [.n, .n, .o, .t, .n]
noncomputable abbrev RK : List K := [.l, .n, .x, .t, .t]
theorem flds_run {b : List UInt8} {a : Nat} : flds b RK a = match rdRun b a with | .ok (r, a') => .ok (runL r, a') | .error e => .error e := by
  simp only [flds_e0, flds_e1, fld, okI, rdRun]
  cases rdL b a with
  | error e => rfl
  | ok p =>
    cases h1 : rdN b p.2 with
    | error e => simp only [h1]
    | ok p1 =>
      simp only [h1]
      cases h2 : rdX b p1.2 with
      | error e => simp only [h2]
      | ok p2 =>
        simp only [h2]
        cases h3 : rdT b p2.2 with
        | error e => simp only [h3]
        | ok p3 =>
          simp only [h3]
          cases h4 : rdT b p3.2 with
          | error e => simp only [h4]
          | ok p4 => simp only [h4, runL]
noncomputable def headL (h : Head) : List V := [.int h.index, .int h.term, .int h.last, .bytes h.conf, .int h.count]
theorem flds_head {b : List UInt8} {a : Nat} : flds b HK a = match rdHead b a with | .ok (r, a') => .ok (headL r, a') | .error e => .error e := by
  simp only [flds_e0, flds_e1, fld, okI, rdHead]
  cases rdN b a with
  | error e => rfl
  | ok p =>
    cases h1 : rdN b p.2 with
    | error e => simp only [h1]
    | ok p1 =>
      simp only [h1]
      cases h2 : rdO b p1.2 with
      | error e => simp only [h2]
      | ok p2 =>
        simp only [h2]
        cases h3 : rdT b p2.2 with
        | error e => simp only [h3]
        | ok p3 =>
          simp only [h3]
          cases h4 : rdN b p3.2 with
          | error e => simp only [h4]
          | ok p4 => simp only [h4, headL]
theorem flds_at {b : List UInt8} : ∀ {ks : List K} {a : Nat} {vs : List V} {a' : Nat}, flds b ks a = .ok (vs, a') → a ≤ b.length → a' ≤ b.length ∧ (ks ≠ [] → a < a') ∧ cleanL vs = true
  | [], a, vs, a', h, ha => by cases h; exact ⟨ha, fun q => absurd rfl q, rfl⟩
  | k :: ks, a, vs, a', h, ha => by
    simp only [flds_e1] at h
    split at h
    · cases h
    · rename_i v a1 h1
      split at h
      · cases h
      · rename_i vs' a2 h2
        cases h
        obtain ⟨q1, q2, q3⟩ := fld_at h1 ha
        obtain ⟨q4, q5, q6⟩ := flds_at h2 q1
        refine ⟨q4, fun _ => ?_, by simp [cleanL_e1, q3, q6]⟩
        by_cases hk : ks = []
        · subst hk; simp only [flds_e0] at h2; cases h2; exact q2
        · have := q5 hk; lia
theorem flds_err {b : List UInt8} : ∀ {ks : List K} {a e : Nat}, flds b ks a = .error e → e = 1 ∨ e = 2
  | [], a, e, h => by cases h
  | k :: ks, a, e, h => by
    simp only [flds_e1] at h
    split at h
    · rename_i h1; cases h; exact fld_err h1
    · split at h
      · rename_i h2; cases h; exact flds_err h2
      · cases h
theorem rdRun_at {b : List UInt8} {a a' : Nat} {r : Run} (h : rdRun b a = .ok (r, a')) (ha : a ≤ b.length) : a' ≤ b.length ∧ a < a' := by
  have := flds_run (b := b) (a := a)
  rw [h] at this
  have := flds_at this ha
  exact ⟨this.1, this.2.1 (by simp)⟩
theorem rdHead_at {b : List UInt8} {a a' : Nat} {r : Head} (h : rdHead b a = .ok (r, a')) (ha : a ≤ b.length) : a' ≤ b.length := by
  have := flds_head (b := b) (a := a)
  rw [h] at this
  exact (flds_at this ha).1
theorem rdRun_err {b : List UInt8} {a e : Nat} (h : rdRun b a = .error e) : e = 1 ∨ e = 2 := by
  have := flds_run (b := b) (a := a)
  rw [h] at this
  exact flds_err this
theorem rdHead_err {b : List UInt8} {a e : Nat} (h : rdHead b a = .error e) : e = 1 ∨ e = 2 := by
  have := flds_head (b := b) (a := a)
  rw [h] at this
  exact flds_err this
theorem str_items {H : List O} {s : Str} {l : List Nat} (h : s.cps.all (fun n => decide (n < 128)) = true) (hl : s.cps.toList = l) : itemsV H (.str s) = some (l.map fun n => V.str (oneStr n)) := by
  subst hl
  unfold itemsV
  exact if_pos h
theorem one_n : oneStr 110 = S "n" := by decide
theorem one_o : oneStr 111 = S "o" := by decide
theorem one_l : oneStr 108 = S "l" := by decide
theorem one_x : oneStr 120 = S "x" := by decide
theorem one_t : oneStr 116 = S "t" := by decide
theorem it_head {H : List O} : itemsV H (.str (S "nnotn")) = some (HK.map fun k => V.str (kstr k)) := by
  rw [str_items (l := [110, 110, 111, 116, 110]) (by decide +kernel) (by decide +kernel)]
  simp only [List.map_cons, List.map_nil, one_n, one_o, one_t, kstr]
theorem it_run {H : List O} : itemsV H (.str (S "lnxtt")) = some (RK.map fun k => V.str (kstr k)) := by
  rw [str_items (l := [108, 110, 120, 116, 116]) (by decide +kernel) (by decide +kernel)]
  simp only [List.map_cons, List.map_nil, one_n, one_l, one_x, one_t, kstr]
theorem li_ref {H : List O} {i : Nat} {l : List V} (h : H[i]? = some (.list l)) : listIn H (.ref i) = some l := by
  show (match H[i]? with | some (.list l) => some l | some (.frozen (.list l)) => some l | _ => none) = some l
  rw [h]
theorem ty_tup {H : List O} {x : V} {l : List V} (h : listIn H x = some l) (hl : l.length ≤ 1000000) : typeV H "tuple" [x] = some (.tuple l) := by
  unfold typeV
  rw [if_neg (show ¬ "tuple" = "range" by decide), if_neg (show ¬ "tuple" = "bytes" by decide), if_pos rfl]
  show (match listIn H x with | some l => if l.length ≤ 1000000 then some (V.tuple l) else .none | .none => .none) = _
  rw [h]; exact if_pos hl
theorem ll_ref {H : List O} {i : Nat} {l : List V} (h : H[i]? = some (.list l)) (hl : l.length ≤ 1000000) : builtinV H "len" [.ref i] = some (.int l.length) := by
  have e : listIn H (.ref i) = some l := li_ref h
  unfold builtinV
  rw [if_pos rfl]
  show (match listIn H (.ref i) with | some l => if l.length ≤ 1000000 then some (V.int l.length) else .none | .none => match bytesIn H (.ref i) with | some b => if b.length ≤ 16777216 then some (V.int b.length) else .none | .none => .none) = _
  rw [e]; exact if_pos hl
theorem ty_tuple_list {H : List O} {l : List V} (hl : l.length ≤ 1000000) : typeV H "tuple" [.list l] = some (.tuple l) := ty_tup rfl hl
theorem ty_tuple_ref {H : List O} {i : Nat} {l : List V} (h : H[i]? = some (.list l)) (hl : l.length ≤ 1000000) : typeV H "tuple" [.ref i] = some (.tuple l) := ty_tup (li_ref h) hl
theorem clean_runs : ∀ (rs : List Run), cleanL (rs.map runV) = true
  | [] => rfl
  | r :: rs => by simp [cleanL_e0, cleanL_e1, clean_e1, clean_e6, clean_e9, runL, clean_runs rs]
noncomputable def lrO (H : List O) : Except Nat Row → Res
  | .ok row => .ok (.tuple [.int 0, rowV row]) H
  | .error e => .ok (.tuple [.int e, .tuple []]) H
noncomputable def lrF (b : List UInt8) (h : Head) (done : List Run) : Except Nat (List Run × Nat) → Except Nat Row
  | .error e => .error e
  | .ok (rs, a') => if a' < b.length then .error 2 else .ok ⟨h.index, h.term, h.last, h.conf, done ++ rs⟩
noncomputable def LrI (b : List UInt8) (h : Head) (H : List O) (j : Nat) (st : St) : Prop := ∃ (done : List Run) (a n' : Nat), st.σ 0 = some (.bytes b) ∧ st.σ 2 = some (.list (headL h)) ∧ st.σ 3 = some (.int a) ∧ st.σ 4 = some (.ref H.length) ∧ st.H = H ++ [.list (done.map runV)] ∧ done.length + n' = h.count ∧ a ≤ b.length ∧ j = b.length - a ∧ done.length ≤ a ∧ dec b = lrF b h done (rdRuns b n' a)
theorem dec_e {b : List UInt8} {e : Nat} (h : rdHead b 0 = .error e) : dec b = .error e := by unfold dec; rw [h]
theorem dec_o {b : List UInt8} {h : Head} {a : Nat} (q : rdHead b 0 = .ok (h, a)) : dec b = lrF b h [] (rdRuns b h.count a) := by
  unfold dec; rw [q]
  dsimp only
  cases rdRuns b h.count a <;> rfl
theorem rr_e {b : List UInt8} {n a e : Nat} (h : rdRun b a = .error e) : rdRuns b (n + 1) a = .error e := by rw [rdRuns_e1, h]
theorem rr_o {b : List UInt8} {n a a' : Nat} {r : Run} {h : Head} {done : List Run} (q : rdRun b a = .ok (r, a')) : lrF b h done (rdRuns b (n + 1) a) = lrF b h (done ++ [r]) (rdRuns b n a') := by
  rw [rdRuns_e1, q]
  dsimp only
  cases rdRuns b n a' with
  | error e => rfl
  | ok p => exact congrArg (fun z => if p.2 < b.length then Except.error 2 else Except.ok (⟨h.index, h.term, h.last, h.conf, z⟩ : Row)) (List.append_assoc done [r] p.1).symm
theorem hd_item {H : List O} {h : Head} {k : Nat} {v : V} (hk : (headL h)[k]? = some v) (hz : k < 1000000) : itemV H (.list (headL h)) (.int k) = some v := by
  unfold itemV
  dsimp only
  rw [if_pos (by lia), Int.toNat_natCast]
  exact hk
theorem lr_end {H : List O} {b : List UInt8} {h : Head} {E : Addr → List O → Prop} {st : St} {done : List Run} {a : Nat} (hl : b.length ≤ 90000) (s0 : st.σ 0 = some (.bytes b)) (s2 : st.σ 2 = some (.list (headL h))) (s3 : st.σ 3 = some (.int a)) (s4 : st.σ 4 = some (.ref H.length)) (sH : st.H = H ++ [.list (done.map runV)])
    (hd : done.length ≤ 90000) (hr : dec b = lrF b h done (.ok ([], a))) : rz p31 (y_law_read.drop 4) st (RetC H (lrO H (dec b))) E := by
  obtain ⟨σ, H'⟩ := st
  obtain rfl : H' = _ := sH
  have bl := bl_len (H := H ++ [.list (done.map runV)]) (b := b) (by lia)
  by_cases hx : a < b.length
  · have hx' : (a : Int) < b.length := by lia
    rw [hr, show lrF b h done (.ok ([], a)) = .error 2 from if_pos hx]
    exact g_if_t (by lcg_sub) (g_ret (by lcg_sub) (retC_ok _ rfl rfl rfl))
  · have hx' : ¬ ((a : Int) < b.length) := by lia
    rw [hr, show lrF b h done (.ok ([], a)) = .ok ⟨h.index, h.term, h.last, h.conf, done ++ []⟩ from if_neg hx, List.append_nil]
    have i0 : itemV (H ++ [.list (done.map runV)]) (.list (headL h)) (.int 0) = some (.int h.index) := hd_item (k := 0) rfl (by decide)
    have i1 : itemV (H ++ [.list (done.map runV)]) (.list (headL h)) (.int 1) = some (.int h.term) := hd_item (k := 1) rfl (by decide)
    have i2 : itemV (H ++ [.list (done.map runV)]) (.list (headL h)) (.int 2) = some (.int h.last) := hd_item (k := 2) rfl (by decide)
    have i3 : itemV (H ++ [.list (done.map runV)]) (.list (headL h)) (.int 3) = some (.bytes h.conf) := hd_item (k := 3) rfl (by decide)
    have tt := ty_tuple_ref (get_app (H := H) (o := .list (done.map runV)) (r := [])) (by rw [List.length_map]; lia)
    have cl : cleanL [.int 0, .tuple [.int h.index, .int h.term, .bytes h.conf, .int h.last, .tuple (done.map runV)]] = true := by simp [cleanL_e0, cleanL_e1, clean_e1, clean_e6, clean_e9, clean_runs done]
    refine g_if_f (by lcg_sub) (g_ret (by lcg_sub) ?_)
    exact retC_ok _ (r_tup rfl cl) rfl rfl
theorem spec_law_read' {H : List O} {b : List UInt8} (hl : b.length ≤ 90000) : c_law_read [.bytes b] H = some (lrO H (dec b)) := by
  have sh := spec_fields (H := H) (a := 0) (fun H => it_head) (by decide) hl (Nat.zero_le _)
  rw [flds_head] at sh
  refine ctC_g rfl ?_
  cases hh : rdHead b 0 with
  | error e =>
    rw [hh] at sh
    obtain ⟨row, a', sh⟩ := sh
    replace sh : c_law_fields [.str (S "nnotn"), .bytes b, .int 0] H = _ := sh
    have he2 : (0 : Int) < e := by have := rdHead_err hh; lia
    rw [dec_e hh]
    refine g_unp (by lcg_sub) rfl rfl (g_if_t (by lcg_sub) (g_ret (by lcg_sub) ?_))
    exact retC_ok [] rfl rfl (List.append_nil H).symm
  | ok p =>
    obtain ⟨h, a0⟩ := p
    rw [hh] at sh
    replace sh : c_law_fields [.str (S "nnotn"), .bytes b, .int 0] H = some (Res.ok (.tuple [.int 0, .list (headL h), .int a0]) H) := sh
    have ha0 := rdHead_at hh (Nat.zero_le _)
    have h0 : ¬ ((0 : Int) < 0) := by decide
    refine g_unp (by lcg_sub) rfl rfl (g_if_f (by lcg_sub) (g_newl xs_nil (Nat.zero_le _) ?_))
    refine g_whl (LrI b h H) (b.length - a0) (by unfold KF; omega) ⟨[], a0, h.count, rfl, rfl, rfl, rfl, rfl, Nat.zero_add _, ha0, rfl, Nat.zero_le _, dec_o hh⟩ ?_
    rintro j ⟨σ, H'⟩ ⟨done, a, n', s0, s2, s3, s4, sH, hn, ha, rfl, hda, hr⟩
    obtain rfl : H' = _ := sH
    have ll := ll_ref (get_app (H := H) (o := .list (done.map runV)) (r := [])) (by rw [List.length_map]; lia)
    rw [List.length_map] at ll
    have ei : itemV (H ++ [.list (done.map runV)]) (.list (headL h)) (.int 4) = some (.int h.count) := hd_item (k := 4) rfl (by decide)
    cases n' with
    | zero =>
      have hc : ¬ ((done.length : Int) < h.count) := by lia
      exact .inl ⟨_, by lcg_sub, lr_end hl s0 s2 s3 s4 rfl (by lia) hr⟩
    | succ n' =>
      have hc : ((done.length : Int) < h.count) := by lia
      have sp := spec_fields (H := H ++ [.list (done.map runV)]) (a := a) (fun H => it_run) (by decide) hl ha
      rw [flds_run] at sp
      refine .inr ⟨_, by lcg_sub, ?_⟩
      cases hrr : rdRun b a with
      | error e =>
        rw [hrr] at sp
        obtain ⟨row, a2, sp⟩ := sp
        have he2 : (0 : Int) < e := by have := rdRun_err hrr; lia
        rw [show dec b = .error e from hr.trans (by rw [rr_e hrr]; rfl)]
        refine g_unp (by lcg_sub) rfl rfl (g_if_t (by lcg_sub) (g_ret (by lcg_sub) ?_))
        exact retC_ok _ rfl rfl rfl
      | ok p =>
        obtain ⟨r, a2⟩ := p
        rw [hrr] at sp
        replace sp : _ = some (Res.ok (.tuple [.int 0, .list (runL r), .int a2]) _) := sp
        obtain ⟨q1, q2⟩ := rdRun_at hrr ha
        have tl : typeV (H ++ [.list (done.map runV)]) "tuple" [.list (runL r)] = some (.tuple (runL r)) := ty_tuple_list (by decide : 5 ≤ 1000000)
        have h0 : ¬ ((0 : Int) < 0) := by decide
        have ga := get_app (H := H) (o := .list (done.map runV)) (r := [])
        have hd : (done.map runV).length ≤ 1000000 := by rw [List.length_map]; lia
        refine g_unp (by lcg_sub) rfl rfl (g_if_f (by lcg_sub) (g_expr (by lcg_sub) (g_nil ?_)))
        refine ⟨b.length - a2, by lia, done ++ [r], a2, n', s0, s2, rfl, s4, ?_, by rw [List.length_append, List.length_singleton]; lia, q1, rfl, by rw [List.length_append, List.length_singleton]; lia, hr.trans (rr_o hrr)⟩
        rw [List.map_append]; exact set_app
noncomputable def runA (r : Run) : List (Str × V) := [(S "level", .int r.level), (S "size", .int r.size), (S "check", .int r.check), (S "smallest", .bytes r.small), (S "largest", .bytes r.large)]
noncomputable abbrev runI (r : Run) : V := .inst 367 (runA r)
noncomputable def rowA (r : Row) : List (Str × V) := [(S "index", .int r.index), (S "term", .int r.term), (S "conf_octets", .bytes r.conf), (S "last_seq", .int r.last), (S "runs", .list (r.runs.map runI))]
noncomputable abbrev rowI (r : Row) : V := .inst 402 (rowA r)
theorem put_new {a : Str} {v : V} : ∀ {l : List (Str × V)}, ((l.map Prod.fst).all fun b => !(b == a)) = true → putAt a v l = l ++ [(a, v)]
  | [], _ => rfl
  | p :: l, h => by
    simp only [List.map_cons, List.all_cons, Bool.and_eq_true, Bool.not_eq_true', beq_eq_false_iff_ne] at h
    obtain ⟨b, u⟩ := p
    simp only [putAt_e1]
    rw [if_neg h.1, put_new h.2]; rfl
theorem g_new {φ : Tab} {P : Option V → St → Prop} {E : Addr → List O → Prop} {σ : Nat → Option V} {H : List O} {i : Nat} {C : Addr} {l : List (Str × V)} {m : Str} {v : V} {e o : X} {ys : List Y} (ks : List Str) (hk : l.map Prod.fst = ks) (hn : (ks.all fun b => !(b == m)) = true) (hc : (attrsOf C).contains m = true) (hl : Nat.ble l.length 100 = true) (hi : i < H.length)
    (h : evX φ e ⟨σ, H.set i (.inst C l)⟩ = some (.ok v ⟨σ, H.set i (.inst C l)⟩)) (ho : evX φ o ⟨σ, H.set i (.inst C l)⟩ = some (.ok (.ref i) ⟨σ, H.set i (.inst C l)⟩)) (h' : rz φ ys ⟨σ, H.set i (.inst C (l ++ [(m, v)]))⟩ P E) : rz φ (.seta o m e :: ys) ⟨σ, H.set i (.inst C l)⟩ P E := by
  refine g_seta h ho (a_set (at_ := l) (by show (H.set i _)[i]? = _; simp [hi]) hl hc) ?_
  rw [put_new (by rw [hk]; exact hn)]
  show rz φ ys ⟨σ, (H.set i _).set i _⟩ P E
  rw [set_set]
  exact h'
theorem set_id {H : List O} {i : Nat} {o : O} (h : H[i]? = some o) : H.set i o = H := by
  obtain ⟨hi, rfl⟩ := List.getElem?_eq_some_iff.mp h
  exact List.set_getElem_self hi
theorem spec_RunInfo_init {H : List O} {i l s c : Nat} {p q : List UInt8} (hi : H[i]? = some (.inst 367 [])) : c_RunInfo_init [.ref i, .int l, .int s, .int c, .bytes p, .bytes q] H = some (.ok .none (H.set i (.inst 367 (runA ⟨l, s, c, p, q⟩)))) := by
  have hl := (List.getElem?_eq_some_iff.mp hi).1
  refine ctR_g rfl ?_
  conv => arg 3; rw [← set_id hi]
  exact g_new [] rfl rfl (by decide) rfl hl (x_loc rfl) (x_loc rfl) (g_new [S "level"] rfl (by decide) (by decide) rfl hl (x_loc rfl) (x_loc rfl) (g_new [S "level", S "size"] rfl (by decide) (by decide) rfl hl (x_loc rfl) (x_loc rfl)
    (g_new [S "level", S "size", S "check"] rfl (by decide) (by decide) rfl hl (x_loc rfl) (x_loc rfl) (g_new [S "level", S "size", S "check", S "smallest"] rfl (by decide) (by decide) rfl hl (x_loc rfl) (x_loc rfl) (g_nil (ret_ok rfl rfl))))))
theorem spec_Manifesto_init {H : List O} {i : Nat} {row : Row} (hi : H[i]? = some (.inst 402 [])) : c_Manifesto_init [.ref i, .int row.index, .int row.term, .bytes row.conf, .int row.last, .list (row.runs.map runI)] H = some (.ok .none (H.set i (.inst 402 (rowA row)))) := by
  have hl := (List.getElem?_eq_some_iff.mp hi).1
  refine ctR_g rfl ?_
  conv => arg 3; rw [← set_id hi]
  exact g_new [] rfl rfl (by decide) rfl hl (x_loc rfl) (x_loc rfl) (g_new [S "index"] rfl (by decide) (by decide) rfl hl (x_loc rfl) (x_loc rfl) (g_new [S "index", S "term"] rfl (by decide) (by decide) rfl hl (x_loc rfl) (x_loc rfl)
    (g_new [S "index", S "term", S "conf_octets"] rfl (by decide) (by decide) rfl hl (x_loc rfl) (x_loc rfl) (g_new [S "index", S "term", S "conf_octets", S "last_seq"] rfl (by decide) (by decide) rfl hl (x_loc rfl) (x_loc rfl) (g_nil (ret_ok rfl rfl))))))
section
variable {st : St} {r : Run} {w : Row}
theorem run_level : attrV (runI r) (S "level") st = some (.ok (.int r.level) st) := a_get (C := 367) (at_ := runA r) rfl (by decide) (by rfl) (fun f q => by cases q)
theorem run_size : attrV (runI r) (S "size") st = some (.ok (.int r.size) st) := a_get (C := 367) (at_ := runA r) rfl (by decide) (by rfl) (fun f q => by cases q)
theorem run_check : attrV (runI r) (S "check") st = some (.ok (.int r.check) st) := a_get (C := 367) (at_ := runA r) rfl (by decide) (by rfl) (fun f q => by cases q)
theorem run_small : attrV (runI r) (S "smallest") st = some (.ok (.bytes r.small) st) := a_get (C := 367) (at_ := runA r) rfl (by decide) (by rfl) (fun f q => by cases q)
theorem run_large : attrV (runI r) (S "largest") st = some (.ok (.bytes r.large) st) := a_get (C := 367) (at_ := runA r) rfl (by decide) (by rfl) (fun f q => by cases q)
theorem row_index : attrV (rowI w) (S "index") st = some (.ok (.int w.index) st) := a_get (C := 402) (at_ := rowA w) rfl (by decide) (by rfl) (fun f q => by cases q)
theorem row_term : attrV (rowI w) (S "term") st = some (.ok (.int w.term) st) := a_get (C := 402) (at_ := rowA w) rfl (by decide) (by rfl) (fun f q => by cases q)
theorem row_conf : attrV (rowI w) (S "conf_octets") st = some (.ok (.bytes w.conf) st) := a_get (C := 402) (at_ := rowA w) rfl (by decide) (by rfl) (fun f q => by cases q)
theorem row_last : attrV (rowI w) (S "last_seq") st = some (.ok (.int w.last) st) := a_get (C := 402) (at_ := rowA w) rfl (by decide) (by rfl) (fun f q => by cases q)
theorem row_runs : attrV (rowI w) (S "runs") st = some (.ok (.list (w.runs.map runI)) st) := a_get (C := 402) (at_ := rowA w) rfl (by decide) (by rfl) (fun f q => by cases q)
end
theorem spec_RunInfo_row {H : List O} {r : Run} : c_RunInfo_row [runI r] H = some (.ok (runV r) H) :=
  ctR_g rfl (g_ret (x_tup (xs_cons (x_attr (x_loc rfl) run_level) (xs_cons (x_attr (x_loc rfl) run_size) (xs_cons (x_attr (x_loc rfl) run_check) (xs_cons (x_attr (x_loc rfl) run_small) (xs_cons (x_attr (x_loc rfl) run_large) xs_nil))))) (len_le rfl)) (ret_ok rfl rfl))
theorem mk_row {H : List O} {r : Run} : methK H (runI r) (S "row") = some (.fn 357) := mk_fn (C := 367) (at_ := runA r) rfl (by rfl) (by rfl)
theorem mk_Row {H : List O} {r : Row} : methK H (rowI r) (S "row") = some (.fn 392) := mk_fn (C := 402) (at_ := rowA r) rfl (by rfl) (by rfl)
theorem mk_enc {H : List O} {r : Row} : methK H (rowI r) (S "encode") = some (.fn 399) := mk_fn (C := 402) (at_ := rowA r) rfl (by rfl) (by rfl)
theorem mk_fits {H : List O} {r : Run} : methK H (runI r) (S "fits") = some (.fn 364) := mk_fn (C := 367) (at_ := runA r) rfl (by rfl) (by rfl)
noncomputable def MrI (w : Row) (H : List O) (r : List V) (st : St) : Prop := ∃ (done rest : List Run), r = rest.map runI ∧ done ++ rest = w.runs ∧ st.σ 0 = some (rowI w) ∧ st.σ 1 = some (.ref H.length) ∧ st.H = H ++ [.list (done.map runV)]
theorem spec_Manifesto_row {H : List O} {w : Row} (hw : w.runs.length ≤ 100000) : c_Manifesto_row [rowI w] H = some (.ok (rowV w) H) := by
  refine ctC_g rfl (g_newl xs_nil (Nat.zero_le _) ?_)
  refine g_for (MrI w H) (x_attr (x_loc rfl) row_runs) rfl ⟨[], w.runs, rfl, rfl, rfl, rfl, rfl⟩ ?_ ?_
  · rintro ⟨σ, H'⟩ ⟨done, rest, hr, hd, s0, s1, sH⟩
    obtain rfl : H' = _ := sH
    obtain rfl : rest = [] := List.map_eq_nil_iff.mp hr.symm
    rw [List.append_nil] at hd
    subst hd
    have tt := ty_tuple_ref (get_app (H := H) (o := .list (w.runs.map runV)) (r := [])) (by rw [List.length_map]; lia)
    have cl : cleanL [.int w.index, .int w.term, .bytes w.conf, .int w.last, .tuple (w.runs.map runV)] = true := by simp [cleanL_e0, cleanL_e1, clean_e1, clean_e6, clean_e9, clean_runs w.runs]
    exact g_ret (x_tup (xs_cons (x_attr (x_loc s0) row_index) (xs_cons (x_attr (x_loc s0) row_term) (xs_cons (x_attr (x_loc s0) row_conf) (xs_cons (x_attr (x_loc s0) row_last) (xs_cons (x_call (xs_cons (x_loc s1) xs_nil) (c_tuple tt)) xs_nil))))) (len_le rfl)) (retC_ok _ (r_tup rfl cl) rfl rfl)
  · rintro v r ⟨σ, H'⟩ ⟨done, rest, hr, hd, s0, s1, sH⟩
    obtain rfl : H' = _ := sH
    induction rest using List.casesOn with
    | nil => cases hr
    | cons x rest =>
      cases hr
      have hl : (done.map runV).length ≤ 1000000 := by have := congrArg List.length hd; rw [List.length_append] at this; rw [List.length_map]; lia
      have e := spec_RunInfo_row (H := H ++ [.list (done.map runV)]) (r := x)
      have ga := get_app (H := H) (o := .list (done.map runV)) (r := [])
      refine g_expr (x_meth (x_loc s1) (mk_lapp ga) (xs_cons (x_meth (x_loc put_eq) mk_row xs_nil (m_fn rfl rfl e)) xs_nil) (d_lapp ga hl)) (g_nil ?_)
      refine ⟨done ++ [x], rest, rfl, by rw [← hd, List.append_assoc]; rfl, s0, s1, ?_⟩
      rw [List.map_append]; exact set_app
section
variable {σ : Nat → Option V} {H r : List O} {d : V} {b : List UInt8} {a : Nat}
theorem mk_cv : methK (H ++ cur d a :: r) (.ref H.length) (S "varint") = some (.fn 203) := mk_fn (ii_ref get_app) (by rfl) (by rfl)
theorem mk_cf : methK (H ++ cur d a :: r) (.ref H.length) (S "fixed32") = some (.fn 210) := mk_fn (ii_ref get_app) (by rfl) (by rfl)
theorem mk_cl : methK (H ++ cur d a :: r) (.ref H.length) (S "lengthed") = some (.fn 224) := mk_fn (ii_ref get_app) (by rfl) (by rfl)
theorem mk_cd : methK (H ++ cur d a :: r) (.ref H.length) (S "done") = some (.fn 252) := mk_fn (ii_ref get_app) (by rfl) (by rfl)
theorem c_me {m : Str} {f : Addr} {ct : Ct} {v : V} {H' : List O} (hm : methK H (.ref a) m = some (.fn f)) (hl : p27.lookup f = some ct) (h : ct [.ref a] H = some (.ok v H')) (s1 : σ 1 = some (.ref a)) : evX p27 (.meth (.loc 1) m []) ⟨σ, H⟩ = some (.ok v ⟨σ, H'⟩) := x_meth (x_loc s1) hm xs_nil (m_fn (s1 := ⟨σ, H⟩) rfl hl h)
theorem c_me_e {m : Str} {f : Addr} {ct : Ct} {k : Addr} {H' : List O} (hm : methK H (.ref a) m = some (.fn f)) (hl : p27.lookup f = some ct) (h : ct [.ref a] H = some (.exc k H')) (s1 : σ 1 = some (.ref a)) : evX p27 (.meth (.loc 1) m []) ⟨σ, H⟩ = some (.exc k ⟨σ, H'⟩) := x_meth_e (x_loc s1) hm xs_nil (m_fn_e (s1 := ⟨σ, H⟩) rfl hl h)
variable (h : BD H d b) (hl : b.length ≤ 90000) (ha : a ≤ b.length) (s1 : σ 1 = some (.ref H.length))
include h hl ha s1
theorem c_vi {n a' : Nat} (q : num b a 10 M64 = .ok (n, a')) : evX p27 (.meth (.loc 1) (S "varint") []) ⟨σ, H ++ cur d a :: r⟩ = some (.ok (.int n) ⟨σ, H ++ cur d a' :: r⟩) :=
  c_me mk_cv rfl ((spec_Cursor_varint h.app (by lia) ha get_app).trans (by rw [q]; dsimp only; rw [set_app])) s1
theorem c_vi_e {e : Nat} (q : num b a 10 M64 = .error e) : evX p27 (.meth (.loc 1) (S "varint") []) ⟨σ, H ++ cur d a :: r⟩ = some (.exc (exk e) ⟨σ, H ++ cur d a :: r⟩) :=
  c_me_e mk_cv rfl ((spec_Cursor_varint h.app (by omega) ha get_app).trans (by rw [q])) s1
theorem c_fi {n a' : Nat} (q : rdX b a = .ok (n, a')) : evX p27 (.meth (.loc 1) (S "fixed32") []) ⟨σ, H ++ cur d a :: r⟩ = some (.ok (.int n) ⟨σ, H ++ cur d a' :: r⟩) :=
  c_me mk_cf rfl ((spec_Cursor_fixed32 h.app (by omega) ha get_app).trans (by rw [q]; dsimp only; rw [set_app])) s1
theorem c_fi_e {e : Nat} (q : rdX b a = .error e) : evX p27 (.meth (.loc 1) (S "fixed32") []) ⟨σ, H ++ cur d a :: r⟩ = some (.exc (exk e) ⟨σ, H ++ cur d a :: r⟩) :=
  c_me_e mk_cf rfl ((spec_Cursor_fixed32 h.app (by omega) ha get_app).trans (by rw [q])) s1
theorem c_le {x : List UInt8} {a' : Nat} (q : rdT b a = .ok (x, a')) : evX p27 (.meth (.loc 1) (S "lengthed") []) ⟨σ, H ++ cur d a :: r⟩ = some (.ok (.bytes x) ⟨σ, H ++ cur d a' :: r⟩) :=
  c_me mk_cl rfl ((spec_Cursor_lengthed h.app (by omega) ha get_app).trans (by rw [q]; dsimp only; rw [set_app])) s1
theorem c_le_e {e : Nat} (q : rdT b a = .error e) : evX p27 (.meth (.loc 1) (S "lengthed") []) ⟨σ, H ++ cur d a :: r⟩ = some (.exc (exk e) ⟨σ, H ++ cur d a :: r⟩) :=
  c_me_e mk_cl rfl ((spec_Cursor_lengthed h.app (by omega) ha get_app).trans (by rw [q])) s1
theorem c_do (q : ¬ a < b.length) : evX p27 (.meth (.loc 1) (S "done") []) ⟨σ, H ++ cur d a :: r⟩ = some (.ok .none ⟨σ, H ++ cur d a :: r⟩) :=
  c_me mk_cd rfl ((spec_Cursor_done h.app (by lia) ha get_app).trans (by rw [if_neg q])) s1
theorem c_do_e (q : a < b.length) : evX p27 (.meth (.loc 1) (S "done") []) ⟨σ, H ++ cur d a :: r⟩ = some (.exc 56 ⟨σ, H ++ cur d a :: r⟩) :=
  c_me_e mk_cd rfl ((spec_Cursor_done h.app (by omega) ha get_app).trans (by rw [if_pos q])) s1
end
theorem get_app1 {H : List O} {x y : O} {r : List O} : (H ++ x :: y :: r)[H.length + 1]? = some y := by simp
theorem set_app1 {H : List O} {x y z : O} {r : List O} : (H ++ x :: y :: r).set (H.length + 1) z = H ++ x :: z :: r := by simp
theorem c_run {σ : Nat → Option V} {H r : List O} {x y : O} {w : Run} (z8 : σ 8 = some (.int w.level)) (z9 : σ 9 = some (.int w.size)) (z10 : σ 10 = some (.int w.check)) (z11 : σ 11 = some (.bytes w.small)) (z12 : σ 12 = some (.bytes w.large)) :
    evX p27 (.call (.ref 367) [(.loc 8), (.loc 9), (.loc 10), (.loc 11), (.loc 12)]) ⟨σ, H ++ x :: y :: r⟩ = some (.ok (runI w) ⟨σ, H ++ x :: y :: (r ++ [.frozen (runI w)])⟩) := by
  have hi : ∀ K : List O, (K ++ [O.inst 367 []])[K.length]? = some (.inst 367 []) := fun K => get_app
  have e := fun K : List O => (spec_RunInfo_init (l := w.level) (s := w.size) (c := w.check) (p := w.small) (q := w.large) (hi K)).trans (by rw [set_app])
  refine (x_call (xs_cons (x_loc z8) (xs_cons (x_loc z9) (xs_cons (x_loc z10) (xs_cons (x_loc z11) (xs_cons (x_loc z12) xs_nil))))) (c_cls rfl rfl rfl (e _) (made_t get_app))).trans ?_
  rw [set_app]
  simp
noncomputable def dcO (H : List O) : Except Nat Row → Res
  | .ok row => .ok (rowI row) H
  | .error e => .exc (exk e) H
theorem dc_err {H ext : List O} {b : List UInt8} {e : Nat} (h : dec b = .error e) : ExcC H (dcO H (dec b)) (exk e) (H ++ ext) := ⟨by rw [h]; rfl, ext, rfl⟩
noncomputable def DlI (b : List UInt8) (h : Head) (d : V) (H : List O) (j : Nat) (st : St) : Prop := ∃ (done : List Run) (a n' : Nat) (ext : List O), st.σ 1 = some (.ref H.length) ∧ st.σ 2 = some (.int h.index) ∧ st.σ 3 = some (.int h.term) ∧ st.σ 4 = some (.int h.last) ∧ st.σ 5 = some (.bytes h.conf) ∧ st.σ 6 = some (.int h.count) ∧ st.σ 7 = some (.ref (H.length + 1)) ∧ st.H = H ++ cur d a :: .list (done.map runI) :: ext ∧ done.length + n' = h.count ∧ a ≤ b.length ∧ j = b.length - a ∧ done.length ≤ a ∧ dec b = lrF b h done (rdRuns b n' a)
noncomputable def dlB : List Y := [.set 8 (.meth (.loc 1) (S "varint") []),
    .ifs (.cmp .GtE (.loc 8) (.val (.int 12))) [.raise 56 [(.fstr [(.loc 8)])]] [],
    .set 9 (.meth (.loc 1) (S "varint") []),
    .set 10 (.meth (.loc 1) (S "fixed32") []),
    .set 11 (.meth (.loc 1) (S "lengthed") []),
    .set 12 (.meth (.loc 1) (S "lengthed") []),
    .expr (.meth (.loc 7) (S "append") [(.call (.ref 367) [(.loc 8), (.loc 9), (.loc 10), (.loc 11), (.loc 12)])])]
theorem dl_body {H : List O} {d : V} {b : List UInt8} {h : Head} {done : List Run} {a n' : Nat} {ext : List O} {σ : Nat → Option V} (hd : BD H d b) (hl : b.length ≤ 90000) (s1 : σ 1 = some (.ref H.length)) (s2 : σ 2 = some (.int h.index)) (s3 : σ 3 = some (.int h.term)) (s4 : σ 4 = some (.int h.last)) (s5 : σ 5 = some (.bytes h.conf)) (s6 : σ 6 = some (.int h.count)) (s7 : σ 7 = some (.ref (H.length + 1)))
    (hn : done.length + (n' + 1) = h.count) (ha : a ≤ b.length) (hda : done.length ≤ a) (hr : dec b = lrF b h done (rdRuns b (n' + 1) a)) :
    rz p27 dlB ⟨σ, H ++ cur d a :: .list (done.map runI) :: ext⟩ (WhlP (DlI b h d H) (b.length - a) (RetC H (dcO H (dec b)))) (ExcC H (dcO H (dec b))) := by
  have er : ∀ {e : Nat}, rdRun b a = .error e → dec b = .error e := fun q => hr.trans (by rw [rr_e q]; rfl)
  cases h1 : num b a 10 M64 with
  | error e => exact g_set_e (c_vi_e hd hl ha (by exact s1) h1) (dc_err (er (by simp only [rdRun, rdL, h1])))
  | ok p =>
    obtain ⟨l, a1⟩ := p
    have q1 := num_at h1 ha
    refine g_set (c_vi hd hl ha (by exact s1) h1) ?_
    by_cases hlv : l < 12
    · have hlv' : ¬ ((12 : Int) ≤ l) := by lia
      refine g_if_f (by lcg_sub) ?_
      cases h2 : num b a1 10 M64 with
      | error e => exact g_set_e (c_vi_e hd hl q1.1 (by exact s1) h2) (dc_err (er (by simp only [rdRun, rdL, h1, if_pos hlv, rdN, h2])))
      | ok p =>
        obtain ⟨sz, a2⟩ := p
        have q2 := num_at h2 q1.1
        refine g_set (c_vi hd hl q1.1 (by exact s1) h2) ?_
        cases h3 : rdX b a2 with
        | error e => exact g_set_e (c_fi_e hd hl q2.1 (by exact s1) h3) (dc_err (er (by simp only [rdRun, rdL, h1, if_pos hlv, rdN, h2, h3])))
        | ok p =>
          obtain ⟨ck, a3⟩ := p
          have q3 := rdX_at h3
          have ha3 : a3 ≤ b.length := by lia
          refine g_set (c_fi hd hl q2.1 (by exact s1) h3) ?_
          cases h4 : rdT b a3 with
          | error e => exact g_set_e (c_le_e hd hl ha3 (by exact s1) h4) (dc_err (er (by simp only [rdRun, rdL, h1, if_pos hlv, rdN, h2, h3, h4])))
          | ok p =>
            obtain ⟨x4, a4⟩ := p
            have ha4 : a4 ≤ b.length := by obtain ⟨n4, b4, g4, rfl, g, _⟩ := rdT_at h4; exact g
            refine g_set (c_le hd hl ha3 (by exact s1) h4) ?_
            cases h5 : rdT b a4 with
            | error e => exact g_set_e (c_le_e hd hl ha4 (by exact s1) h5) (dc_err (er (by simp only [rdRun, rdL, h1, if_pos hlv, rdN, h2, h3, h4, h5])))
            | ok p =>
              obtain ⟨x5, a5⟩ := p
              have hrun : rdRun b a = .ok (⟨l, sz, ck, x4, x5⟩, a5) := by simp only [rdRun, rdL, h1, if_pos hlv, rdN, h2, h3, h4, h5]
              have q5 := rdRun_at hrun ha
              have hdl : (done.map runI).length ≤ 1000000 := by rw [List.length_map]; lia
              refine g_set (c_le hd hl ha4 (by exact s1) h5) (g_expr (x_meth (x_loc s7) (mk_lapp get_app1) (xs_cons (c_run (w := ⟨l, sz, ck, x4, x5⟩) rfl rfl rfl rfl rfl) xs_nil) (d_lapp get_app1 hdl)) (g_nil ?_))
              refine ⟨b.length - a5, by omega, done ++ [⟨l, sz, ck, x4, x5⟩], a5, n', ext ++ [.frozen (runI ⟨l, sz, ck, x4, x5⟩)], s1, s2, s3, s4, s5, s6, s7, ?_, by rw [List.length_append, List.length_singleton]; lia, q5.1, rfl, by rw [List.length_append, List.length_singleton]; lia, hr.trans (rr_o hrun)⟩
              rw [List.map_append]; exact set_app1
    · have hlv' : ((12 : Int) ≤ l) := by lia
      have g : (l : Int).natAbs < 10 ^ 100 := Nat.lt_of_le_of_lt (show (l : Int).natAbs ≤ M64 by omega) (by decide)
      refine g_if_t (by lcg_sub) (g_raise (by lcg_sub) ?_)
      exact dc_err (e := 2) (er (by simp only [rdRun, rdL, h1, if_neg hlv]))
theorem clean_row {w : Row} : cleanA (rowA w) = true := by
  have : ∀ rs : List Run, cleanL (rs.map runI) = true := fun rs => by
    induction rs with
    | nil => rfl
    | cons r rs ih => simp [cleanL_e1, clean_e3, clean_e6, clean_e9, cleanA_e0, cleanA_e1, runA, ih]
  simp [rowA, cleanA_e0, cleanA_e1, clean_e2, clean_e6, clean_e9, this]
theorem dl_end {H : List O} {d : V} {b : List UInt8} {h : Head} {done : List Run} {a : Nat} {ext : List O} {σ : Nat → Option V} (hd : BD H d b) (hl : b.length ≤ 90000) (s1 : σ 1 = some (.ref H.length)) (s2 : σ 2 = some (.int h.index)) (s3 : σ 3 = some (.int h.term)) (s4 : σ 4 = some (.int h.last)) (s5 : σ 5 = some (.bytes h.conf)) (s7 : σ 7 = some (.ref (H.length + 1)))
    (ha : a ≤ b.length) (hr : dec b = lrF b h done (.ok ([], a))) :
    rz p27 (y_decode_manifesto.drop 9) ⟨σ, H ++ cur d a :: .list (done.map runI) :: ext⟩ (RetC H (dcO H (dec b))) (ExcC H (dcO H (dec b))) := by
  by_cases hx : a < b.length
  · exact g_expr_e (c_do_e hd hl ha (by exact s1) hx) (dc_err (e := 2) (hr.trans (if_pos hx)))
  · have hr2 : dec b = .ok ⟨h.index, h.term, h.last, h.conf, done⟩ := hr.trans ((if_neg hx).trans (by rw [List.append_nil]))
    have hi : ∀ K : List O, (K ++ [O.inst 402 []])[K.length]? = some (.inst 402 []) := fun K => get_app
    have sm := fun K : List O => (spec_Manifesto_init (row := ⟨h.index, h.term, h.last, h.conf, done⟩) (hi K)).trans (by rw [set_app])
    refine g_expr (c_do hd hl ha (by exact s1) hx) (g_ret (x_call (xs_cons (x_loc s2) (xs_cons (x_loc s3) (xs_cons (x_loc s5) (xs_cons (x_loc s4) (xs_cons (x_loc s7) xs_nil))))) (c_cls rfl (z_cons rfl (z_cons rfl (z_cons rfl (z_cons rfl (z_cons (z_list get_app1) z_nil))))) rfl (sm _) (made_t get_app))) ?_)
    refine retC_ok (cur d a :: .frozen (.list (done.map runI)) :: ext ++ [.frozen (rowI ⟨h.index, h.term, h.last, h.conf, done⟩)]) (r_inst clean_row) (by rw [hr2]; rfl) ?_
    show ((H ++ cur d a :: .list (done.map runI) :: ext).set (H.length + 1) _ ++ [_]).set _ _ = _
    rw [set_app, set_app1]
    simp
theorem dc_loop {H : List O} {d : V} {b : List UInt8} {h : Head} {a0 : Nat} {σ : Nat → Option V} (hd : BD H d b) (hl : b.length ≤ 90000) (s1 : σ 1 = some (.ref H.length)) (s2 : σ 2 = some (.int h.index)) (s3 : σ 3 = some (.int h.term)) (s4 : σ 4 = some (.int h.last)) (s5 : σ 5 = some (.bytes h.conf)) (s6 : σ 6 = some (.int h.count)) (s7 : σ 7 = some (.ref (H.length + 1)))
    (ha : a0 ≤ b.length) (hr : dec b = lrF b h [] (rdRuns b h.count a0)) :
    rz p27 (y_decode_manifesto.drop 8) ⟨σ, H ++ [cur d a0, .list []]⟩ (RetC H (dcO H (dec b))) (ExcC H (dcO H (dec b))) := by
  refine g_whl (DlI b h d H) (b.length - a0) (by unfold KF; omega) ⟨[], a0, h.count, [], s1, s2, s3, s4, s5, s6, s7, rfl, Nat.zero_add _, ha, rfl, Nat.zero_le _, hr⟩ ?_
  rintro j ⟨σ, H'⟩ ⟨done, a, n', ext, s1, s2, s3, s4, s5, s6, s7, sH, hn, ha, rfl, hda, hr⟩
  obtain rfl : H' = _ := sH
  have ll := ll_ref (get_app1 (H := H) (x := cur d a) (y := .list (done.map runI)) (r := ext)) (by rw [List.length_map]; lia)
  rw [List.length_map] at ll
  cases n' with
  | zero =>
    have hc : ¬ ((done.length : Int) < h.count) := by lia
    exact .inl ⟨_, by lcg_sub, dl_end hd hl s1 s2 s3 s4 s5 s7 ha hr⟩
  | succ n' =>
    have hc : ((done.length : Int) < h.count) := by lia
    exact .inr ⟨_, by lcg_sub, dl_body hd hl s1 s2 s3 s4 s5 s6 s7 hn ha hda hr⟩
theorem spec_decode {H : List O} {d : V} {b : List UInt8} (hd : BD H d b) (hl : b.length ≤ 90000) : c_decode_manifesto [d] H = some (match dec b with | .ok row => .ok (rowI row) H | .error e => .exc (exk e) H) := by
  have hb := hd.by
  have e0 : c_Cursor_init [.ref H.length, d] (H ++ [O.inst 255 []]) = some (.ok .none (H ++ [cur d 0])) := by
    rw [spec_Cursor_init (b := b) (i := H.length) hd.app (by lia) get_app, set_app]
  have z0 : 0 ≤ b.length := Nat.zero_le _
  refine (ctC_g (o := dcO H (dec b)) rfl (g_set (x_call (xs_cons (x_loc rfl) xs_nil) (c_cls rfl (z_cons (z_by hb) z_nil) rfl e0 rfl)) ?_)).trans (by cases dec b <;> rfl)
  cases h1 : num b 0 10 M64 with
  | error e => exact g_set_e (c_vi_e hd hl z0 (by exact rfl) h1) (dc_err (dec_e (by simp only [rdHead, rdN, h1])))
  | ok p =>
    obtain ⟨n1, a1⟩ := p
    have q1 := (num_at h1 z0).1
    refine g_set (c_vi hd hl z0 (by exact rfl) h1) ?_
    cases h2 : num b a1 10 M64 with
    | error e => exact g_set_e (c_vi_e hd hl q1 (by exact rfl) h2) (dc_err (dec_e (by simp only [rdHead, rdN, h1, h2])))
    | ok p =>
      obtain ⟨n2, a2⟩ := p
      have q2 := (num_at h2 q1).1
      refine g_set (c_vi hd hl q1 (by exact rfl) h2) ?_
      cases h3 : num b a2 10 M64 with
      | error e => exact g_set_e (c_vi_e hd hl q2 (by exact rfl) h3) (dc_err (dec_e (by simp only [rdHead, rdN, rdO, h1, h2, h3])))
      | ok p =>
        obtain ⟨n3, a3⟩ := p
        have q3 := (num_at h3 q2)
        refine g_set (c_vi hd hl q2 (by exact rfl) h3) ?_
        by_cases hlv : n3 < 2 ^ 56
        · have hlv' : ¬ ((72057594037927935 : Int) < n3) := by lia
          refine g_if_f (by lcg_sub) ?_
          cases h4 : rdT b a3 with
          | error e => exact g_set_e (c_le_e hd hl q3.1 (by exact rfl) h4) (dc_err (dec_e (by simp only [rdHead, rdN, rdO, h1, h2, h3, if_pos hlv, h4])))
          | ok p =>
            obtain ⟨x4, a4⟩ := p
            have q4 : a4 ≤ b.length := by obtain ⟨n4, b4, g4, rfl, g, _⟩ := rdT_at h4; exact g
            refine g_set (c_le hd hl q3.1 (by exact rfl) h4) ?_
            cases h5 : num b a4 10 M64 with
            | error e => exact g_set_e (c_vi_e hd hl q4 (by exact rfl) h5) (dc_err (dec_e (by simp only [rdHead, rdN, rdO, h1, h2, h3, if_pos hlv, h4, h5])))
            | ok p =>
              obtain ⟨n5, a5⟩ := p
              have hh : rdHead b 0 = .ok (⟨n1, n2, n3, x4, n5⟩, a5) := by simp only [rdHead, rdN, rdO, h1, h2, h3, if_pos hlv, h4, h5]
              refine g_set (c_vi hd hl q4 (by exact rfl) h5) (g_newl xs_nil (Nat.zero_le _) ?_)
              rw [List.append_assoc, show (H ++ [cur d a5]).length = H.length + 1 from List.length_append]
              exact dc_loop (h := ⟨n1, n2, n3, x4, n5⟩) hd hl rfl rfl rfl rfl rfl rfl rfl (num_at h5 q4).1 (dec_o hh)
        · have hlv' : ((72057594037927935 : Int) < n3) := by omega
          have g : (n3 : Int).natAbs < 10 ^ 100 := Nat.lt_of_le_of_lt (show (n3 : Int).natAbs ≤ M64 by omega) (by decide)
          refine g_if_t (by lcg_sub) (g_raise (by lcg_sub) ?_)
          exact dc_err (e := 2) (dec_e (by simp only [rdHead, rdN, rdO, h1, h2, h3, if_neg hlv]))
theorem bv_mod {H : List O} {n k : Nat} (hk : k ≠ 0) : binV H .Mod (.int n) (.int k) = some (.int ((n % k : Nat) : Int)) := (if_neg (by lia)).trans (congrArg (fun i => some (V.int i)) (fmodn n k))
theorem bv_div {H : List O} {n k : Nat} (hk : k ≠ 0) (h2 : k < 100000000) : binV H .FloorDiv (.int n) (.int k) = some (.int ((n / k : Nat) : Int)) := (if_neg (by lia)).trans (congrArg (fun i => some (V.int i)) (fdivn n k))
theorem bv_cat {H : List O} {a b : List UInt8} (h : a.length + b.length ≤ 16777216) : binV H .Add (.bytes a) (.bytes b) = some (.bytes (a ++ b)) := if_pos h
noncomputable def WvI (n : Nat) (H : List O) (m : Nat) (st : St) : Prop := ∃ (x : Nat) (acc : List UInt8), st.σ 0 = some (.int x) ∧ st.σ 1 = some (.bytes acc) ∧ st.H = H ∧ acc ++ enc x = enc n ∧ x < 128 ^ (m + 1) ∧ acc.length + m ≤ 20
theorem spec_law_varint {n : Nat} {H : List O} (h : n < 2 ^ 64) : c_law_varint [.int n] H = some (.ok (.bytes (enc n)) H) := by
  refine ctR_g rfl (g_set x_val (g_whl (WvI n H) 10 (by unfold KF; lia) ⟨n, [], rfl, rfl, rfl, rfl, Nat.lt_of_lt_of_le h (by decide), by decide⟩ ?_))
  rintro m ⟨σ, H'⟩ ⟨x, acc, s0, s1, sH, e4, e5, e6⟩
  obtain rfl : H' = _ := sH
  by_cases hx : x < 128
  · have hx' : ¬ ((128 : Int) ≤ x) := by lia
    have t1 := ty_one (H := H') (show x < 256 by lia)
    have bc : binV H' .Add (.bytes acc) (.bytes [x.toUInt8]) = _ := bv_cat (by simp; lia)
    rw [← e4, enc_small hx]
    exact .inl ⟨_, by lcg_sub, g_ret (by lcg_sub) (ret_ok rfl rfl)⟩
  · have hx' : ((128 : Int) ≤ x) := by lia
    have t1 : typeV H' "bytes" [.list [.int (((x % 128 : Nat) : Int) + 128)]] = _ := ty_one (H := H') (show x % 128 + 128 < 256 by lia)
    have m1 : binV H' .Mod (.int x) (.int 128) = _ := bv_mod (n := x) (k := 128) (by decide)
    have d1 : binV H' .FloorDiv (.int x) (.int 128) = _ := bv_div (n := x) (k := 128) (by decide) (by decide)
    have bc : binV H' .Add (.bytes acc) (.bytes [(x % 128 + 128).toUInt8]) = _ := bv_cat (by simp; omega)
    rw [enc_big hx] at e4
    induction m using Nat.casesOn with
    | zero => exact absurd e5 (by omega)
    | succ m =>
      refine .inr ⟨_, by lcg_sub, g_set (by lcg_sub) (g_set (by lcg_sub) (g_nil ?_))⟩
      refine ⟨m, Nat.lt_succ_self m, x / 128, acc ++ [(x % 128 + 128).toUInt8], rfl, rfl, rfl, ?_, ?_, ?_⟩
      · rw [← e4, List.append_assoc]; rfl
      · rw [Nat.div_lt_iff_lt_mul (by decide)]; rw [Nat.pow_succ] at e5; exact e5
      · rw [List.length_append, List.length_singleton]; lia
inductive PVal where
  | n (n : Nat) | o (n : Nat) | l (n : Nat) | x (n : Nat) | t (b : List UInt8)
noncomputable def PVal.k : PVal → K
  | .n _ => .n | .o _ => .o | .l _ => .l | .x _ => .x | .t _ => .t
noncomputable def PVal.v : PVal → V
  | .n m => .int m | .o m => .int m | .l m => .int m | .x m => .int m | .t b => .bytes b
noncomputable def PVal.e : PVal → List UInt8
  | .n m => enc m | .o m => enc m | .l m => enc m | .x m => le4 m | .t b => enc b.length ++ b
noncomputable def PVal.ok : PVal → Prop
  | .n m => m < 2 ^ 64 | .o m => m < 2 ^ 64 | .l m => m < 2 ^ 64 | .x m => m < 2 ^ 32 | .t b => b.length ≤ 10000
theorem part_int {H : List O} {c : Str} {n : Nat} (h1 : (c == S "x") = false) (h2 : (c == S "t") = false) (hn : n < 2 ^ 64) : c_law_part [.str c, .int n] H = some (.ok (.bytes (enc n)) H) := by
  have e := spec_law_varint (H := H) hn
  exact ctR_g rfl (g_if_f (t_cmp (by lcg_sub) (by lcg_sub) (c_seq h1)) (g_if_f (t_cmp (by lcg_sub) (by lcg_sub) (c_seq h2)) (g_ret (by lcg_sub) (ret_ok rfl rfl))))
noncomputable def prtE : X := .bin .Mod (.bin .FloorDiv (.loc 101) (.bin .Pow (.val (.int 256)) (.loc 999))) (.val (.int 256))
theorem prtE_ok {st : St} {n k q : Nat} (z1 : st.σ 101 = some (.int n)) (hp : (256 : Int) ^ k = (q : Nat)) (hk : k ≤ 10) (h0 : q ≠ 0) (h1 : q < 100000000) : evX p33 prtE (st.put 999 (.int k)) = some (.ok (.int (n / q % 256 : Nat)) (st.put 999 (.int k))) :=
  x_bin (x_bin (x_loc z1) (x_bin x_val (x_loc put_eq) ((pow256 (by lia)).trans (congrArg (fun i => some (V.int i)) hp))) (bv_div h0 h1)) x_val (bv_mod (k := 256) (by decide))
theorem spec_part {H : List O} {p : PVal} (h : p.ok) : c_law_part [.str (kstr p.k), p.v] H = some (.ok (.bytes p.e) H) := by
  induction p using PVal.casesOn with
  | n n => exact part_int sq_nx sq_nt h
  | o n => exact part_int sq_ox sq_ot h
  | l n => exact part_int sq_lx sq_lt h
  | x n =>
    have hn : n < 2 ^ 32 := h
    have t4 := ty_four (H := H) (a := n / 1 % 256) (b := n / 256 % 256) (c := n / 65536 % 256) (d := n / 16777216 % 256) (by lia) (by lia) (by lia) (by omega)
    have hc : ∀ st : St, st.σ 101 = some (.int n) → compV (evX p33 prtE) 999 [.int (0 : Nat), .int (1 : Nat), .int (2 : Nat), .int (3 : Nat)] st = some (.ok [.int (n / 1 % 256 : Nat), .int (n / 256 % 256 : Nat), .int (n / 65536 % 256 : Nat), .int (n / 16777216 % 256 : Nat)] st) := fun st z =>
      co_cons (prtE_ok z (by decide) (by decide) (by decide) (by decide)) (co_cons (prtE_ok z (by decide) (by decide) (by decide) (by decide)) (co_cons (prtE_ok z (by decide) (by decide) (by decide) (by decide)) (co_cons (prtE_ok z (by decide) (by decide) (by decide) (by decide)) co_nil)))
    refine ctR_g rfl (g_if_t (t_cmp (by lcg_sub) (by lcg_sub) (c_seq sq_xx)) (g_ret (x_call (xs_cons (x_comp (e := prtE) (x_call (xs_cons x_val xs_nil) (c_range (tv_range (n := (4 : Nat))))) ((rng_items (H := H) 4 (by decide)).trans rfl) (hc _ rfl) (len_le rfl)) xs_nil) (c_bytes t4)) ?_))
    refine ret_ok rfl ?_
    rw [Nat.div_one]; rfl
  | t b =>
    have hb : b.length ≤ 10000 := h
    have el := enc_len2 9 b.length (Nat.lt_of_le_of_lt hb (by decide))
    have e1 := spec_law_varint (n := b.length) (H := H) (by lia)
    have e2 : binV H .Add (.bytes (enc b.length)) (.bytes b) = _ := bv_cat (by lia)
    have bl := bl_len (H := H) (b := b) (by lia)
    exact ctR_g rfl (g_if_f (t_cmp (by lcg_sub) (by lcg_sub) (c_seq sq_tx)) (g_if_t (t_cmp (by lcg_sub) (by lcg_sub) (c_seq sq_tt)) (g_ret (x_bin (x_call (xs_cons (x_call (xs_cons (x_loc rfl) xs_nil) (c_len bl)) xs_nil) (c_fn rfl rfl rfl e1)) (x_loc rfl) e2) (ret_ok rfl rfl))))
noncomputable def prR (r : Run) : List PVal := [.l r.level, .n r.size, .x r.check, .t r.small, .t r.large]
noncomputable def prH (w : Row) : List PVal := [.n w.index, .n w.term, .o w.last, .t w.conf, .n w.runs.length]
noncomputable def prs (w : Row) : List PVal := prH w ++ w.runs.flatMap prR
noncomputable def encRow (w : Row) : List UInt8 := (prs w).flatMap PVal.e
structure RowOk (w : Row) : Prop where
  ok : ∀ p ∈ prs w, p.ok
  len : (encRow w).length ≤ 800000
  few : w.runs.length ≤ 10000
noncomputable def kcode : K → Nat
  | .n => 110 | .o => 111 | .l => 108 | .x => 120 | .t => 116
theorem one_k (k : K) : oneStr (kcode k) = kstr k := by induction k using K.casesOn <;> first | exact one_n | exact one_o | exact one_l | exact one_x | exact one_t
theorem str_app (x y : Str) : (x ++ y).cps.toList = x.cps.toList ++ y.cps.toList := by
  show (x.cps ++ y.cps).toList = _
  simp
theorem str_len (x : Str) : x.length = x.cps.toList.length := by simp [Str.length]
theorem bv_scat {H : List O} {x y : Str} (h : x.length + y.length ≤ 100000) : binV H .Add (.str x) (.str y) = some (.str (x ++ y)) := if_pos h
theorem bv_lcat {H : List O} {v : V} {l m : List V} (hv : listIn H v = some l) (hz : l.length + m.length ≤ 1000000) (hr : v = .list l ∨ ∃ i, v = .ref i) : binV H .Add v (.list m) = some (.list (l ++ m)) := by
  rcases hr with rfl | ⟨i, rfl⟩
  · exact if_pos hz
  · show (match listIn H (.ref i), listIn H (.list m) with | some l, some m => if l.length + m.length ≤ 1000000 then some (V.list (l ++ m)) else .none | _, _ => .none) = _
    rw [hv]; exact if_pos hz
theorem bl_list {H : List O} {l : List V} (hz : l.length ≤ 1000000) : builtinV H "len" [.list l] = some (.int l.length) := by
  unfold builtinV
  rw [if_pos rfl]
  exact if_pos hz
theorem bl_tup {H : List O} {l : List V} (hz : l.length ≤ 1000000) : builtinV H "len" [.tuple l] = some (.int l.length) := by
  unfold builtinV
  rw [if_pos rfl]
  exact if_pos hz
theorem tup_item {H : List O} {l : List V} {k : Nat} {v : V} (hk : l[k]? = some v) (hz : k < 1000000) : itemV H (.tuple l) (.int k) = some v := by
  unfold itemV
  dsimp only
  rw [if_pos (by lia), Int.toNat_natCast]
  exact hk
theorem it_list {H : List O} {x : V} {l : List V} {k : Nat} (hk : k < 1000000) (hx : l[k]? = some x) : itemV H (.list l) (.int k) = some x := by
  unfold itemV
  dsimp only
  rw [if_pos (by omega), Int.toNat_natCast]
  exact hx
theorem it_ref {H : List O} {x : V} {i : Nat} {l : List V} {k : Nat} (hv : listIn H (.ref i) = some l) (hk : k < 1000000) (hx : l[k]? = some x) : itemV H (.ref i) (.int k) = some x := by
  unfold itemV
  dsimp only
  rw [if_pos (by omega), Int.toNat_natCast, hv]
  exact hx
theorem it_str {H : List O} {s : Str} {k n : Nat} (hk : k < 1000000) (hx : s.cps.toList[k]? = some n) : itemV H (.str s) (.int k) = some (.str (oneStr n)) := by
  unfold itemV
  dsimp only
  rw [if_pos (by omega), Int.toNat_natCast, hx]; rfl
theorem ty_list {H : List O} {l : List V} (hz : l.length ≤ 1000000) : typeV H "list" [.tuple l] = some (.list l) := by
  unfold typeV
  rw [if_neg (by decide), if_neg (by decide), if_neg (by decide), if_pos rfl]
  exact if_pos hz
theorem prs_len (rs : List Run) : (rs.flatMap prR).length = 5 * rs.length := by
  induction rs with
  | nil => rfl
  | cons r rs ih => simp [List.flatMap_cons, prR, ih]; lia
theorem prH_len (w : Row) : (prH w).length = 5 := rfl
theorem fm_len {l : List PVal} : ∀ i, ((l.take i).flatMap PVal.e).length ≤ (l.flatMap PVal.e).length := fun i => by
  have : l.flatMap PVal.e = (l.take i).flatMap PVal.e ++ (l.drop i).flatMap PVal.e := by rw [← List.flatMap_append, List.take_append_drop]
  rw [this]; simp
noncomputable def idx (n : Nat) : List V := (List.range n).map fun (k : Nat) => V.int (k : Int)
theorem idx_drop {n k : Nat} (h : k < n) : (idx n).drop k = .int k :: (idx n).drop (k + 1) := by
  have hl : k < (idx n).length := by simpa [idx] using h
  rw [List.drop_eq_getElem_cons hl]
  simp [idx]
noncomputable def RngP (I : Nat → St → Prop) (k : Nat) (P : Option V → St → Prop) : Option V → St → Prop
  | .none, s => I k s
  | some v, s => P (some v) s
theorem g_rng {φ : Tab} {P : Option V → St → Prop} {E : Addr → List O → Prop} {st s1 : St} {i n : Nat} {it : X} {b ys : List Y} (I : Nat → St → Prop) (h : evX φ it st = some (.ok (.rng 0 n 1) s1)) (hn : n < 2 ^ 30) (hi : I 0 s1)
    (he : ∀ s, I n s → rz φ ys s P E) (hs : ∀ k s, k < n → I k s → rz φ b (s.put i (.int k)) (RngP I (k + 1) P) E) : rz φ (.fors i it b :: ys) st P E := by
  refine g_for (fun r s => ∃ k, k ≤ n ∧ r = (idx n).drop k ∧ I k s) h (rng_items n hn) ⟨0, Nat.zero_le n, rfl, hi⟩ ?_ ?_
  · rintro s ⟨k, hk, hr, hI⟩
    have := congrArg List.length hr
    rw [List.length_drop, show (idx n).length = n by simp [idx]] at this
    have hz : 0 = n - k := this
    obtain rfl : k = n := by lia
    exact he s hI
  · rintro v r s ⟨k, hk, hr, hI⟩
    by_cases hlt : k < n
    · rw [idx_drop hlt] at hr
      cases hr
      have := hs k s hlt hI
      rw [rz_eq] at this ⊢
      refine rn_mono this (fun f s q => ?_) fun _ _ q => q
      induction f using Option.casesOn with
      | none => exact ⟨k + 1, hlt, rfl, q⟩
      | some v => exact q
    · rw [List.drop_eq_nil_of_le (by simp [idx]; lia)] at hr
      cases hr
noncomputable def Lv (H : List O) (M L : List V) (v : V) : Prop := v = .list L ∨ (v = .ref H.length ∧ L = M)
theorem Lv.in {H r : List O} {M L : List V} {v : V} (h : Lv H M L v) : listIn (H ++ .list M :: r) v = some L := by
  rcases h with rfl | ⟨rfl, rfl⟩
  · rfl
  · simp only [listIn, get_app]
theorem Lv.or {H : List O} {M L : List V} {v : V} (h : Lv H M L v) : v = .list L ∨ ∃ i, v = .ref i := h.imp id fun h => ⟨_, h.1⟩
theorem Lv.len {H r : List O} {M L : List V} {v : V} (h : Lv H M L v) (hz : L.length ≤ 1000000) : builtinV (H ++ .list M :: r) "len" [v] = some (.int L.length) := by
  rcases h with rfl | ⟨rfl, rfl⟩
  · exact bl_list hz
  · exact ll_ref get_app hz
theorem Lv.item {H r : List O} {M L : List V} {v x : V} {k : Nat} (h : Lv H M L v) (hk : k < 1000000) (hx : L[k]? = some x) : itemV (H ++ .list M :: r) v (.int k) = some x := by
  rcases h with rfl | ⟨rfl, rfl⟩
  · exact it_list hk hx
  · exact it_ref (by simp only [listIn, get_app]) hk hx
noncomputable abbrev hM (w : Row) : List V := (prH w).map PVal.v
noncomputable def LwI (w : Row) (H : List O) (r : List V) (st : St) : Prop := ∃ (done rest : List Run) (s : Str) (v : V), r = rest.map runV ∧ done ++ rest = w.runs ∧ st.σ 1 = some (.str s) ∧ st.σ 2 = some v ∧ s.cps.toList = (prH w ++ done.flatMap prR).map (fun p => kcode p.k) ∧ st.H = H ++ [.list (hM w)] ∧ Lv H (hM w) ((prH w ++ done.flatMap prR).map PVal.v) v
noncomputable def LwJ (w : Row) (H : List O) (s : Str) (v : V) (i : Nat) (st : St) : Prop := ∃ (ss : List Nat), ss.length = i + 1 ∧ st.σ 1 = some (.str s) ∧ st.σ 2 = some v ∧ st.σ 4 = some (.bytes (((prs w).take i).flatMap PVal.e)) ∧ st.σ 5 = some (.ref (H.length + 1)) ∧ st.H = H ++ [.list (hM w), .list (ss.map fun (n : Nat) => V.int n)]
noncomputable def LwR (w : Row) (v : V) : Prop := ∃ ss : List Nat, ss ≠ [] ∧ ss.length ≤ 100000 ∧ v = .tuple [.bytes (encRow w), .list (ss.map fun (n : Nat) => V.int n)]
theorem clean_ints : ∀ ss : List Nat, cleanL (ss.map fun (n : Nat) => V.int n) = true
  | [] => rfl
  | _ :: l => clean_ints l
theorem flat_take {w : Row} {i : Nat} (h : i < (prs w).length) : ((prs w).take (i + 1)).flatMap PVal.e = ((prs w).take i).flatMap PVal.e ++ ((prs w)[i]).e := by
  rw [List.take_add_one, List.getElem?_eq_getElem h, List.flatMap_append]
  exact congrArg (fun z => ((prs w).take i).flatMap PVal.e ++ z) (List.append_nil _)
theorem lw_two {H : List O} {w : Row} {σ : Nat → Option V} {s : Str} {v : V} (hw : RowOk w) (s1 : σ 1 = some (.str s)) (s2 : σ 2 = some v) (hs : s.cps.toList = (prs w).map (fun p => kcode p.k)) (hv : Lv H (hM w) ((prs w).map PVal.v) v) :
    rz p34 (y_law_write.drop 3) ⟨σ, H ++ [.list (hM w)]⟩ (RetE H (LwR w)) NoE := by
  have few := hw.few
  have pl : (prs w).length = 5 + 5 * w.runs.length := by unfold prs; rw [List.length_append, prs_len, prH_len]
  refine g_set x_val (g_newl (xs_cons x_val xs_nil) (len_le rfl) ?_)
  rw [List.append_assoc]
  have bl := hv.len (r := [.list [.int (0 : Nat)]]) (by rw [List.length_map]; lia)
  rw [List.length_map] at bl
  refine g_rng (LwJ w H s v) (x_call (xs_cons (x_call (xs_cons (x_loc s2) xs_nil) (c_len bl)) xs_nil) (c_range tv_range)) (by lia) ?_ ?_ ?_
  · exact ⟨[0], rfl, s1, s2, rfl, congrArg (fun n => some (V.ref n)) List.length_append, rfl⟩
  · rintro ⟨σ, H'⟩ ⟨ss, hsl, z1, z2, z4, z5, sH⟩
    obtain rfl : H' = _ := sH
    have cl : cleanL [.bytes (encRow w), .list (ss.map fun (n : Nat) => V.int n)] = true := by simp [cleanL_e0, cleanL_e1, clean_e2, clean_e9, clean_ints ss]
    rw [List.take_length] at z4
    refine g_ret (x_tup (xs_cons (x_loc z4) (xs_cons (x_loc z5) xs_nil)) (len_le rfl)) (retE_ok _ (r_tup (z_cons rfl (z_cons (z_list get_app1) z_nil)) cl) ⟨ss, ?_, by lia, rfl⟩ set_app1)
    rintro rfl; cases hsl
  · rintro i ⟨σ, H'⟩ hip ⟨ss, hsl, z1, z2, z4, z5, sH⟩
    obtain rfl : H' = _ := sH
    have hpl := hw.ok _ (List.getElem_mem hip)
    have e1 := it_str (H := H ++ [.list (hM w), .list (ss.map fun (n : Nat) => V.int n)]) (s := s) (k := i) (n := kcode ((prs w)[i]).k) (by lia) (by rw [hs]; simp [hip])
    have e2 := hv.item (r := [.list (ss.map fun (n : Nat) => V.int n)]) (k := i) (x := ((prs w)[i]).v) (by omega) (by simp [hip])
    have e3 := spec_part (H := H ++ [.list (hM w), .list (ss.map fun (n : Nat) => V.int n)]) hpl
    rw [one_k] at e1
    have hfl := fm_len (l := prs w) (i + 1)
    rw [flat_take hip, List.length_append] at hfl
    have hwl : ((prs w).flatMap PVal.e).length ≤ 800000 := hw.len
    have frv : ∀ st, frzOne ((prs w)[i]).v st = some (.ok ((prs w)[i]).v st) := fun st => by cases (prs w)[i] <;> rfl
    have bc : binV (H ++ [.list (hM w), .list (ss.map fun (n : Nat) => V.int n)]) .Add (.bytes (((prs w).take i).flatMap PVal.e)) (.bytes ((prs w)[i]).e) = _ := bv_cat (by lia)
    rw [← flat_take hip] at bc
    have bl2 : builtinV (H ++ [.list (hM w), .list (ss.map fun (n : Nat) => V.int n)]) "len" [.bytes (((prs w).take (i + 1)).flatMap PVal.e)] = _ := bl_len (by rw [flat_take hip, List.length_append]; omega)
    refine g_set (x_bin (x_loc z4) (x_call (xs_cons (x_item (x_loc z1) (x_loc put_eq) e1) (xs_cons (x_item (x_loc z2) (x_loc put_eq) e2) xs_nil)) (c_fn rfl (z_cons rfl (z_cons (frv _) z_nil)) rfl e3)) bc) ?_
    refine g_expr (x_meth (x_loc z5) (mk_lapp get_app1) (xs_cons (x_call (xs_cons (x_loc put_eq) xs_nil) (c_len bl2)) xs_nil) (d_lapp get_app1 (by rw [List.length_map]; lia))) (g_nil ?_)
    refine ⟨ss ++ [(((prs w).take (i + 1)).flatMap PVal.e).length], by rw [List.length_append, hsl]; rfl, z1, z2, rfl, z5, ?_⟩
    rw [List.map_append]; exact set_app1
theorem spec_law_write {H : List O} {w : Row} (hw : RowOk w) : ∃ ss : List Nat, ss ≠ [] ∧ ss.length ≤ 100000 ∧ c_law_write [rowV w] H = some (.ok (.tuple [.bytes (encRow w), .list (ss.map fun (n : Nat) => V.int n)]) H) := by
  suffices h : ∃ b, c_law_write [rowV w] H = some (.ok b H) ∧ LwR w b by
    obtain ⟨b, h1, ss, h2, h3, rfl⟩ := h
    exact ⟨ss, h2, h3, h1⟩
  have few := hw.few
  have i0 : itemV H (rowV w) (.int 0) = some (.int w.index) := tup_item (k := 0) rfl (by decide)
  have i1 : itemV H (rowV w) (.int 1) = some (.int w.term) := tup_item (k := 1) rfl (by decide)
  have i2 : itemV H (rowV w) (.int 2) = some (.bytes w.conf) := tup_item (k := 2) rfl (by decide)
  have i3 : itemV H (rowV w) (.int 3) = some (.int w.last) := tup_item (k := 3) rfl (by decide)
  have i4 : ∀ H, itemV H (rowV w) (.int 4) = some (.tuple (w.runs.map runV)) := fun H => tup_item (k := 4) rfl (by decide)
  have i4' := i4 H
  have lt : builtinV H "len" [.tuple (w.runs.map runV)] = _ := bl_tup (by rw [List.length_map]; lia)
  rw [List.length_map] at lt
  refine ctC_x rfl (g_set x_val (g_newl (by lcg_sub) (by lcg_sub) ?_))
  refine g_for (LwI w H) (x_item (x_loc rfl) x_val (i4 _)) rfl ⟨[], w.runs, S "nnotn", .ref H.length, rfl, rfl, rfl, rfl, by rw [show (S "nnotn").cps.toList = [110, 110, 111, 116, 110] by decide +kernel]; rfl, rfl, .inr ⟨rfl, rfl⟩⟩ ?_ ?_
  · rintro ⟨σ, H'⟩ ⟨done, rest, s, v, hr, hd, s1, s2, hs, sH, hv⟩
    obtain rfl : H' = _ := sH
    obtain rfl : rest = [] := List.map_eq_nil_iff.mp hr.symm
    rw [List.append_nil] at hd
    subst hd
    exact lw_two hw s1 s2 hs hv
  · rintro v r ⟨σ, H'⟩ ⟨done, rest, s, v2, hr, hd, s1, s2, hs, sH, hv⟩
    obtain rfl : H' = _ := sH
    induction rest using List.casesOn with
    | nil => cases hr
    | cons x rest =>
      cases hr
      have hdl : done.length + 1 ≤ w.runs.length := by rw [← hd, List.length_append, List.length_cons]; lia
      have hsl : s.length = 5 + 5 * done.length := by rw [str_len, hs, List.length_map, List.length_append, prs_len, prH_len]
      have e1 : binV (H ++ [.list (hM w)]) .Add (.str s) (.str (S "lnxtt")) = some (.str (s ++ S "lnxtt")) := bv_scat (by
        have : (S "lnxtt").length = 5 := by decide +kernel
        lia)
      have e2 : binV (H ++ [.list (hM w)]) .Add v2 (.list (runL x)) = _ := bv_lcat hv.in (by rw [List.length_map, List.length_append, prs_len, prH_len]; show _ + 5 ≤ _; lia) hv.or
      have tl : typeV (H ++ [.list (hM w)]) "list" [runV x] = some (.list (runL x)) := ty_list (len_le rfl)
      refine g_set (by lcg_sub) (g_set (x_bin (by lcg_sub) (x_call (by lcg_sub) (c_list tl)) e2) (g_nil ?_))
      refine ⟨done ++ [x], rest, s ++ S "lnxtt", _, rfl, by rw [← hd, List.append_assoc]; rfl, rfl, rfl, ?_, rfl, .inl ?_⟩
      · rw [str_app, hs, show (S "lnxtt").cps.toList = [108, 110, 120, 116, 116] by decide +kernel, show [108, 110, 120, 116, 116] = (prR x).map (fun p => kcode p.k) from rfl]
        simp [List.flatMap_append]
      · exact congrArg V.list (by rw [List.flatMap_append, ← List.append_assoc, List.map_append (l₁ := prH w ++ done.flatMap prR)]; rfl)
section
variable {σ : Nat → Option V} {H : List O} {c : List UInt8} {n : Nat} {x : X} {b : List UInt8}
noncomputable abbrev sx (H : List O) (c : List UInt8) : List O := H ++ [snk (H.length + 1), .barr c]
theorem sx_i : (sx H c)[H.length]? = some (snk (H.length + 1)) := get_app
theorem sx_j : (sx H c)[H.length + 1]? = some (.barr c) := get_app1
theorem sx_set {d : List UInt8} : (sx H c).set (H.length + 1) (.barr d) = sx H d := set_app1
theorem s_me {m : Str} {f : Addr} {ct : Ct} {v : V} {d : List UInt8} (s1 : σ 1 = some (.ref H.length)) (hf : (methOf 332).lookup m = some f) (hn : getAt m [(S "parts", V.ref (H.length + 1))] = none) (hl : p26.lookup f = some ct) (hz : frzOne v ⟨σ, sx H c⟩ = some (.ok v ⟨σ, sx H c⟩)) (h : ct [.ref H.length, v] (sx H c) = some (.ok .none ((sx H c).set (H.length + 1) (.barr d))))
    (hx : evX p26 x ⟨σ, sx H c⟩ = some (.ok v ⟨σ, sx H c⟩)) : evX p26 (.meth (.loc 1) m [x]) ⟨σ, sx H c⟩ = some (.ok .none ⟨σ, sx H d⟩) :=
  (x_meth (x_loc s1) (mk_fn (ii_ref sx_i) hf hn) (xs_cons hx xs_nil) (m_fn (s1 := ⟨σ, sx H c⟩) (z_cons hz z_nil) hl h)).trans (by rw [sx_set])
theorem s_varint (s1 : σ 1 = some (.ref H.length)) (hn : n < 2 ^ 64) (hc : c.length ≤ 900000) (hx : evX p26 x ⟨σ, sx H c⟩ = some (.ok (.int n) ⟨σ, sx H c⟩)) : evX p26 (.meth (.loc 1) (S "varint") [x]) ⟨σ, sx H c⟩ = some (.ok .none ⟨σ, sx H (c ++ enc n)⟩) :=
  s_me s1 (f := 280) (by rfl) (by rfl) rfl rfl (spec_Sink_varint sx_i sx_j hn hc) hx
theorem s_fixed32 (s1 : σ 1 = some (.ref H.length)) (hn : n < 2 ^ 32) (hc : c.length ≤ 900000) (hx : evX p26 x ⟨σ, sx H c⟩ = some (.ok (.int n) ⟨σ, sx H c⟩)) : evX p26 (.meth (.loc 1) (S "fixed32") [x]) ⟨σ, sx H c⟩ = some (.ok .none ⟨σ, sx H (c ++ le4 n)⟩) :=
  s_me s1 (f := 287) (by rfl) (by rfl) rfl rfl (spec_Sink_fixed32 sx_i sx_j hn hc) hx
theorem s_lengthed (s1 : σ 1 = some (.ref H.length)) (hb : b.length ≤ 10000) (hc : c.length ≤ 900000) (hx : evX p26 x ⟨σ, sx H c⟩ = some (.ok (.bytes b) ⟨σ, sx H c⟩)) : evX p26 (.meth (.loc 1) (S "lengthed") [x]) ⟨σ, sx H c⟩ = some (.ok .none ⟨σ, sx H (c ++ enc b.length ++ b)⟩) :=
  s_me s1 (f := 301) (by rfl) (by rfl) rfl rfl (spec_Sink_lengthed sx_i sx_j hb hc) hx
end
noncomputable def enH (w : Row) : List UInt8 := [] ++ enc w.index ++ enc w.term ++ enc w.last ++ enc w.conf.length ++ w.conf ++ enc w.runs.length
noncomputable def enR (y : Run) (c : List UInt8) : List UInt8 := c ++ enc y.level ++ enc y.size ++ le4 y.check ++ enc y.small.length ++ y.small ++ enc y.large.length ++ y.large
theorem enH_eq {w : Row} : enH w = (prH w).flatMap PVal.e := by
  unfold enH prH
  simp [List.flatMap_cons, PVal.e]
theorem enR_eq {y : Run} {c : List UInt8} : enR y c = c ++ (prR y).flatMap PVal.e := by
  unfold enR prR
  simp [List.flatMap_cons, PVal.e]
noncomputable def EnI (w : Row) (H : List O) (r : List V) (st : St) : Prop := ∃ (done rest : List Run), r = rest.map runI ∧ done ++ rest = w.runs ∧ st.σ 0 = some (rowI w) ∧ st.σ 1 = some (.ref H.length) ∧ st.H = sx H (enH w ++ (done.flatMap prR).flatMap PVal.e)
theorem en_run {H : List O} {σ : Nat → Option V} {y : Run} {c : List UInt8} {P : Option V → St → Prop} {E : Addr → List O → Prop} (s1 : σ 1 = some (.ref H.length)) (s2 : σ 2 = some (runI y)) (ho : ∀ p ∈ prR y, p.ok) (hl : (enR y c).length ≤ 900000) (h : P .none ⟨σ, sx H (enR y c)⟩) :
    rz p26 [.expr (.meth (.loc 1) (S "varint") [(.attr (.loc 2) (S "level"))]), .expr (.meth (.loc 1) (S "varint") [(.attr (.loc 2) (S "size"))]), .expr (.meth (.loc 1) (S "fixed32") [(.attr (.loc 2) (S "check"))]), .expr (.meth (.loc 1) (S "lengthed") [(.attr (.loc 2) (S "smallest"))]), .expr (.meth (.loc 1) (S "lengthed") [(.attr (.loc 2) (S "largest"))])] ⟨σ, sx H c⟩ P E := by
  have r0 : (PVal.l y.level).ok := ho _ (by simp [prR])
  have r1 : (PVal.n y.size).ok := ho _ (by simp [prR])
  have r2 : (PVal.x y.check).ok := ho _ (by simp [prR])
  have r3 : (PVal.t y.small).ok := ho _ (by simp [prR])
  have r4 : (PVal.t y.large).ok := ho _ (by simp [prR])
  simp only [enR, List.length_append] at hl
  exact g_expr (s_varint s1 r0 (by lia) (x_attr (x_loc s2) run_level)) (g_expr (s_varint s1 r1 (by simp only [List.length_append]; lia) (x_attr (x_loc s2) run_size)) (g_expr (s_fixed32 s1 r2 (by simp only [List.length_append]; lia) (x_attr (x_loc s2) run_check))
    (g_expr (s_lengthed s1 r3 (by simp only [List.length_append]; lia) (x_attr (x_loc s2) run_small)) (g_expr (s_lengthed s1 r4 (by simp only [List.length_append]; lia) (x_attr (x_loc s2) run_large)) (g_nil h)))))
theorem spec_encode {H : List O} {w : Row} (hw : RowOk w) : c_Manifesto_encode [rowI w] H = some (.ok (.bytes (encRow w)) H) := by
  have few := hw.few
  have hlen := hw.len
  have o0 : (PVal.n w.index).ok := hw.ok _ (by simp [prs, prH])
  have o1 : (PVal.n w.term).ok := hw.ok _ (by simp [prs, prH])
  have o2 : (PVal.o w.last).ok := hw.ok _ (by simp [prs, prH])
  have o3 : (PVal.t w.conf).ok := hw.ok _ (by simp [prs, prH])
  have hp : encRow w = enH w ++ (w.runs.flatMap prR).flatMap PVal.e := by
    unfold encRow prs
    rw [List.flatMap_append, enH_eq]
  have hl := congrArg List.length hp
  simp only [enH, List.length_append, List.length_nil] at hl
  have e0 : c_Sink_init [.ref H.length] (H ++ [O.inst 332 []]) = some (.ok .none (sx H [])) := by
    rw [spec_Sink_init (i := H.length) get_app, set_app, List.append_assoc, List.length_append]; rfl
  have bl : builtinV (sx H ([] ++ enc w.index ++ enc w.term ++ enc w.last ++ enc w.conf.length ++ w.conf)) "len" [.list (w.runs.map runI)] = _ := bl_list (by rw [List.length_map]; lia)
  rw [List.length_map] at bl
  refine ctC_g rfl (g_set (x_call xs_nil (c_cls rfl z_nil rfl e0 rfl)) ?_)
  refine g_expr (s_varint (by exact rfl) o0 (by simp) (x_attr (x_loc rfl) row_index)) (g_expr (s_varint (by exact rfl) o1 (by simp only [List.length_append, List.length_nil]; lia) (x_attr (x_loc rfl) row_term)) (g_expr (s_varint (by exact rfl) o2 (by simp only [List.length_append, List.length_nil]; lia) (x_attr (x_loc rfl) row_last))
    (g_expr (s_lengthed (by exact rfl) o3 (by simp only [List.length_append, List.length_nil]; lia) (x_attr (x_loc rfl) row_conf)) (g_expr (s_varint (by exact rfl) (by lia) (by simp only [List.length_append, List.length_nil]; lia) (x_call (xs_cons (x_attr (x_loc rfl) row_runs) xs_nil) (c_len bl))) ?_))))
  refine g_for (EnI w H) (x_attr (x_loc rfl) row_runs) rfl ⟨[], w.runs, rfl, rfl, rfl, rfl, congrArg (sx H) (List.append_nil _).symm⟩ ?_ ?_
  · rintro ⟨σ, H'⟩ ⟨done, rest, hr, hd, s0, s1, sH⟩
    obtain rfl : H' = _ := sH
    obtain rfl : rest = [] := List.map_eq_nil_iff.mp hr.symm
    rw [List.append_nil] at hd
    subst hd
    rw [← hp]
    exact g_ret (x_meth (x_loc s1) (mk_fn (ii_ref sx_i) (f := 329) (by rfl) (by rfl)) xs_nil (m_fn rfl rfl (spec_Sink_done sx_i sx_j (by lia)))) (retC_ok _ rfl rfl rfl)
  · rintro v r ⟨σ, H'⟩ ⟨done, rest, hr, hd, s0, s1, sH⟩
    obtain rfl : H' = _ := sH
    induction rest using List.casesOn with
    | nil => cases hr
    | cons y rest =>
      cases hr
      have oR : ∀ p ∈ prR y, p.ok := fun p hp' => hw.ok p (by
        unfold prs
        exact List.mem_append_right _ (List.mem_flatMap.mpr ⟨y, by rw [← hd]; simp, hp'⟩))
      have hC : enR y (enH w ++ (done.flatMap prR).flatMap PVal.e) = enH w ++ ((done ++ [y]).flatMap prR).flatMap PVal.e := by
        rw [enR_eq, List.flatMap_append, List.flatMap_append, List.append_assoc]
        simp [List.flatMap_cons]
      refine en_run (y := y) s1 rfl oR ?_ ⟨done ++ [y], rest, rfl, by rw [← hd, List.append_assoc]; rfl, s0, s1, congrArg (sx H) hC⟩
      rw [hC]
      have : encRow w = enH w ++ ((done ++ [y]).flatMap prR).flatMap PVal.e ++ (rest.flatMap prR).flatMap PVal.e := by
        rw [hp, ← hd, List.append_assoc, ← List.flatMap_append, ← List.flatMap_append, List.append_assoc]; rfl
      have := congrArg List.length this
      rw [List.length_append] at this
      lia
theorem u8_nat {n : Nat} (h : n < 256) : (n.toUInt8).toNat = n := by simp [Nat.toUInt8]; omega
theorem gsc_enc : ∀ {m n : Nat} (r : List UInt8), n < 128 ^ m → 0 < m → gsc m (enc n ++ r) = .ok (n, (enc n).length)
  | 0, n, r, h, h0 => absurd h0 (by decide)
  | m + 1, n, r, h, h0 => by
    by_cases hx : n < 128
    · rw [enc_small hx]
      simp only [List.cons_append, List.nil_append, gsc_e2, u8_nat (show n < 256 by lia), if_pos hx]
      rfl
    · rw [enc_big hx]
      have hm : 0 < m := by
        cases m with
        | zero => simp at h; omega
        | succ m => lia
      have ih := gsc_enc (m := m) (n := n / 128) r (by rw [Nat.div_lt_iff_lt_mul (by decide)]; rw [Nat.pow_succ] at h; exact h) hm
      simp only [List.cons_append, gsc_e2, u8_nat (show n % 128 + 128 < 256 by lia), if_neg (show ¬ n % 128 + 128 < 128 by lia), ih, List.length_cons]
      congr 2
      lia
theorem drop_more {α : Type} {b p r : List α} {a : Nat} (h : b.drop a = p ++ r) : b.drop (a + p.length) = r := by
  rw [← List.drop_drop, h, List.drop_left']; rfl
theorem num_enc {b r : List UInt8} {a m most n : Nat} (h : b.drop a = enc n ++ r) (hn : n < 128 ^ m) (hm : 0 < m) (hmo : n ≤ most) : num b a m most = .ok (n, a + (enc n).length) := by
  unfold num
  rw [h, gsc_enc r hn hm]
  simp [hmo]
theorem rdT_enc {b r x : List UInt8} {a : Nat} (h : b.drop a = enc x.length ++ x ++ r) (hx : x.length < 2 ^ 32) : rdT b a = .ok (x, a + (enc x.length).length + x.length) := by
  rw [List.append_assoc] at h
  unfold rdT
  rw [num_enc h (Nat.lt_of_lt_of_le hx (by decide)) (by decide) (show x.length ≤ 4294967295 by lia)]
  have h2 := drop_more h
  have h3 := congrArg List.length h
  rw [List.length_drop] at h3
  simp only [List.length_append] at h3
  have hne : 0 < (enc x.length).length := by
    by_cases q : x.length < 128
    · rw [enc_small q]; simp
    · rw [enc_big q]; simp
  dsimp only
  rw [if_pos (by omega), h2, List.take_left']
  rfl
theorem rdX_enc {b r : List UInt8} {a n : Nat} (h : b.drop a = le4 n ++ r) (hn : n < 2 ^ 32) : rdX b a = .ok (n, a + 4) := by
  unfold rdX
  have h3 := congrArg List.length h
  rw [List.length_drop] at h3
  simp only [List.length_append, le4, List.length_cons, List.length_nil] at h3
  rw [if_pos (by omega), h]
  simp only [le4, List.cons_append, le4v_c, u8_nat (show n % 256 < 256 by lia), u8_nat (show n / 256 % 256 < 256 by lia), u8_nat (show n / 65536 % 256 < 256 by lia), u8_nat (show n / 16777216 % 256 < 256 by omega)]
  congr 2
  omega
structure RunD (r : Run) : Prop where
  level : r.level < 12
  size : r.size < 2 ^ 64
  check : r.check < 2 ^ 32
  small : r.small.length < 2 ^ 32
  large : r.large.length < 2 ^ 32
structure RowD (w : Row) : Prop where
  index : w.index < 2 ^ 64
  term : w.term < 2 ^ 64
  last : w.last < 2 ^ 56
  conf : w.conf.length < 2 ^ 32
  few : w.runs.length < 2 ^ 64
  runs : ∀ r ∈ w.runs, RunD r
theorem rdN_enc {b r : List UInt8} {a n : Nat} (h : b.drop a = enc n ++ r) (hn : n < 2 ^ 64) : rdN b a = .ok (n, a + (enc n).length) := num_enc h (Nat.lt_of_lt_of_le hn (by decide)) (by decide) (show n ≤ 18446744073709551615 by lia)
noncomputable abbrev encR (r : Run) : List UInt8 := (prR r).flatMap PVal.e
theorem encR_eq (r : Run) : encR r = enc r.level ++ (enc r.size ++ (le4 r.check ++ (enc r.small.length ++ r.small ++ (enc r.large.length ++ r.large)))) := by simp [encR, prR, List.flatMap_cons, PVal.e]
theorem rdRun_enc {b s : List UInt8} {a : Nat} {r : Run} (h : b.drop a = encR r ++ s) (hr : RunD r) : rdRun b a = .ok (r, a + (encR r).length) := by
  have e := encR_eq r
  rw [e] at h
  simp only [List.append_assoc] at h
  have h1 : rdL b a = .ok (r.level, a + (enc r.level).length) := by
    have := rdN_enc h (by have := hr.level; lia)
    unfold rdN at this
    unfold rdL
    rw [this]
    simp [hr.level]
  have d1 := drop_more h
  have h2 := rdN_enc d1 hr.size
  have d2 := drop_more d1
  have h3 := rdX_enc d2 hr.check
  have d3 := drop_more d2
  rw [show (le4 r.check).length = 4 from rfl] at d3
  have h4 := rdT_enc (x := r.small) (r := enc r.large.length ++ (r.large ++ s)) (by rw [d3]; simp) hr.small
  have d4 := drop_more d3
  have d5 := drop_more d4
  have h5 := rdT_enc (x := r.large) (r := s) (by rw [d5]; simp) hr.large
  unfold rdRun
  simp only [h1, h2, h3, h4, h5]
  rw [e]
  simp only [List.length_append, show (le4 r.check).length = 4 from rfl]
  congr 2
  lia
theorem rdRuns_enc {b : List UInt8} : ∀ {rs : List Run} {a : Nat} {s : List UInt8}, b.drop a = rs.flatMap encR ++ s → (∀ r ∈ rs, RunD r) → rdRuns b rs.length a = .ok (rs, a + (rs.flatMap encR).length)
  | [], a, s, h, hr => rfl
  | r :: rs, a, s, h, hr => by
    simp only [List.flatMap_cons, List.append_assoc] at h
    have h1 := rdRun_enc h (hr r (by simp))
    have d1 := drop_more h
    have ih := rdRuns_enc d1 fun x hx => hr x (by simp [hx])
    simp only [List.length_cons, rdRuns_e1, h1, ih, List.flatMap_cons, List.length_append]
    congr 2
    lia
theorem encRow_eq (w : Row) : encRow w = enc w.index ++ (enc w.term ++ (enc w.last ++ (enc w.conf.length ++ (w.conf ++ (enc w.runs.length ++ w.runs.flatMap encR))))) := by
  unfold encRow prs prH
  simp [List.flatMap_cons, PVal.e, List.flatMap_assoc]
theorem dec_enc {w : Row} (hw : RowD w) : dec (encRow w) = .ok w := by
  have h0 : (encRow w).drop 0 = enc w.index ++ (enc w.term ++ (enc w.last ++ (enc w.conf.length ++ (w.conf ++ (enc w.runs.length ++ w.runs.flatMap encR))))) := encRow_eq w
  generalize encRow w = b at *
  have h1 := rdN_enc h0 hw.index
  have d1 := drop_more h0
  have h2 := rdN_enc d1 hw.term
  have d2 := drop_more d1
  have h3' := rdN_enc d2 (by have := hw.last; lia)
  have h3 : rdO b (0 + (enc w.index).length + (enc w.term).length) = .ok (w.last, 0 + (enc w.index).length + (enc w.term).length + (enc w.last).length) := by
    unfold rdN at h3'
    unfold rdO
    rw [h3']
    simp only
    rw [if_pos hw.last]
  have d3 := drop_more d2
  have h4 := rdT_enc (x := w.conf) (r := enc w.runs.length ++ w.runs.flatMap encR) (by rw [d3]; simp) hw.conf
  have d4 := drop_more d3
  have d5 := drop_more d4
  have h5 := rdN_enc d5 hw.few
  have d6 := drop_more d5
  have h6 := rdRuns_enc (s := []) (by rw [d6]; simp) hw.runs
  have hL := congrArg List.length h0
  simp only [List.drop_zero, List.length_append] at hL
  unfold dec rdHead
  simp only [h1, h2, h3, h4, h5, h6]
  rw [if_neg (by lia)]
theorem gsc_min : ∀ {m : Nat} {l : List UInt8} {n k : Nat}, gsc m l = .ok (n, k) → (enc n).length ≤ k
  | 0, _, _, _, h => by cases h
  | m + 1, [], _, _, h => by cases h
  | m + 1, x :: r, n, k, h => by
    simp only [gsc_e2] at h
    split at h
    · rename_i hx; cases h; rw [enc_small hx]; simp
    · split at h
      · rename_i n' k' h'
        cases h
        have ih := gsc_min h'
        by_cases hs : x.toNat % 128 + 128 * n' < 128
        · rw [enc_small hs]; simp
        · rw [enc_big hs, show (x.toNat % 128 + 128 * n') / 128 = n' by lia]
          simp; omega
      · cases h
theorem num_min {b : List UInt8} {a m most n a' : Nat} (h : num b a m most = .ok (n, a')) : a + (enc n).length ≤ a' := by
  unfold num at h
  split at h
  · rename_i n' k' h'
    split at h
    · cases h; have := gsc_min h'; lia
    · cases h
  · cases h
theorem rdT_min {b x : List UInt8} {a a' : Nat} (h : rdT b a = .ok (x, a')) (ha : a ≤ b.length) : a + (enc x.length).length + x.length ≤ a' ∧ x.length ≤ M32 ∧ a' ≤ b.length := by
  obtain ⟨n, a1, h1, h2, h3, h4⟩ := rdT_at h
  have := num_min h1
  have := num_at h1 ha
  have hx : x.length = n := by rw [h4, List.length_take, List.length_drop]; lia
  rw [hx]
  lia
theorem le4v_lt (b : List UInt8) : le4v b < 2 ^ 32 := by
  rcases b with _ | ⟨x, _ | ⟨y, _ | ⟨z, _ | ⟨w, r⟩⟩⟩⟩
  iterate 4 exact (by decide : 0 < 2 ^ 32)
  show x.toNat + y.toNat * 256 + z.toNat * 65536 + w.toNat * 16777216 < 2 ^ 32
  have := x.toNat_lt; have := y.toNat_lt; have := z.toNat_lt; have := w.toNat_lt
  lia
theorem rdRun_inv {b : List UInt8} {a a' : Nat} {r : Run} (h : rdRun b a = .ok (r, a')) (ha : a ≤ b.length) : RunD r ∧ a + (encR r).length ≤ a' := by
  unfold rdRun at h
  split at h
  · cases h
  · rename_i l a1 h1
    split at h
    · cases h
    · rename_i s a2 h2
      split at h
      · cases h
      · rename_i x a3 h3
        split at h
        · cases h
        · rename_i p a4 h4
          split at h
          · cases h
          · rename_i q a5 h5
            cases h
            obtain ⟨k1, k1'⟩ := rdL_num h1
            have q1 := num_at k1 ha
            have q2 := num_at h2 q1.1
            have q3 := rdX_at h3
            have q4 := rdT_min h4 (by lia)
            have q5 := rdT_min h5 (by lia)
            have m1 := num_min k1
            have m2 := num_min h2
            have := le4v_lt (b.drop a2)
            have eM64 : M64 = 18446744073709551615 := rfl
            have eM32 : M32 = 4294967295 := rfl
            refine ⟨⟨k1', show s < 2 ^ 64 by lia, show x < 2 ^ 32 by lia, show p.length < 2 ^ 32 by lia, show q.length < 2 ^ 32 by lia⟩, ?_⟩
            rw [encR_eq]
            simp only [List.length_append, show (le4 x).length = 4 from rfl]
            lia
theorem rdRuns_inv {b : List UInt8} : ∀ {n a a' : Nat} {rs : List Run}, rdRuns b n a = .ok (rs, a') → a ≤ b.length → (∀ r ∈ rs, RunD r) ∧ rs.length = n ∧ a + (rs.flatMap encR).length ≤ a' ∧ a + rs.length ≤ a' ∧ a' ≤ b.length
  | 0, a, a', rs, h, ha => by cases h; simp [ha]
  | n + 1, a, a', rs, h, ha => by
    simp only [rdRuns_e1] at h
    split at h
    · cases h
    · rename_i r a1 h1
      split at h
      · cases h
      · rename_i rs' a2 h2
        cases h
        obtain ⟨k1, k2⟩ := rdRun_inv h1 ha
        have q := rdRun_at h1 ha
        obtain ⟨i1, i2, i3, i4, i5⟩ := rdRuns_inv h2 q.1
        refine ⟨fun x hx => ?_, by simp [i2], ?_, by simp; lia, i5⟩
        · rcases List.mem_cons.mp hx with rfl | hx
          · exact k1
          · exact i1 x hx
        · rw [List.flatMap_cons, List.length_append]; lia
theorem dec_inv {b : List UInt8} {w : Row} (h : dec b = .ok w) (hb : b.length < 2 ^ 32) : RowD w ∧ (encRow w).length ≤ b.length ∧ w.runs.length ≤ b.length := by
  unfold dec at h
  split at h
  · cases h
  · rename_i hh a0 h0
    split at h
    · cases h
    · rename_i rs a' h6
      split at h
      · cases h
      · cases h
        unfold rdHead at h0
        split at h0
        · cases h0
        · rename_i n1 a1 h1
          split at h0
          · cases h0
          · rename_i n2 a2 h2
            split at h0
            · cases h0
            · rename_i n3 a3 h3
              split at h0
              · cases h0
              · rename_i x a4 h4
                split at h0
                · cases h0
                · rename_i n5 a5 h5
                  cases h0
                  obtain ⟨k3, k3'⟩ := rdO_num h3
                  have q1 := num_at h1 (Nat.zero_le _)
                  have q2 := num_at h2 q1.1
                  have q3 := num_at k3 q2.1
                  have q4 := rdT_min h4 q3.1
                  have q5 := num_at h5 q4.2.2
                  obtain ⟨i1, i2, i3, i4, i5⟩ := rdRuns_inv h6 q5.1
                  have m1 := num_min h1
                  have m2 := num_min h2
                  have m3 := num_min k3
                  have m5 := num_min h5
                  have i2' : rs.length = n5 := i2
                  have eM64 : M64 = 18446744073709551615 := rfl
                  have eM32 : M32 = 4294967295 := rfl
                  refine ⟨⟨show n1 < 2 ^ 64 by lia, show n2 < 2 ^ 64 by lia, k3', show x.length < 2 ^ 32 by lia, show rs.length < 2 ^ 64 by lia, i1⟩, ?_, show rs.length ≤ b.length by lia⟩
                  rw [encRow_eq]
                  simp only [List.length_append, i2']
                  lia
theorem RowOk.of {w : Row} (hd : RowD w) (hl : (encRow w).length ≤ 10000) : RowOk w := by
  have hp : ∀ p ∈ prs w, p.e.length ≤ (encRow w).length := fun p hp => by
    unfold encRow
    obtain ⟨s, t, e⟩ := List.append_of_mem hp
    rw [e]
    simp [List.flatMap_append, List.flatMap_cons]
    lia
  have few : w.runs.length ≤ 10000 := by
    have := encRow_eq w
    have := congrArg List.length this
    simp only [List.length_append] at this
    have hq : w.runs.length ≤ (w.runs.flatMap encR).length := by
      clear hp this hd hl
      induction w.runs with
      | nil => simp
      | cons r rs ih =>
        rw [List.flatMap_cons, List.length_append, encR_eq]
        simp only [List.length_append, List.length_cons, show (le4 r.check).length = 4 from rfl]
        lia
    lia
  refine ⟨fun p hpm => ?_, by lia, few⟩
  have hl' := hp p hpm
  unfold prs prH at hpm
  rcases List.mem_append.mp hpm with h | h
  · simp only [List.mem_cons, List.not_mem_nil, or_false] at h
    rcases h with rfl | rfl | rfl | rfl | rfl
    · exact hd.index
    · exact hd.term
    · have := hd.last; show w.last < 2 ^ 64; lia
    · simp only [PVal.e, List.length_append] at hl'; show w.conf.length ≤ 10000; lia
    · exact hd.few
  · obtain ⟨r, hr, hpr⟩ := List.mem_flatMap.mp h
    have R := hd.runs r hr
    simp only [prR, List.mem_cons, List.not_mem_nil, or_false] at hpr
    rcases hpr with rfl | rfl | rfl | rfl | rfl
    · have := R.level; show r.level < 2 ^ 64; lia
    · exact R.size
    · exact R.check
    · simp only [PVal.e, List.length_append] at hl'; show r.small.length ≤ 10000; lia
    · simp only [PVal.e, List.length_append] at hl'; show r.large.length ≤ 10000; lia
noncomputable def sumB (b : List UInt8) : Nat := (b.map fun x => x.toNat).sum
noncomputable def ck (b : List UInt8) : Nat := (251 * sumB b + 65537 * b.length + 7) % 2 ^ 32
theorem sum_cast (b : List UInt8) : (b.map fun x => (x.toNat : Int)).sum = (sumB b : Int) := by
  unfold sumB
  induction b with
  | nil => rfl
  | cons x r ih => simp only [List.map_cons, List.sum_cons, ih]; push_cast; rfl
theorem and32 (n : Nat) : bitAnd (n : Int) 4294967295 = ((n % 2 ^ 32 : Nat) : Int) := by
  have := bitAnd_nat n 4294967295
  rw [show ((4294967295 : Nat) : Int) = 4294967295 from rfl] at this
  rw [this, show n &&& 4294967295 = n % 2 ^ 32 from Nat.and_two_pow_sub_one_eq_mod n 32]
theorem bl_sum {H : List O} {b : List UInt8} (hb : b.length ≤ 1000000) : builtinV H "sum" [.bytes b] = some (.int (sumB b)) := by
  unfold builtinV
  rw [if_neg (by decide), if_pos rfl]
  exact (if_pos hb).trans (congrArg (fun i => some (V.int i)) (sum_cast b))
theorem spec_checksum {H : List O} {b : List UInt8} (hb : b.length ≤ 1000000) : c_checksum [.int 2, .bytes b] H = some (.ok (.int (ck b)) H) := by
  have h1 : ¬ ((2 : Int) = 1) := by decide
  have m1 : binV H .Mult (.int (sumB b)) (.int 251) = some (.int (sumB b * 251 : Nat)) := bv_mul (k := 251) (by decide)
  have m2 : binV H .Mult (.int b.length) (.int 65537) = some (.int (b.length * 65537 : Nat)) := bv_mul (k := 65537) (by decide)
  have a1 : binV H .BitAnd (.int (sumB b * 251 + b.length * 65537 + 7 : Nat)) (.int 4294967295) = some (.int (ck b)) := congrArg (fun i => some (V.int i)) ((and32 _).trans (by unfold ck; congr 2; lia))
  refine ctR_g rfl (g_if_f (by lcg_sub) (g_if_t (by lcg_sub) (g_ret (x_bin (x_bin (x_bin (x_bin (x_call (by lcg_sub) (c_sum (bl_sum hb))) x_val m1) (x_bin (x_call (by lcg_sub) (c_len (bl_len (by lia)))) x_val m2) bv_add) x_val bv_add) x_val a1) ?_)))
  exact ret_ok rfl rfl
noncomputable def LsI (b : List UInt8) (H : List O) (r : List V) (st : St) : Prop := ∃ (rest : List UInt8) (n : Nat), r = rest.map (fun x => V.int x.toNat) ∧ st.σ 1 = some (.int n) ∧ st.H = H ∧ n + 251 * sumB rest + 65537 * rest.length = 251 * sumB b + 65537 * b.length + 7
theorem spec_law_sum {H : List O} {b : List UInt8} (hb : b.length ≤ 1000000) : c_law_sum [.bytes b] H = some (.ok (.int (ck b)) H) := by
  refine ctR_g rfl (g_set x_val ?_)
  refine g_for (LsI b H) (x_loc rfl) rfl ⟨b, 7, rfl, rfl, rfl, by lia⟩ ?_ ?_
  · rintro ⟨σ, H'⟩ ⟨rest, n, hr, s1, sH, hn⟩
    obtain rfl : H' = _ := sH
    obtain rfl : rest = [] := List.map_eq_nil_iff.mp hr.symm
    have hn' : n = 251 * sumB b + 65537 * b.length + 7 := hn
    have p1 : binV H' .Pow (.int 2) (.int 32) = some (.int (4294967296 : Nat)) := bv_pow (x := 2) (k := 32) (by decide) (by decide)
    have p2 := bv_mod (H := H') (n := n) (k := 4294967296) (by decide)
    refine g_ret (by lcg_sub) ?_
    rw [hn']
    exact ret_ok rfl rfl
  · rintro v r ⟨σ, H'⟩ ⟨rest, n, hr, s1, sH, hn⟩
    obtain rfl : H' = _ := sH
    induction rest using List.casesOn with
    | nil => cases hr
    | cons x rest =>
      cases hr
      have m1 : binV H' .Mult (.int 251) (.int x.toNat) = some (.int (251 * x.toNat : Nat)) := bv_mul (by have := x.toNat_lt; lia)
      refine g_aug (by lcg_sub) (by lcg_sub) av_add (g_nil ⟨rest, n + (251 * x.toNat + 65537), rfl, rfl, rfl, ?_⟩)
      rw [← hn]
      simp only [sumB, List.map_cons, List.sum_cons, List.length_cons]; lia
theorem beq_nat {n m : Nat} : cmpV .Eq (.int n) (.int m) = some (n == m) := congrArg some (by
  show decide ((n : Int) = m) = decide (n = m)
  exact decide_eq_decide.mpr Int.ofNat_inj)
theorem spec_fits {H : List O} {r : Run} {b : List UInt8} (hb : b.length ≤ 1000000) : c_RunInfo_fits [runI r, .bytes b] H = some (.ok (.bool (b.length == r.size && ck b == r.check)) H) := by
  have e := spec_checksum (H := H) hb
  refine ctR_g rfl ?_
  have bl := bl_len (H := H) (b := b) (by omega)
  have c1 := beq_nat (n := b.length) (m := r.size)
  cases h : (b.length == r.size) with
  | false =>
    rw [h] at c1
    exact g_ret (x_and_f (x_cmp (x_call (xs_cons (x_loc rfl) xs_nil) (c_len bl)) (x_attr (x_loc rfl) run_size) c1)) (ret_ok rfl rfl)
  | true =>
    rw [h] at c1
    exact g_ret (x_and_t (x_cmp (x_call (xs_cons (x_loc rfl) xs_nil) (c_len bl)) (x_attr (x_loc rfl) run_size) c1) (x_cmp (x_call (xs_cons x_val (xs_cons (x_loc rfl) xs_nil)) (c_fn rfl rfl rfl e)) (x_attr (x_loc rfl) run_check) beq_nat)) (ret_ok rfl rfl)
theorem cutL_len {α : Type} {l : List α} {lo hi : Option Int} : (cutL l lo hi).length ≤ l.length := by
  unfold cutL
  rw [List.length_take, List.length_drop]
  omega
theorem part_none : partOf .none = some .none := rfl
theorem part_big {k : Int} (h1 : -1000000 ≤ k) (h2 : k < 1000000) : partOf (some (.int k)) = some (some k) := by
  have h3 : -(2 ^ 40) ≤ k := by lia
  have h4 : k < 2 ^ 40 := by lia
  unfold partOf
  exact if_pos ⟨h3, h4⟩
theorem ty_two {H : List O} {a b : Nat} (ha : a < 256) (hb : b < 256) : typeV H "bytes" [.list [.int a, .int b]] = some (.bytes [a.toUInt8, b.toUInt8]) :=
  (tv_bytes (len_le rfl)).trans (congrArg (fun o => Option.map V.bytes o) (oc_cons ha (oc_cons hb oc_nil)))
noncomputable def KnR (v : V) : Prop := ∃ l : List (List UInt8), (∀ x ∈ l, x.length ≤ 30000) ∧ v = .list (l.map .bytes)
noncomputable abbrev knH (H : List O) (ys : List (List UInt8)) : List O := H ++ [.list (ys.map .bytes)]
theorem clean_bytes : ∀ ys : List (List UInt8), cleanL (ys.map V.bytes) = true
  | [] => rfl
  | _ :: l => clean_bytes l
theorem kn_end {H : List O} {σ : Nat → Option V} {ys : List (List UInt8)} (hy : ∀ x ∈ ys, x.length ≤ 30000) (s2 : σ 2 = some (.ref H.length)) : rz p36 [.ret (.loc 2)] ⟨σ, knH H ys⟩ (RetE H KnR) NoE :=
  g_ret (x_loc s2) (retE_ok _ (r_list get_app (clean_bytes ys)) ⟨ys, hy, rfl⟩ set_app)
theorem kn_step {H : List O} {σ : Nat → Option V} {b : List UInt8} {i : Nat} {ys : List (List UInt8)} {m : List UInt8} {em : X} {kk : Nat} {r : List Y} {P : Option V → St → Prop} {E : Addr → List O → Prop} (hb : b.length ≤ 10000) (hi : i < b.length) (s0 : σ 0 = some (.bytes b)) (s2 : σ 2 = some (.ref H.length)) (s3 : σ 3 = some (.int i)) (k3 : kk ≤ 3) (hm : m.length ≤ 5) (hy : ys.length ≤ 10)
    (hem : evX p36 em ⟨σ, knH H ys⟩ = some (.ok (.bytes m) ⟨σ, knH H ys⟩)) (hys : ∀ x ∈ ys, x.length ≤ 30000) (h : ∀ ys' : List (List UInt8), ys'.length = ys.length + 1 → (∀ x ∈ ys', x.length ≤ 30000) → rz p36 r ⟨σ, knH H ys'⟩ P E) :
    rz p36 (.expr (.meth (.loc 2) (S "append") [(.bin .Add (.bin .Add (.slice (.loc 0) none (some (.loc 3))) em) (.slice (.loc 0) (some (.bin .Add (.loc 3) (.val (.int kk)))) none))]) :: r) ⟨σ, knH H ys⟩ P E := by
  have l1 := cutL_len (l := b) (lo := .none) (hi := some (i : Int))
  have l2 := cutL_len (l := b) (lo := some ((i : Int) + kk)) (hi := .none)
  have sA := sl_two (H := knH H ys) (b := b) (l := .none) (u := some (.int i)) part_none (part_big (by lia) (by lia)) (by lia)
  have sB := sl_two (H := knH H ys) (b := b) (l := some (.int ((i : Int) + kk))) (u := .none) (part_big (by lia) (by lia)) part_none (by omega)
  refine g_expr (x_meth (x_loc s2) (mk_lapp get_app) (xs_cons (x_bin (x_bin (x_slice (x_loc s0) xo_none (xo_some (x_loc s3)) sA) hem (bv_cat (by lia))) (x_slice (x_loc s0) (xo_some (x_bin (x_loc s3) x_val bv_add)) xo_none sB) (bv_cat (by rw [List.length_append]; lia))) xs_nil) (d_lapp get_app (by rw [List.length_map]; lia))) ?_
  have := h (ys ++ [cutL b .none (some (i : Int)) ++ m ++ cutL b (some ((i : Int) + kk)) .none]) List.length_append (fun x hx => by
    rcases List.mem_append.mp hx with hx | hx
    · exact hys x hx
    · rw [List.mem_singleton.mp hx, List.length_append, List.length_append]; lia)
  rw [knH, List.map_append] at this
  rw [set_app]
  exact this
theorem spec_law_kin' {H : List O} {b : List UInt8} {y : Nat} (hb : b.length ≤ 10000) : ∃ v, c_law_kin [.bytes b, .int y] H = some (.ok v H) ∧ KnR v := by
  have bm : binV H .Mod (.int y) (.int 256) = _ := bv_mod (n := y) (k := 256) (by decide)
  have t1 := ty_one (H := H) (show y % 256 < 256 by lia)
  have bc : binV H .Add (.bytes b) (.bytes [(y % 256).toUInt8]) = _ := bv_cat (by simp; lia)
  have sl0 := sl_two (H := H) (b := b) (l := .none) (u := some (.int (-1))) part_none (part_big (by decide) (by decide)) (by lia)
  have y0 : ∀ x ∈ [b, b ++ [(y % 256).toUInt8], cutL b .none (some (-1))], x.length ≤ 30000 := by
    intro x hx
    simp only [List.mem_cons, List.not_mem_nil, or_false] at hx
    rcases hx with rfl | rfl | rfl
    · lia
    · simp; lia
    · have := cutL_len (l := b) (lo := .none) (hi := some (-1)); lia
  refine ctC_x rfl (g_newl (by lcg_sub) (by lcg_sub) ?_)
  show rz p36 _ (St.put ⟨_, knH H [b, b ++ [(y % 256).toUInt8], cutL b .none (some (-1))]⟩ _ _) _ _
  have y3 : ([b, b ++ [(y % 256).toUInt8], cutL b .none (some (-1))]).length = 3 := rfl
  generalize [b, b ++ [(y % 256).toUInt8], cutL b .none (some (-1))] = ys at y0 y3 ⊢
  have bl := bl_len (H := knH H ys) (b := b) (by lia)
  by_cases hx : 1 < b.length
  · have hx' : ((1 : Int) < b.length) := by lia
    refine g_if_t (by lcg_sub) ?_
    have hil : y % (b.length - 1) < b.length - 1 := Nat.mod_lt _ (by omega)
    have bmi : binV (knH H ys) .Mod (.int y) (.int ((b.length : Int) - 1)) = some (.int (y % (b.length - 1) : Nat)) := by
      rw [show (b.length : Int) - 1 = ((b.length - 1 : Nat) : Int) by lia]; exact bv_mod (by lia)
    generalize y % (b.length - 1) = i at hil bmi
    have e1 := it_bytes (H := knH H ys) (d := .bytes b) (b := b) (k := i) rfl (by lia) (by lia)
    have e2 : itemV (knH H ys) (.bytes b) (.int ((i : Int) + 1)) = _ := it_bytes (b := b) (k := i + 1) rfl (by lia) (by omega)
    have x1 := (b[i]'(by omega)).toNat_lt
    have x2 := (b[i + 1]'(by omega)).toNat_lt
    generalize (b[i]'(by omega)).toNat = a at e1 x1
    generalize (b[i + 1]'(by lia)).toNat = c at e2 x2
    refine g_set (by lcg_sub) (g_set (by lcg_sub) (g_set (by lcg_sub) ?_))
    refine kn_step (i := i) (m := [((a + 1 + y / 3 % 255) % 256).toUInt8]) (kk := 1) hb (by lia) rfl rfl rfl (by decide) (by simp) (by lia) ?_ y0 fun ys1 yl1 y1 => ?_
    · exact x_call (xs_cons (x_list (xs_cons (x_bin (x_bin (x_bin (x_loc rfl) x_val bv_add) (x_bin (x_bin (x_loc rfl) x_val (bv_div (n := y) (k := 3) (by decide) (by decide))) x_val (bv_mod (n := y / 3) (k := 255) (by decide))) bv_add) x_val (bv_mod (n := a + 1 + y / 3 % 255) (k := 256) (by decide))) xs_nil) (len_le rfl)) xs_nil) (c_bytes (ty_one (by lia)))
    refine kn_step (i := i) (m := [c.toUInt8, a.toUInt8]) (kk := 2) hb (by lia) rfl rfl rfl (by decide) (by simp) (by lia) ?_ y1 fun ys2 yl2 y2 => ?_
    · exact x_call (xs_cons (x_list (xs_cons (x_loc rfl) (xs_cons (x_loc rfl) xs_nil)) (len_le rfl)) xs_nil) (c_bytes (ty_two (by omega) (by omega)))
    refine kn_step (i := i) (m := [((a + 1) % 256).toUInt8, ((c + 255) % 256).toUInt8]) (kk := 2) hb (by lia) rfl rfl rfl (by decide) (by simp) (by lia) ?_ y2 fun ys3 yl3 y3 => ?_
    · exact x_call (xs_cons (x_list (xs_cons (x_bin (x_bin (x_loc rfl) x_val bv_add) x_val (bv_mod (n := a + 1) (k := 256) (by decide))) (xs_cons (x_bin (x_bin (x_loc rfl) x_val bv_add) x_val (bv_mod (n := c + 255) (k := 256) (by decide))) xs_nil)) (len_le rfl)) xs_nil) (c_bytes (ty_two (by omega) (by lia)))
    exact kn_end y3 rfl
  · have hx' : ¬ ((1 : Int) < b.length) := by lia
    exact g_if_f (by lcg_sub) (kn_end y0 rfl)
theorem spec_law_kin {H : List O} {b : List UInt8} {y : Nat} (hb : b.length ≤ 10000) : ∃ l : List (List UInt8), (∀ x ∈ l, x.length ≤ 30000) ∧ c_law_kin [.bytes b, .int y] H = some (.ok (.list (l.map .bytes)) H) := by
  obtain ⟨v, h1, l, h2, rfl⟩ := spec_law_kin' (H := H) (y := y) hb
  exact ⟨l, h2, h1⟩
theorem c_nb {b : Bool} : cmpV .NotEq (.bool b) (.bool b) = some false := by induction b using Bool.casesOn <;> rfl
theorem c_nx {b : List UInt8} : cmpV .NotEq (.bytes b) (.bytes b) = some false := congrArg some (bne_self_eq_false b)
noncomputable def LfI (r : Run) (H : List O) (rr : List V) (st : St) : Prop := ∃ rest : List (List UInt8), rr = rest.map .bytes ∧ (∀ x ∈ rest, x.length ≤ 30000) ∧ st.σ 0 = some (runI r) ∧ st.σ 1 = some (runV r) ∧ st.H = H
theorem lf_x {st : St} {r : Run} {x : List UInt8} (hx : x.length ≤ 30000) (s1 : st.σ 1 = some (runV r)) (s4 : st.σ 4 = some (.bytes x)) :
    evX p37 (.bool .And (.cmp .Eq (.call (.builtin "len") [(.loc 4)]) (.item (.loc 1) (.val (.int 1)))) (.cmp .Eq (.call (.ref 468) [(.loc 4)]) (.item (.loc 1) (.val (.int 2))))) st = some (.ok (.bool (x.length == r.size && ck x == r.check)) st) := by
  have i1 : itemV st.H (runV r) (.int 1) = some (.int r.size) := tup_item (k := 1) rfl (by decide)
  have i2 : itemV st.H (runV r) (.int 2) = some (.int r.check) := tup_item (k := 2) rfl (by decide)
  have c1 := beq_nat (n := x.length) (m := r.size)
  have a := x_call (φ := p37) (xs_cons (x_loc s4) xs_nil) (c_len (bl_len (by lia)))
  cases h : (x.length == r.size) with
  | false =>
    rw [h] at c1
    exact x_and_f (x_cmp a (x_item (x_loc s1) x_val i1) c1)
  | true =>
    rw [h] at c1
    exact x_and_t (x_cmp a (x_item (x_loc s1) x_val i1) c1) (x_cmp (x_call (xs_cons (x_loc s4) xs_nil) (c_fn rfl rfl rfl (spec_law_sum (by lia)))) (x_item (x_loc s1) x_val i2) beq_nat)
theorem spec_law_fits {H : List O} {r : Run} {b : List UInt8} {y : Nat} (hb : b.length ≤ 10000) : c_law_fits [runI r, runV r, .bytes b, .int y] H = some (.ok (.bool true) H) := by
  obtain ⟨l, hl, ek⟩ := spec_law_kin (H := H) (y := y) hb
  refine ctR_g rfl ?_
  refine g_for (LfI r H) (x_call (xs_cons (x_loc rfl) (xs_cons (x_loc rfl) xs_nil)) (c_fn rfl rfl rfl ek)) rfl ⟨l, rfl, hl, rfl, rfl, rfl⟩ ?_ ?_
  · rintro ⟨σ, H'⟩ ⟨rest, hr, hx, s0, s1, sH⟩
    obtain rfl : H' = _ := sH
    exact g_ret x_val (ret_ok rfl rfl)
  · rintro v rr ⟨σ, H'⟩ ⟨rest, hr, hx, s0, s1, sH⟩
    obtain rfl : H' = _ := sH
    induction rest using List.casesOn with
    | nil => cases hr
    | cons x rest =>
      cases hr
      have hxl := hx x (List.mem_cons_self ..)
      have e := spec_fits (H := H') (r := r) (b := x) (by lia)
      refine g_set (x_meth (x_loc s0) mk_fits (xs_cons (x_loc put_eq) xs_nil) (m_fn rfl rfl e)) ?_
      refine g_if_f (t_or_f (t_cmp (x_loc put_eq) (lf_x hxl s1 rfl) c_nb) (t_or_f (t_not_f (t_ex (x_call (xs_cons (x_loc put_eq) (xs_cons x_val xs_nil)) (c_isi rfl)))) t_or0)) (g_nil ⟨rest, rfl, fun z hz => hx z (List.mem_cons_of_mem _ hz), s0, s1, rfl⟩)
theorem zip_all {f : V → V → Bool} : ∀ (l : List V), (∀ x ∈ l, f x x = true) → ((l.zip l).all fun p => f p.1 p.2) = true
  | [], _ => rfl
  | v :: l, h => by simp [h v (by simp), zip_all l fun x hx => h x (by simp [hx])]
theorem eqD_tuple {n : Nat} {l : List V} (h : ∀ x ∈ l, eqD n x x = true) : eqD (n + 1) (.tuple l) (.tuple l) = true := by
  simp only [eqD_e2, beq_self_eq_true, Bool.true_and]
  exact zip_all l h
theorem eqD_run (r : Run) : eqD 3 (runV r) (runV r) = true := eqD_tuple fun x hx => by
  simp only [runL, List.mem_cons, List.not_mem_nil, or_false] at hx
  rcases hx with rfl | rfl | rfl | rfl | rfl <;> first | exact beq_self_eq_true (α := Int) _ | exact beq_self_eq_true (α := List UInt8) _
theorem eqD_row (w : Row) : eqD 5 (rowV w) (rowV w) = true := eqD_tuple fun x hx => by
  simp only [List.mem_cons, List.not_mem_nil, or_false] at hx
  rcases hx with rfl | rfl | rfl | rfl | rfl <;> first | exact beq_self_eq_true (α := Int) _ | exact beq_self_eq_true (α := List UInt8) _ | skip
  exact eqD_tuple fun x hx => by
    obtain ⟨r, _, rfl⟩ := List.mem_map.mp hx
    exact eqD_run r
theorem cmp_row (w : Row) : cmpV .NotEq (rowV w) (rowV w) = some false := by
  have : cmpV .NotEq (rowV w) (rowV w) = if eqD 5 (rowV w) (rowV w) then some false else .none := rfl
  rw [this, eqD_row]; rfl
theorem rdRuns_err {b : List UInt8} : ∀ {n a e : Nat}, rdRuns b n a = .error e → e = 1 ∨ e = 2
  | 0, a, e, h => by cases h
  | n + 1, a, e, h => by
    simp only [rdRuns_e1] at h
    split at h
    · rename_i h1; cases h; exact rdRun_err h1
    · split at h
      · rename_i h2; cases h; exact rdRuns_err h2
      · cases h
theorem dec_err {b : List UInt8} {e : Nat} (h : dec b = .error e) : e = 1 ∨ e = 2 := by
  unfold dec at h
  split at h
  · rename_i h1; cases h; exact rdHead_err h1
  · split at h
    · rename_i h2; cases h; exact rdRuns_err h2
    · split at h
      · cases h; exact .inr rfl
      · cases h
noncomputable def AgV (w : Row) (bodies : List (List UInt8)) (y : Nat) (H : List O) (i : Nat) (st : St) : Prop := st.σ 1 = some (.list (bodies.map .bytes)) ∧ st.σ 2 = some (.int y) ∧ st.σ 4 = some (rowV w) ∧ st.σ 6 = some (rowI w) ∧ st.H = H
noncomputable def AgI (w : Row) (b : List UInt8) (bodies : List (List UInt8)) (y : Nat) (H : List O) (i : Nat) (st : St) : Prop := ∃ b' : List UInt8, b'.length = b.length ∧ st.σ 5 = some (.ref H.length) ∧ AgV w bodies y (H ++ [.barr b']) i st
noncomputable abbrev agO (H : List O) : Res := .ok (.bool true) H
theorem ag_runs {H H' ext : List O} {σ : Nat → Option V} {w : Row} {bodies : List (List UInt8)} {y : Nat} {E : Addr → List O → Prop} (h3 : bodies.length = 3) (hbo : ∀ x ∈ bodies, x.length ≤ 10000) (wr : w.runs.length ≤ 10000) (hH : H' = H ++ ext) (h : AgV w bodies y H' 0 ⟨σ, H'⟩) :
    rz p38 (y_law_agrees.drop 8) ⟨σ, H'⟩ (RetC H (agO H)) E := by
  obtain ⟨z1, z2, z4, z6, _⟩ := h
  have lr : builtinV H' "len" [.list (w.runs.map runI)] = _ := bl_list (by rw [List.length_map]; lia)
  rw [List.length_map] at lr
  refine g_rng (AgV w bodies y H') (x_call (xs_cons (x_call (xs_cons (x_attr (x_loc z6) row_runs) xs_nil) (c_len lr)) xs_nil) (c_range tv_range)) (by lia) ⟨z1, z2, z4, z6, rfl⟩ ?_ ?_
  · rintro ⟨σ, H''⟩ ⟨s1, s2, s4, s6, sH⟩
    obtain rfl : H'' = _ := sH
    exact g_ret x_val (retC_ok ext rfl rfl hH)
  · rintro i ⟨σ, H''⟩ hi ⟨s1, s2, s4, s6, sH⟩
    obtain rfl : H'' = _ := sH
    have hm3 : i % 3 < bodies.length := by rw [h3]; exact Nat.mod_lt _ (by decide)
    have b3 := hbo _ (List.getElem_mem hm3)
    have i1 := it_list (H := H'') (l := w.runs.map runI) (k := i) (x := runI (w.runs[i])) (by lia) (by simp [hi])
    have i2 : itemV H'' (rowV w) (.int 4) = some (.tuple (w.runs.map runV)) := tup_item (k := 4) rfl (by decide)
    have i3 := tup_item (H := H'') (l := w.runs.map runV) (k := i) (v := runV (w.runs[i])) (by simp [hi]) (by omega)
    have i4 := it_list (H := H'') (l := bodies.map .bytes) (k := i % 3) (x := .bytes (bodies[i % 3])) (by lia) (by simp [hm3])
    have e : c_law_fits [runI (w.runs[i]), runV (w.runs[i]), .bytes (bodies[i % 3]), .int ((y : Int) + i)] H'' = _ := spec_law_fits (y := y + i) b3
    refine g_set (x_item (x_attr (x_loc s6) row_runs) (x_loc put_eq) i1) ?_
    refine g_if_f (t_or_f (t_not_f (t_ex (x_call (xs_cons (x_attr (x_loc put_eq) run_small) (xs_cons x_val xs_nil)) (c_isi rfl)))) (t_or_f (t_not_f (t_ex (x_call (xs_cons (x_attr (x_loc put_eq) run_large) (xs_cons x_val xs_nil)) (c_isi rfl)))) t_or0)) ?_
    refine g_if_f (t_not_f (t_ex (x_call (xs_cons (x_loc put_eq) (xs_cons (x_item (x_item (x_loc s4) x_val i2) (x_loc rfl) i3) (xs_cons (x_item (x_loc s1) (x_bin (x_loc rfl) x_val (bv_mod (n := i) (k := 3) (by decide))) i4) (xs_cons (x_bin (x_loc s2) (x_loc rfl) bv_add) xs_nil)))) (c_fn rfl rfl rfl e)))) (g_nil ⟨s1, s2, s4, s6, rfl⟩)
theorem ag_rest {H H' ext : List O} {σ : Nat → Option V} {w : Row} {bodies : List (List UInt8)} {y : Nat} {E : Addr → List O → Prop} (h3 : bodies.length = 3) (hbo : ∀ x ∈ bodies, x.length ≤ 10000) (wd : dec (encRow w) = .ok w) (wl : (encRow w).length ≤ 10000) (wk : RowOk w) (wr : w.runs.length ≤ 10000) (hH : H' = H ++ ext) (h : AgV w bodies y H' 0 ⟨σ, H'⟩) :
    rz p38 (y_law_agrees.drop 5) ⟨σ, H'⟩ (RetC H (agO H)) E := by
  have hv := h
  obtain ⟨s1, s2, s4, s6, _⟩ := h
  have mr := spec_Manifesto_row (H := H') (w := w) (by lia)
  obtain ⟨ss, hs1, hs2, ew⟩ := spec_law_write (H := H') wk
  have en := spec_encode (H := H') wk
  have ed := spec_decode (H := H') (d := .bytes (encRow w)) (.inl rfl) (by lia)
  rw [wd] at ed
  have i0 : itemV H' (.tuple [.bytes (encRow w), .list (ss.map fun (n : Nat) => V.int n)]) (.int 0) = some (.bytes (encRow w)) := tup_item (k := 0) rfl (by decide)
  refine g_if_f (t_or_f (t_cmp (x_meth (x_loc s6) mk_Row xs_nil (m_fn rfl rfl mr)) (x_loc s4) (cmp_row w)) (t_or_f (t_not_f (t_ex (x_call (xs_cons (x_attr (x_loc s6) row_conf) (xs_cons x_val xs_nil)) (c_isi rfl)))) t_or0)) ?_
  refine g_set (x_item (x_call (xs_cons (x_loc s4) xs_nil) (c_fn rfl rfl rfl ew)) x_val i0) ?_
  refine g_if_f (t_or_f (t_cmp (x_meth (x_loc s6) mk_enc xs_nil (m_fn rfl rfl en)) (x_loc put_eq) c_nx) (t_or_f (t_cmp (x_meth (x_call (xs_cons (x_loc put_eq) xs_nil) (c_fn rfl rfl rfl ed)) mk_Row xs_nil (m_fn rfl rfl mr)) (x_loc s4) (cmp_row w)) t_or0)) ?_
  exact ag_runs h3 hbo wr hH ⟨s1, s2, s4, s6, rfl⟩
theorem ag_ok {H : List O} {σ : Nat → Option V} {w : Row} {b : List UInt8} {bodies : List (List UInt8)} {y : Nat} {E : Addr → List O → Prop} (hb : b.length ≤ 10000) (h3 : bodies.length = 3) (hbo : ∀ x ∈ bodies, x.length ≤ 10000) (wd : dec (encRow w) = .ok w) (wl : (encRow w).length ≤ 10000) (wk : RowOk w) (wr : w.runs.length ≤ 10000)
    (s0 : σ 0 = some (.bytes b)) (s3 : σ 3 = some (.int 0)) (s5 : σ 5 = some (.ref H.length)) (h : AgV w bodies y (H ++ [.barr b]) 0 ⟨σ, H ++ [.barr b]⟩) :
    rz p38 (y_law_agrees.drop 3) ⟨σ, H ++ [.barr b]⟩ (RetC H (agO H)) E := by
  have bb : bytesIn (H ++ [O.barr b]) (.ref H.length) = some b := by_ref get_app
  have tb := ty_bytes bb (by lia)
  have bl := bl_bytes bb (by omega)
  have h0 : ¬ ((0 : Int) < 0) := by decide
  refine g_if_f (t_or_f (by lcg_sub) (t_or_f (t_cmp (x_call (xs_cons (x_loc s5) xs_nil) (c_bytes tb)) (x_loc s0) c_nx) t_or0)) ?_
  refine g_rng (AgI w b bodies y H) (x_call (xs_cons (x_call (xs_cons (x_loc s5) xs_nil) (c_len bl)) xs_nil) (c_range tv_range)) (by lia) ⟨b, rfl, s5, h⟩ ?_ ?_
  · rintro ⟨σ, H'⟩ ⟨b', hl, s5, h⟩
    obtain rfl : H' = _ := h.2.2.2.2
    exact ag_rest h3 hbo wd wl wk wr rfl h
  · rintro i ⟨σ, H'⟩ hi ⟨b', hl, s5, h⟩
    obtain rfl : H' = _ := h.2.2.2.2
    obtain ⟨s1, s2, s4, s6, _⟩ := h
    have hib : i < b'.length := by lia
    have eit := it_bytes (by_ref (get_app (H := H) (o := .barr b') (r := []))) hib (by lia)
    have x8 := (b'[i]).toNat_lt
    have bs : binV (H ++ [O.barr b']) .Sub (.int 255) (.int (b'[i]).toNat) = some (.int (255 - (b'[i]).toNat : Nat)) := congrArg (fun i => some (V.int i)) (by omega)
    refine g_seti (x_bin x_val (x_item (x_loc s5) (x_loc put_eq) eit) bs) (x_loc s5) (x_loc put_eq) (d_seti get_app hib (by omega) (by lia)) (g_nil ⟨b'.set i (255 - (b'[i]).toNat).toUInt8, by rw [List.length_set]; exact hl, s5, s1, s2, s4, s6, set_app⟩)
theorem spec_agrees {H : List O} {b : List UInt8} {bodies : List (List UInt8)} {y : Nat} (hb : b.length ≤ 10000) (h3 : bodies.length = 3) (hbo : ∀ x ∈ bodies, x.length ≤ 10000) : c_law_agrees [.bytes b, .list (bodies.map .bytes), .int y] H = some (.ok (.bool true) H) := by
  have er := spec_law_read' (H := H) (b := b) (by lia)
  have sd := spec_decode (H := H ++ [O.barr b]) (d := .ref H.length) (b := b) (.inr ⟨_, rfl, get_app⟩) (by omega)
  refine ctC_g rfl ?_
  cases hd : dec b with
  | error e =>
    rw [hd] at sd er
    replace er : _ = some (Res.ok (.tuple [.int e, .tuple []]) H) := er
    refine g_unp (x_call (xs_cons (x_loc rfl) xs_nil) (c_fn rfl rfl rfl er)) rfl rfl (g_set (x_call (xs_cons (x_loc rfl) xs_nil) (c_bar1 (by lia))) ?_)
    replace sd : _ = some (Res.exc (exk e) (H ++ [O.barr b])) := sd
    have hx : ∀ σ : Nat → Option V, σ 5 = some (.ref H.length) → evYs p38 KF [.set 6 (.call (.ref 413) [(.loc 5)])] ⟨σ, H ++ [O.barr b]⟩ = some (.exc (exk e) ⟨σ, H ++ [O.barr b]⟩) := fun σ h5 =>
      ys_set_e (x_call_e (xs_cons (x_loc h5) xs_nil) (c_fn_e (s1 := ⟨σ, H ++ [O.barr b]⟩) rfl (z_cons (z_barr get_app) z_nil) rfl sd))
    rcases dec_err hd with rfl | rfl
    · refine g_try_e (hx _ rfl) (p := (68, .cmp .Eq (.loc 3) (.val (.int 1)))) (by rfl) (x_cmp (x_loc rfl) x_val (c_eq_t rfl)) ?_
      exact retC_ok _ rfl rfl rfl
    · refine g_try_e (hx _ rfl) (p := (56, .cmp .Eq (.loc 3) (.val (.int 2)))) (by rfl) (x_cmp (x_loc rfl) x_val (c_eq_t rfl)) ?_
      exact retC_ok _ rfl rfl rfl
  | ok w =>
    obtain ⟨wd, wl, wr⟩ := dec_inv hd (by lia)
    have wk := RowOk.of wd (by lia)
    rw [hd] at sd er
    replace er : _ = some (Res.ok (.tuple [.int 0, rowV w]) H) := er
    refine g_unp (x_call (xs_cons (x_loc rfl) xs_nil) (c_fn rfl rfl rfl er)) rfl rfl (g_set (x_call (xs_cons (x_loc rfl) xs_nil) (c_bar1 (by lia))) ?_)
    replace sd : _ = some (Res.ok (rowI w) (H ++ [O.barr b])) := sd
    refine g_try_ok (ys_set (x_call (xs_cons (x_loc put_eq) xs_nil) (c_fn rfl (z_cons (z_barr get_app) z_nil) rfl sd))) ?_
    exact ag_ok hb h3 hbo (dec_enc wd) (by omega) wk (by lia) rfl rfl rfl ⟨rfl, rfl, rfl, rfl, rfl⟩
noncomputable def IX (φ : Tab) (st : St) (e : X) (m : Nat) : Prop := ∃ n : Nat, n ≤ m ∧ evX φ e st = some (.ok (.int n) st)
noncomputable def BX (φ : Tab) (st : St) (e : X) (m : Nat) : Prop := ∃ x : List UInt8, x.length ≤ m ∧ evX φ e st = some (.ok (.bytes x) st)
noncomputable def LX (φ : Tab) (st : St) (es : List X) : Prop := ∃ l : List Nat, (∀ x ∈ l, x < 256) ∧ l.length = es.length ∧ evXs φ es st = some (.ok (l.map fun (n : Nat) => V.int n) st)
section
variable {φ : Tab} {st : St} {a b e : X} {m n k : Nat}
theorem ix_val : IX φ st (.val (.int (k : Nat))) k := ⟨k, Nat.le_refl _, x_val⟩
theorem ix_loc {i x : Nat} (h : st.σ i = some (.int (x : Nat))) (hx : x ≤ m) : IX φ st (.loc i) m := ⟨x, hx, x_loc h⟩
theorem ix_add : IX φ st a m → IX φ st b n → IX φ st (.bin .Add a b) (m + n)
  | ⟨x, hx, ex⟩, ⟨y, hy, ey⟩ => ⟨x + y, Nat.add_le_add hx hy, x_bin ex ey bv_add⟩
theorem ix_mod : IX φ st a m → 0 < k → IX φ st (.bin .Mod a (.val (.int (k : Nat)))) (k - 1)
  | ⟨x, hx, ex⟩, hk => ⟨x % k, Nat.le_sub_one_of_lt (Nat.mod_lt x hk), x_bin ex x_val (bv_mod (Nat.ne_of_gt hk))⟩
theorem ix_div : IX φ st a m → 0 < k → k < 1000000 → IX φ st (.bin .FloorDiv a (.val (.int (k : Nat)))) m
  | ⟨x, hx, ex⟩, hk, h2 => ⟨x / k, Nat.le_trans (Nat.div_le_self _ _) hx, x_bin ex x_val (bv_div (Nat.ne_of_gt hk) (by lia))⟩
theorem ix_item {o i : X} {l : List Nat} (ho : evX φ o st = some (.ok (.tuple (l.map fun (n : Nat) => V.int n)) st)) : IX φ st i n → n < l.length → l.length ≤ 1000 → (∀ x ∈ l, x ≤ m) → IX φ st (.item o i) m
  | ⟨x, hx, ex⟩, hn, hl, hM => by
    have hxl : x < l.length := by lia
    exact ⟨l[x], hM _ (List.getElem_mem hxl), x_item ho ex (tup_item (by simp [hxl]) (by lia))⟩
theorem bx_loc {i : Nat} {x : List UInt8} (h : st.σ i = some (.bytes x)) (hx : x.length ≤ m) : BX φ st (.loc i) m := ⟨x, hx, x_loc h⟩
theorem bx_val {x : List UInt8} (hx : x.length ≤ m) : BX φ st (.val (.bytes x)) m := ⟨x, hx, x_val⟩
theorem bx_add : BX φ st a m → BX φ st b n → m + n ≤ 1000000 → BX φ st (.bin .Add a b) (m + n)
  | ⟨x, hx, ex⟩, ⟨y, hy, ey⟩, hz => ⟨x ++ y, by rw [List.length_append]; exact Nat.add_le_add hx hy, x_bin ex ey (bv_cat (by lia))⟩
theorem lx_nil : LX φ st [] := ⟨[], by simp, rfl, xs_nil⟩
theorem lx_cons {es : List X} : IX φ st e m → m < 256 → LX φ st es → LX φ st (e :: es)
  | ⟨x, hx, ex⟩, hm, ⟨l, hl, hn, el⟩ => ⟨x :: l, fun z hz => (List.mem_cons.mp hz).elim (fun q => by lia) (hl z), congrArg (· + 1) hn, xs_cons ex el⟩
theorem octets_nat : ∀ {l : List Nat}, (∀ x ∈ l, x < 256) → (intsOf (l.map fun (n : Nat) => V.int n)).bind octets = some (l.map fun n => n.toUInt8)
  | [], _ => rfl
  | x :: l, h => by
    have hx := h x (by simp)
    have ih := octets_nat (l := l) fun z hz => h z (by simp [hz])
    simp only [List.map_cons, intsOf_e1, intOf]
    cases q : intsOf (l.map fun (n : Nat) => V.int n) with
    | none => rw [q] at ih; exact nn ih
    | some is =>
      rw [q] at ih
      simp only [Option.bind_some, Option.map_some, octets_e1] at ih ⊢
      rw [if_pos ⟨by lia, by lia⟩, ih]
      simp
theorem bx_list {es : List X} : LX φ st es → es.length ≤ 1000 → BX φ st (.call (.type "bytes") [(.list es)]) es.length
  | ⟨l, hl, hn, el⟩, hz => ⟨l.map fun n => n.toUInt8, by rw [List.length_map, hn]; exact Nat.le_refl _, x_call (xs_cons (x_list el (by rw [List.length_map]; lia)) xs_nil) (c_bytes ((tv_bytes (by rw [List.length_map]; omega)).trans (by rw [octets_nat hl]; rfl)))⟩
theorem bv_rep {H : List O} {z : UInt8} {x : Nat} (h : x ≤ 1000) : binV H .Mult (.bytes [z]) (.int x) = some (.bytes (List.replicate x z)) := if_pos ⟨by lia, by lia⟩
theorem bx_rep : IX φ st a m → m < 256 → IX φ st b n → n ≤ 1000 → BX φ st (.bin .Mult (.call (.type "bytes") [(.list [a])]) b) n
  | ⟨z, hz, ez⟩, hm, ⟨x, hx, ex⟩, hn => ⟨List.replicate x z.toUInt8, by rw [List.length_replicate]; exact hx, x_bin (x_call (xs_cons (x_list (xs_cons ez xs_nil) (len_le rfl)) xs_nil) (c_bytes (ty_one (by lia)))) ex (bv_rep (by lia))⟩
theorem bx_upto {o i : X} : BX φ st o m → m ≤ 1000000 → IX φ st i n → n < 1000000 → BX φ st (.slice o none (some i)) m
  | ⟨x, hx, ex⟩, hm, ⟨y, hy, ey⟩, hn => ⟨_, Nat.le_trans cutL_len hx, x_slice ex xo_none (xo_some ey) (sl_two part_none (part_big (by lia) (by lia)) (by lia))⟩
theorem bx_from {o i : X} : BX φ st o m → m ≤ 1000000 → IX φ st i n → n < 1000000 → BX φ st (.slice o (some i) none) m
  | ⟨x, hx, ex⟩, hm, ⟨y, hy, ey⟩, hn => ⟨_, Nat.le_trans cutL_len hx, x_slice ex (xo_some ey) xo_none (sl_two (part_big (by omega) (by omega)) part_none (by omega))⟩
end
noncomputable def BxR (m : Nat) (v : V) : Prop := ∃ x : List UInt8, x.length ≤ m ∧ v = .bytes x
theorem g_bret {φ : Tab} {st : St} {e : X} {m n : Nat} {r : List Y} : BX φ st e m → m ≤ n → rz φ (.ret e :: r) st (RetS st.H (BxR n)) NoE
  | ⟨x, hx, ex⟩, hm => g_ret ex (retS_ok rfl ⟨x, by lia, rfl⟩ rfl)
theorem spec_word {H : List O} {n y : Nat} : ∃ x : List UInt8, x.length ≤ 130 ∧ c_law_word [.int n, .int y] H = some (.ok (.bytes x) H) := by
  suffices h : ∃ v, c_law_word [.int n, .int y] H = some (.ok v H) ∧ BxR 130 v by
    obtain ⟨v, h1, x, h2, rfl⟩ := h
    exact ⟨x, h2, h1⟩
  refine ctR_x rfl ?_
  obtain ⟨z, hz, ez⟩ : IX p39 ⟨fun j => [V.int n, V.int y][j % 100]?, H⟩ (.item (.tup [(.val (.int 0)), (.val (.int 1)), (.val (.int 8)), (.val (.int 2)), (.val (.int 9)), (.val (.int 0)), (.val (.int 1)), (.val (.int 130))]) (.bin .Mod (.loc 0) (.val (.int 8)))) 130 :=
    ix_item (l := [0, 1, 8, 2, 9, 0, 1, 130]) (x_tup (xs_cons x_val (xs_cons x_val (xs_cons x_val (xs_cons x_val (xs_cons x_val (xs_cons x_val (xs_cons x_val (xs_cons x_val xs_nil)))))))) (len_le rfl)) (ix_mod (k := 8) (ix_loc (x := n) rfl (Nat.le_refl _)) (by decide)) (by decide) (by decide) (by decide)
  have ly : IX p39 (St.put ⟨fun j => [V.int n, V.int y][j % 100]?, H⟩ 2 (.int z)) (.loc 1) y := ix_loc (x := y) rfl (Nat.le_refl _)
  exact g_set ez (g_bret (bx_upto (m := 4 + 126) (bx_add (bx_list (lx_cons (ix_mod (k := 256) ly (by decide)) (by decide) (lx_cons (ix_val (k := 255)) (by decide) (lx_cons (ix_val (k := 0)) (by decide) (lx_cons (ix_val (k := 128)) (by decide) lx_nil)))) (by decide)) (bx_rep (ix_mod (k := 256) (ix_div (k := 3) ly (by decide) (by decide)) (by decide)) (by decide) (ix_val (k := 126)) (by decide)) (by decide)) (by decide) (ix_loc (x := z) rfl hz) (by decide)) (Nat.le_refl _))
theorem spec_body {H : List O} {y : Nat} : ∃ x : List UInt8, x.length ≤ 6 ∧ c_law_body [.int y] H = some (.ok (.bytes x) H) := by
  suffices h : ∃ v, c_law_body [.int y] H = some (.ok v H) ∧ BxR 6 v by
    obtain ⟨v, h1, x, h2, rfl⟩ := h
    exact ⟨x, h2, h1⟩
  have ly : IX p40 ⟨fun j => [V.int y][j % 100]?, H⟩ (.loc 0) y := ix_loc (x := y) rfl (Nat.le_refl _)
  exact ctR_x rfl (g_bret (bx_upto (m := 6) (bx_list (lx_cons (ix_mod (k := 251) ly (by decide)) (by decide) (lx_cons (ix_mod (k := 256) (ix_div (k := 7) ly (by decide) (by decide)) (by decide)) (by decide) (lx_cons (ix_val (k := 255)) (by decide) (lx_cons (ix_val (k := 0)) (by decide) (lx_cons (ix_mod (k := 200) (ix_div (k := 31) ly (by decide) (by decide)) (by decide)) (by decide) (lx_cons (ix_val (k := 9)) (by decide) lx_nil)))))) (by decide)) (by decide)
    (ix_item (m := 6) (o := .tup [(.val (.int 6)), (.val (.int 3)), (.val (.int 2)), (.val (.int 5)), (.val (.int 1)), (.val (.int 0))]) (l := [6, 3, 2, 5, 1, 0]) (x_tup (xs_cons x_val (xs_cons x_val (xs_cons x_val (xs_cons x_val (xs_cons x_val (xs_cons x_val xs_nil)))))) (len_le rfl)) (ix_mod (k := 6) ly (by decide)) (by decide) (by decide) (by decide)) (by decide)) (Nat.le_refl _))
theorem spec_draw {H : List O} {ns : List Nat} {i : Nat} (h : ns ≠ []) (hl : ns.length ≤ 1000) : ∃ x : Nat, c_law_draw [.list (ns.map fun (n : Nat) => V.int n), .int i] H = some (.ok (.int (x : Nat)) H) := by
  have hp : 0 < ns.length := List.length_pos_iff.mpr h
  have hi : i % ns.length < ns.length := Nat.mod_lt _ hp
  have bl : builtinV H "len" [.list (ns.map fun (n : Nat) => V.int n)] = _ := bl_list (by rw [List.length_map]; lia)
  rw [List.length_map] at bl
  have bm := bv_mod (H := H) (n := i) (k := ns.length) (by lia)
  have it := it_list (H := H) (l := ns.map fun (n : Nat) => V.int n) (k := i % ns.length) (x := .int (ns[i % ns.length] : Nat)) (by lia) (by simp [hi])
  have m1 : binV H .Mult (.int 7919) (.int (i : Nat)) = some (.int (7919 * (i : Int))) := if_pos (.inr (by decide))
  refine ⟨ns[i % ns.length] + 7919 * i, ctR_g rfl (g_ret (x_bin (x_item (x_loc rfl) (x_bin (x_loc rfl) (x_call (xs_cons (x_loc rfl) xs_nil) (c_len bl)) bm) it) (x_bin x_val (x_loc rfl) m1) bv_add) (ret_ok rfl rfl))⟩
structure RunB (r : Run) : Prop where
  level : r.level ≤ 12
  size : r.size < 2 ^ 64
  check : r.check < 2 ^ 32
  small : r.small.length ≤ 130
  large : r.large.length ≤ 130
theorem tst_mod {φ : Tab} {st : St} {i y m k : Nat} (h : st.σ i = some (.int (y : Nat))) (hm : m ≠ 0) : evT φ (.cmp .Eq (.bin .Mod (.loc i) (.val (.int (m : Nat)))) (.val (.int (k : Nat)))) st = some (.ok (y % m == k) st) :=
  t_cmp (x_bin (x_loc h) x_val (bv_mod hm)) x_val beq_nat
theorem g_ask {φ : Tab} {st s1 : St} {P : Option V → St → Prop} {E : Addr → List O → Prop} {t : T} {b e ys : List Y} {c : Bool} (h : evT φ t st = some (.ok c s1)) (ht : c = true → rz φ (b ++ ys) s1 P E) (hf : c = false → rz φ (e ++ ys) s1 P E) : rz φ (.ifs t b e :: ys) st P E := by
  induction c using Bool.casesOn with
  | true => exact g_if_t h (ht rfl)
  | false => exact g_if_f h (hf rfl)
theorem ck_lt (b : List UInt8) : ck b < 2 ^ 32 := Nat.mod_lt _ (by decide)
noncomputable def RnR (v : V) : Prop := ∃ r : Run, RunB r ∧ v = runV r
theorem run_tail {H : List O} {y s c : Nat} {σ : Nat → Option V} (s0 : σ 0 = some (.int (y : Nat))) (s2 : σ 2 = some (.int (s : Nat))) (hs : s < 2 ^ 64) (s3 : σ 3 = some (.int (c : Nat))) (hc : c < 2 ^ 32) : rz p41 (y_law_run.drop 4) ⟨σ, H⟩ (RetS H RnR) NoE := by
  refine g_set (x_bin (x_loc s0) x_val (bv_div (n := y) (k := 35) (by decide) (by decide))) ?_
  generalize y / 35 = q
  obtain ⟨lv, hlv, e0⟩ : IX p41 (St.put ⟨σ, H⟩ 4 (.int q)) (.item (.val (.tuple [(.int 0), (.int 1), (.int 5), (.int 11), (.int 2), (.int 7), (.int 10), (.int 0), (.int 1), (.int 2), (.int 12)])) (.bin .Mod (.loc 4) (.val (.int 11)))) 12 :=
    ix_item (l := [0, 1, 5, 11, 2, 7, 10, 0, 1, 2, 12]) x_val (ix_mod (k := 11) (ix_loc (x := q) rfl (Nat.le_refl _)) (by decide)) (by decide) (by decide) (by decide)
  obtain ⟨w1, l1, e1⟩ := spec_word (H := H) (n := q / 11) (y := q)
  obtain ⟨w2, l2, e2⟩ := spec_word (H := H) (n := q / 88) (y := q / 5)
  refine g_ret (x_tup (xs_cons e0 (xs_cons (x_loc s2) (xs_cons (x_loc s3) (xs_cons (x_call (xs_cons (x_bin (x_loc put_eq) x_val (bv_div (n := q) (k := 11) (by decide) (by decide))) (xs_cons (x_loc put_eq) xs_nil)) (c_fn rfl rfl rfl e1)) (xs_cons (x_call (xs_cons (x_bin (x_loc put_eq) x_val (bv_div (n := q) (k := 88) (by decide) (by decide))) (xs_cons (x_bin (x_loc put_eq) x_val (bv_div (n := q) (k := 5) (by decide) (by decide))) xs_nil)) (c_fn rfl rfl rfl e2)) xs_nil))))) (len_le rfl)) ?_
  exact retS_ok rfl ⟨⟨lv, s, c, w1, w2⟩, ⟨hlv, hs, hc, l1, l2⟩, rfl⟩ rfl
theorem run_mid {H : List O} {y s c : Nat} {σ : Nat → Option V} (s0 : σ 0 = some (.int (y : Nat))) (s2 : σ 2 = some (.int (s : Nat))) (hs : s < 2 ^ 64) (s3 : σ 3 = some (.int (c : Nat))) (hc : c < 2 ^ 32) : rz p41 (y_law_run.drop 3) ⟨σ, H⟩ (RetS H RnR) NoE := by
  refine g_ask (tst_mod (i := 0) (m := 5) (k := 4) s0 (by decide)) (fun _ => ?_) (fun _ => run_tail s0 s2 hs s3 hc)
  have p1 : binV H .Pow (.int 2) (.int 32) = some (.int (4294967296 : Nat)) := bv_pow (x := 2) (k := 32) (by decide) (by decide)
  have m1 : binV H .Mult (.int (y : Nat)) (.int 4099) = some (.int (y * 4099 : Nat)) := bv_mul (x := (y : Int)) (k := 4099) (by decide)
  exact g_set (x_bin (x_bin (x_loc s0) x_val m1) (x_bin x_val x_val p1) (bv_mod (n := y * 4099) (k := 4294967296) (by decide))) (run_tail s0 s2 hs rfl (Nat.mod_lt _ (by decide)))
theorem spec_run {H : List O} {y : Nat} {d : List UInt8} (hd : d.length ≤ 10000) : ∃ r : Run, RunB r ∧ c_law_run [.int y, .bytes d] H = some (.ok (runV r) H) := by
  suffices h : ∃ v, c_law_run [.int y, .bytes d] H = some (.ok v H) ∧ RnR v by
    obtain ⟨v, h1, r, h2, rfl⟩ := h
    exact ⟨r, h2, h1⟩
  have bl := bl_len (H := H) (b := d) (by lia)
  have es := spec_law_sum (H := H) (b := d) (by lia)
  have ckl := ck_lt d
  refine ctR_x rfl (g_set (x_call (xs_cons (x_loc rfl) xs_nil) (c_len bl)) (g_set (x_call (xs_cons (x_loc rfl) xs_nil) (c_fn rfl rfl rfl es)) ?_))
  generalize ck d = kd at ckl
  refine g_ask (tst_mod (i := 0) (m := 7) (k := 6) (y := y) rfl (by decide)) (fun _ => ?_) (fun _ => run_mid rfl rfl (by lia) rfl ckl)
  obtain ⟨sz, hsz, e0⟩ : IX p41 (St.put (St.put ⟨fun j => [V.int y, V.bytes d][j % 100]?, H⟩ 2 (.int d.length)) 3 (.int kd)) (.item (.val (.tuple [(.int 0), (.int 1), (.int 127), (.int 128), (.int 300), (.int 16384), (.int 4294967296), (.int 18446744073709551615)])) (.bin .Mod (.bin .FloorDiv (.loc 0) (.val (.int 7))) (.val (.int 8)))) 18446744073709551615 :=
    ix_item (l := [0, 1, 127, 128, 300, 16384, 4294967296, 18446744073709551615]) x_val (ix_mod (k := 8) (ix_div (k := 7) (ix_loc (x := y) rfl (Nat.le_refl _)) (by decide) (by decide)) (by decide)) (by decide) (by decide) (by decide)
  exact g_set e0 (run_mid rfl rfl (by lia) rfl ckl)
noncomputable abbrev hP (H : List O) (n : Nat) : Option V → St → Prop := RetS H (BxR n)
theorem tst_eq {φ : Tab} {st : St} {i y k : Nat} (h : st.σ i = some (.int (y : Nat))) : evT φ (.cmp .Eq (.loc i) (.val (.int (k : Nat)))) st = some (.ok (y == k) st) := t_cmp (x_loc h) x_val beq_nat
theorem h_ret {H : List O} {σ : Nat → Option V} {e : X} {m n : Nat} {r : List Y} (h : BX p42 ⟨σ, H⟩ e m) (hm : m ≤ n) : rz p42 (.ret e :: r) ⟨σ, H⟩ (hP H n) NoE := g_bret h hm
theorem h_way {H : List O} {σ : Nat → Option V} {w k n : Nat} {b r : List Y} (h : σ 3 = some (.int (w : Nat))) (hb : rz p42 (b ++ r) ⟨σ, H⟩ (hP H n) NoE) (hr : rz p42 r ⟨σ, H⟩ (hP H n) NoE) : rz p42 (.ifs (.cmp .Eq (.loc 3) (.val (.int (k : Nat)))) b [] :: r) ⟨σ, H⟩ (hP H n) NoE :=
  g_ask (tst_eq (k := k) h) (fun _ => hb) (fun _ => hr)
noncomputable def HtI (d : List UInt8) (v : Nat) (H : List O) (j : Nat) (st : St) : Prop := ∃ a : Nat, a ≤ d.length ∧ j = d.length - a ∧ st.σ 0 = some (.bytes d) ∧ st.σ 5 = some (.int a) ∧ st.σ 6 = some (.int v) ∧ st.H = H
theorem h_long {H : List O} {σ : Nat → Option V} {d : List UInt8} {a v : Nat} {r : List Y} (hd : d.length ≤ 9000) (z0 : σ 0 = some (.bytes d)) (z5 : σ 5 = some (.int a)) (ha : a ≤ d.length) (z6 : σ 6 = some (.int v)) (hv : v < 256) :
    rz p42 (.whl (.bool .And [(.cmp .Lt (.loc 5) (.call (.builtin "len") [(.loc 0)])), (.cmp .GtE (.item (.loc 0) (.loc 5)) (.val (.int 128)))]) [.aug 5 .Add (.val (.int 1))] ::
    .ifs (.cmp .Eq (.loc 5) (.call (.builtin "len") [(.loc 0)])) [.ret (.loc 0)] [] ::
    .set 10 (.bin .Add (.bin .Add (.call (.type "bytes") [(.list [(.bin .Add (.item (.loc 0) (.loc 5)) (.val (.int 128)))])]) (.bin .Mult (.call (.type "bytes") [(.list [(.val (.int 128))])]) (.bin .Mod (.loc 6) (.val (.int 10))))) (.val (.bytes [0]))) ::
    .ret (.bin .Add (.bin .Add (.slice (.loc 0) none (some (.loc 5))) (.loc 10)) (.slice (.loc 0) (some (.bin .Add (.loc 5) (.val (.int 1)))) none)) :: r) ⟨σ, H⟩ (hP H (2 * d.length + 40)) NoE := by
  refine g_whl (HtI d v H) (d.length - a) (by unfold KF; omega) ⟨a, ha, rfl, z0, z5, z6, rfl⟩ ?_
  rintro j ⟨σ', H'⟩ ⟨a, ha, rfl, y0, y5, y6, sH⟩
  obtain rfl : H' = _ := sH
  have bl := bl_len (H := H') (b := d) (by lia)
  by_cases hx : a < d.length
  · have h1 : ((a : Int) < d.length) := by lia
    have hne : ¬ ((a : Int) = d.length) := by lia
    have eit := it_bytes (H := H') (d := .bytes d) (b := d) rfl hx (by omega)
    by_cases hx2 : 128 ≤ (d[a]).toNat
    · have h2 : (128 ≤ ((d[a]).toNat : Int)) := by lia
      refine .inr ⟨_, t_and_t (by lcg_sub) (t_and_t (by lcg_sub) t_and0), g_aug y5 x_val av_add (g_nil ?_)⟩
      exact ⟨d.length - (a + 1), by lia, a + 1, hx, rfl, y0, rfl, y6, rfl⟩
    · have h2 : ¬ (128 ≤ ((d[a]).toNat : Int)) := by lia
      refine .inl ⟨_, t_and_t (by lcg_sub) (t_and_f (by lcg_sub)), g_if_f (by lcg_sub) ?_⟩
      have it1 : IX p42 ⟨σ', H'⟩ (.item (.loc 0) (.loc 5)) 127 := ⟨_, by lia, x_item (x_loc y0) (x_loc y5) eit⟩
      obtain ⟨lo, hlo, el⟩ : BX p42 ⟨σ', H'⟩ (.bin .Add (.bin .Add (.call (.type "bytes") [(.list [(.bin .Add (.item (.loc 0) (.loc 5)) (.val (.int 128)))])]) (.bin .Mult (.call (.type "bytes") [(.list [(.val (.int 128))])]) (.bin .Mod (.loc 6) (.val (.int 10))))) (.val (.bytes [0]))) (1 + 9 + 1) :=
        bx_add (bx_add (bx_list (lx_cons (ix_add it1 (ix_val (k := 128))) (by decide) lx_nil) (by decide)) (bx_rep (ix_val (k := 128)) (by decide) (ix_mod (k := 10) (ix_loc y6 (Nat.le_refl _)) (by decide)) (by decide)) (by decide)) (bx_val (m := 1) (by decide)) (by decide)
      have D1 : BX p42 (St.put ⟨σ', H'⟩ 10 (.bytes lo)) (.loc 0) d.length := bx_loc (x := d) y0 (Nat.le_refl _)
      have A1 : IX p42 (St.put ⟨σ', H'⟩ 10 (.bytes lo)) (.loc 5) d.length := ix_loc (x := a) y5 ha
      exact g_set el (h_ret (bx_add (bx_add (bx_upto D1 (by lia) A1 (by lia)) (bx_loc (m := 11) put_eq hlo) (by lia)) (bx_from D1 (by omega) (ix_add A1 (ix_val (k := 1))) (by lia)) (by lia)) (by lia))
  · have h1 : ¬ ((a : Int) < d.length) := by lia
    have heq : ((a : Int) = d.length) := by lia
    exact .inl ⟨_, t_and_f (by lcg_sub), g_if_t (by lcg_sub) (h_ret (bx_loc y0 (Nat.le_refl _)) (by lia))⟩
theorem h_tail {H : List O} {σ : Nat → Option V} {d f g : List UInt8} {w a v h : Nat} (hd : d.length ≤ 9000) (z0 : σ 0 = some (.bytes d)) (z3 : σ 3 = some (.int (w : Nat))) (z5 : σ 5 = some (.int (a : Nat))) (ha : a ≤ d.length) (z6 : σ 6 = some (.int (v : Nat))) (hv : v < 256) (z7 : σ 7 = some (.bytes f)) (hf : f.length ≤ d.length) (z8 : σ 8 = some (.bytes g)) (hg : g.length ≤ d.length) (z9 : σ 9 = some (.int (h : Nat))) (hh : h ≤ 128) :
    rz p42 (y_law_hurt.drop 6) ⟨σ, H⟩ (hP H (2 * d.length + 40)) NoE := by
  have F : BX p42 ⟨σ, H⟩ (.loc 7) d.length := bx_loc z7 hf
  have Gb : BX p42 ⟨σ, H⟩ (.loc 8) d.length := bx_loc z8 hg
  have G1 : BX p42 ⟨σ, H⟩ (.slice (.loc 8) (some (.val (.int 1))) none) d.length := bx_from Gb (by lia) (ix_val (k := 1)) (by decide)
  have V1 : IX p42 ⟨σ, H⟩ (.loc 6) 255 := ix_loc z6 (by lia)
  have hi : IX p42 ⟨σ, H⟩ (.loc 9) 128 := ix_loc z9 hh
  have one : ∀ {e : X} {m : Nat}, IX p42 ⟨σ, H⟩ e m → m < 256 → BX p42 ⟨σ, H⟩ (.call (.type "bytes") [(.list [e])]) 1 := fun he hm => bx_list (lx_cons he hm lx_nil) (by decide : 1 ≤ 1000)
  have rep : ∀ (k n : Nat), k < 256 → n ≤ 100 → BX p42 ⟨σ, H⟩ (.bin .Mult (.call (.type "bytes") [(.list [(.val (.int (k : Nat)))])]) (.val (.int (n : Nat)))) n := fun k n hk hn => bx_rep (ix_val (k := k)) hk (ix_val (k := n)) (by lia)
  have three : ∀ {e1 e2 e3 : X} {m : Nat}, BX p42 ⟨σ, H⟩ e1 d.length → BX p42 ⟨σ, H⟩ e2 m → BX p42 ⟨σ, H⟩ e3 d.length → m ≤ 10 → ∀ {r : List Y}, rz p42 (.ret (.bin .Add (.bin .Add e1 e2) e3) :: r) ⟨σ, H⟩ (hP H (2 * d.length + 40)) NoE := fun {_ _ _ _} h1 h2 h3 hm {r} => h_ret (bx_add (bx_add h1 h2 (by lia)) h3 (by lia)) (by lia)
  have four : ∀ {e2 e3 : X} {m : Nat}, BX p42 ⟨σ, H⟩ e2 m → BX p42 ⟨σ, H⟩ e3 1 → m ≤ 10 → ∀ {r : List Y}, rz p42 (.ret (.bin .Add (.bin .Add (.bin .Add (.loc 7) e2) e3) (.slice (.loc 8) (some (.val (.int 1))) none)) :: r) ⟨σ, H⟩ (hP H (2 * d.length + 40)) NoE := fun {_ _ _} h2 h3 hm {r} => h_ret (bx_add (bx_add (bx_add F h2 (by omega)) h3 (by lia)) G1 (by lia)) (by lia)
  refine h_way (k := 0) z3 (three F (one V1 (by decide)) G1 (by decide)) ?_
  refine h_way (k := 1) z3 (three F (one V1 (by decide)) Gb (by decide)) ?_
  refine h_way (k := 2) z3 (h_ret (bx_add F G1 (by lia)) (by lia)) ?_
  refine h_way (k := 3) z3 (h_ret F (by lia)) ?_
  refine h_way (k := 4) z3 (three F (one (ix_mod (k := 32) V1 (by decide)) (by decide)) G1 (by decide)) ?_
  refine h_way (k := 5) z3 (h_long hd z0 z5 ha z6 hv) ?_
  refine h_way (k := 6) z3 (four (rep 255 9 (by decide) (by decide)) (one (ix_add (ix_mod (k := 4) V1 (by decide)) hi) (by decide)) (by decide)) ?_
  refine h_way (k := 7) z3 (four (rep 255 4 (by decide) (by decide)) (one (ix_add (ix_mod (k := 32) V1 (by decide)) hi) (by decide)) (by decide)) ?_
  exact g_ask (tst_mod (i := 6) (m := 2) (k := 0) z6 (by decide)) (fun _ => four (rep 255 7 (by decide) (by decide)) (bx_val (by decide)) (by decide)) (fun _ => four (rep 128 8 (by decide) (by decide)) (bx_val (by decide)) (by decide))
theorem h_mid {H : List O} {σ : Nat → Option V} {d : List UInt8} {w a v : Nat} (hd : d.length ≤ 9000) (z0 : σ 0 = some (.bytes d)) (z3 : σ 3 = some (.int (w : Nat))) (z5 : σ 5 = some (.int (a : Nat))) (ha : a ≤ d.length) (z6 : σ 6 = some (.int (v : Nat))) (hv : v < 256) : rz p42 (y_law_hurt.drop 3) ⟨σ, H⟩ (hP H (2 * d.length + 40)) NoE := by
  obtain ⟨f, hf, ef⟩ := bx_upto (φ := p42) (st := ⟨σ, H⟩) (bx_loc z0 (Nat.le_refl _)) (by lia) (ix_loc z5 ha) (by lia)
  obtain ⟨g, hg, eg⟩ := bx_from (φ := p42) (st := St.put ⟨σ, H⟩ 7 (.bytes f)) (bx_loc (i := 0) (x := d) z0 (Nat.le_refl _)) (by lia) (ix_loc (i := 5) (x := a) z5 ha) (by lia)
  have m1 : binV H .Mult (.int (v / 128 : Nat)) (.int 128) = some (.int (v / 128 * 128 : Nat)) := bv_mul (x := ((v / 128 : Nat) : Int)) (k := 128) (by decide)
  refine g_set ef (g_set eg (g_set (x_bin (x_bin (x_loc z6) x_val (bv_div (n := v) (k := 128) (by decide) (by decide))) x_val m1) ?_))
  exact h_tail hd z0 z3 z5 ha z6 hv rfl hf rfl hg rfl (by lia)
theorem bl_min {H : List O} {a b : Nat} : builtinV H "min" [.int (a : Nat), .int (b : Nat)] = some (.int (min a b : Nat)) := by
  unfold builtinV
  rw [if_neg (by decide), if_neg (by decide), if_pos rfl]
  exact congrArg (fun i => some (V.int i)) (by omega)
theorem hurt_place {H : List O} {σ : Nat → Option V} {d : List UInt8} {w : Nat} {e1 e2 : X} {a v : Nat} (hd : d.length ≤ 9000) (z0 : σ 0 = some (.bytes d)) (z3 : σ 3 = some (.int w)) (h1 : evX p42 e1 ⟨σ, H⟩ = some (.ok (.int a) ⟨σ, H⟩)) (ha : a ≤ d.length) (h2 : ∀ σ', (∀ i, i ≤ 4 → σ' i = σ i) → evX p42 e2 ⟨σ', H⟩ = some (.ok (.int v) ⟨σ', H⟩)) (hv : v < 256) :
    rz p42 (.set 5 e1 :: .set 6 e2 :: y_law_hurt.drop 3) ⟨σ, H⟩ (hP H (2 * d.length + 40)) NoE := by
  refine g_set h1 (g_set (h2 _ fun i hi => if_neg (by lia)) ?_)
  exact h_mid hd z0 z3 rfl ha rfl hv
theorem spec_hurt {H : List O} {d : List UInt8} {ss : List Nat} {y : Nat} (hd : d.length ≤ 9000) (hs : ss ≠ []) (hsl : ss.length ≤ 100000) : ∃ x : List UInt8, x.length ≤ 2 * d.length + 40 ∧ c_law_hurt [.bytes d, .list (ss.map fun (n : Nat) => V.int n), .int y] H = some (.ok (.bytes x) H) := by
  suffices h : ∃ v, c_law_hurt [.bytes d, .list (ss.map fun (n : Nat) => V.int n), .int y] H = some (.ok v H) ∧ BxR (2 * d.length + 40) v by
    obtain ⟨v, h1, x, h2, rfl⟩ := h
    exact ⟨x, h2, h1⟩
  have hp : 0 < ss.length := List.length_pos_iff.mpr hs
  have bl := bl_len (H := H) (b := d) (by lia)
  have bs : builtinV H "len" [.list (ss.map fun (n : Nat) => V.int n)] = _ := bl_list (by rw [List.length_map]; lia)
  rw [List.length_map] at bs
  refine ctR_x rfl (g_set (x_bin (x_loc rfl) x_val (bv_mod (n := y) (k := 9) (by decide))) (g_set (x_bin (x_loc rfl) x_val (bv_div (n := y) (k := 18) (by decide) (by decide))) ?_))
  generalize y % 9 = w
  generalize y / 18 = q
  refine g_ask (t_cmp (x_bin (x_bin (x_loc rfl) x_val (bv_div (n := y) (k := 9) (by decide) (by decide))) x_val (bv_mod (n := y / 9) (k := 2) (by decide))) x_val (beq_nat (m := 0))) (fun _ => ?_) (fun _ => ?_)
  · have hqi : q % ss.length < ss.length := Nat.mod_lt _ hp
    have it := it_list (H := H) (l := ss.map fun (n : Nat) => V.int n) (k := q % ss.length) (x := .int (ss[q % ss.length] : Nat)) (by lia) (by simp [hqi])
    exact hurt_place (a := min (ss[q % ss.length]) d.length) (v := q / ss.length % 256) hd rfl rfl
      (x_call (xs_cons (x_item (x_loc rfl) (x_bin (x_loc rfl) (x_call (xs_cons (x_loc rfl) xs_nil) (c_len bs)) (bv_mod (by lia))) it) (xs_cons (x_call (xs_cons (x_loc rfl) xs_nil) (c_len bl)) xs_nil)) (c_min bl_min)) (by lia)
      (fun σ' hσ => x_bin (x_bin (x_loc (hσ 4 (by decide))) (x_call (xs_cons (x_loc (hσ 1 (by decide))) xs_nil) (c_len bs)) (bv_div (by omega) (by lia))) x_val (bv_mod (k := 256) (by decide))) (Nat.mod_lt _ (by decide))
  · have a1 : binV H .Add (.int d.length) (.int 1) = some (.int (d.length + 1 : Nat)) := rfl
    exact hurt_place (a := q % (d.length + 1)) (v := q / (d.length + 1) % 256) hd rfl rfl
      (x_bin (x_loc rfl) (x_bin (x_call (xs_cons (x_loc rfl) xs_nil) (c_len bl)) x_val a1) (bv_mod (Nat.succ_ne_zero _))) (Nat.le_of_lt_succ (Nat.mod_lt _ (Nat.succ_pos _)))
      (fun σ' hσ => x_bin (x_bin (x_loc (hσ 4 (by decide))) (x_bin (x_call (xs_cons (x_loc (hσ 0 (by decide))) xs_nil) (c_len bl)) x_val a1) (bv_div (Nat.succ_ne_zero _) (by lia))) x_val (bv_mod (k := 256) (by decide))) (Nat.mod_lt _ (by decide))
noncomputable def PF : Option V → St → Prop := fun f s => rn (frzRet (f.getD .none)) s (fun b _ => b = .bool true) fun _ _ => False
theorem runU_x {φ : Tab} {ys : List Y} {args : List V} {H : List O} (h : rz φ ys ⟨fun j => args[j % 100]?, H⟩ PF NoE) : ∃ H', runU φ KF ys args H = some (.ok (.bool true) H') := by
  rw [rz_eq] at h
  have h : rn (AM.bind (evYs φ KF ys) fun f => frzRet (f.getD .none)) ⟨fun j => args[j % 100]?, H⟩ (fun b _ => b = .bool true) (fun _ _ => False) := by rw [rn_bind]; exact h
  unfold rn at h
  unfold runU
  cases q : (AM.bind (evYs φ KF ys) fun f => frzRet (f.getD .none)) ⟨fun j => args[j % 100]?, H⟩ with
  | none => rw [q] at h; exact h.elim
  | some o =>
    rw [q] at h
    induction o using Out.casesOn with
    | ok b s => exact ⟨s.H, congrArg (fun z => some (Res.ok z s.H)) h⟩
    | exc _ _ => exact h.elim
theorem pf_true {st : St} : PF (some (.bool true)) st := by
  unfold PF
  rw [rn_ok (s1 := st) (z := .bool true) rfl]
structure Nums (H0 : List O) (v : V) (ns : List Nat) : Prop where
  fz : ∀ ext σ, frzOne v ⟨σ, H0 ++ ext⟩ = some (.ok (.list (ns.map fun (n : Nat) => V.int n)) ⟨σ, H0 ++ ext⟩)
  ne : ns ≠ []
  few : ns.length ≤ 1000
theorem draw_call {H0 : List O} {v : V} {ns : List Nat} (N : Nums H0 v ns) (i : Nat) (ext : List O) : ∃ x : Nat, ∀ σ, callV p44 (.ref 524) [v, .int (i : Nat)] ⟨σ, H0 ++ ext⟩ = some (.ok (.int (x : Nat)) ⟨σ, H0 ++ ext⟩) := by
  obtain ⟨x, hx⟩ := spec_draw (H := H0 ++ ext) (i := i) N.ne N.few
  exact ⟨x, fun σ => c_fn (s1 := ⟨σ, H0 ++ ext⟩) rfl (z_cons (N.fz ext σ) rfl) rfl hx⟩
theorem hurt_x {H0 ext : List O} {v : V} {ns : List Nat} (N : Nums H0 v ns) {σ : Nat → Option V} {d : List UInt8} {ss : List Nat} {i c : Nat} (si : σ i = some (.bytes d)) (sj : σ 11 = some (.list (ss.map fun (n : Nat) => V.int n))) (s2 : σ 2 = some v) (hd : d.length ≤ 9000) (hs : ss ≠ []) (hsl : ss.length ≤ 100000) :
    BX p44 ⟨σ, H0 ++ ext⟩ (.call (.ref 517) [(.loc i), (.loc 11), (.call (.ref 524) [(.loc 2), (.val (.int (c : Nat)))])]) (2 * d.length + 40) := by
  obtain ⟨x, hx⟩ := draw_call N c ext
  obtain ⟨b, hb, e⟩ := spec_hurt (H := H0 ++ ext) (y := x) hd hs hsl
  exact ⟨b, hb, x_call (xs_cons (x_loc si) (xs_cons (x_loc sj) (xs_cons (x_call (xs_cons (x_loc s2) (xs_cons x_val xs_nil)) (hx σ)) xs_nil))) (c_fn (s1 := ⟨σ, H0 ++ ext⟩) rfl rfl rfl e)⟩
noncomputable def PeI (i y : Nat) (bs : List (List UInt8)) (r : List V) (st : St) : Prop := (∀ v ∈ r, ∃ b : List UInt8, v = .bytes b ∧ b.length ≤ 10000) ∧ st.σ 4 = some (.int (y : Nat)) ∧ st.σ 5 = some (.ref i) ∧ (st.H[i]? = some (.list (bs.map .bytes)) ∨ st.H[i]? = some (.frozen (.list (bs.map .bytes))))
theorem z_bodies {σ : Nat → Option V} {H : List O} {i : Nat} {l : List V} (h : H[i]? = some (.list l) ∨ H[i]? = some (.frozen (.list l))) : ∃ H', H'[i]? = some (.frozen (.list l)) ∧ frzOne (.ref i) ⟨σ, H⟩ = some (.ok (.list l) ⟨σ, H'⟩) := by
  rcases h with h | h
  · exact ⟨_, set_get h, z_list h⟩
  · exact ⟨H, h, z_froz h⟩
theorem p_end {H : List O} {σ : Nat → Option V} {i y : Nat} {bs : List (List UInt8)} {b1 b2 b3 b4 b5 : List UInt8} (s3 : σ 3 = some (.bytes b1)) (s10 : σ 10 = some (.bytes b2)) (s12 : σ 12 = some (.bytes b3)) (s13 : σ 13 = some (.bytes b4)) (s14 : σ 14 = some (.bytes b5)) (s4 : σ 4 = some (.int (y : Nat))) (s5 : σ 5 = some (.ref i))
    (hi : H[i]? = some (.list (bs.map .bytes))) (h3 : bs.length = 3) (hbo : ∀ x ∈ bs, x.length ≤ 10000) (l1 : b1.length ≤ 10000) (l2 : b2.length ≤ 10000) (l3 : b3.length ≤ 10000) (l4 : b4.length ≤ 10000) (l5 : b5.length ≤ 10000) : rz p44 (y_law.drop 13) ⟨σ, H⟩ PF NoE := by
  refine g_for (PeI i y bs) (x_tup (xs_cons (x_loc s3) (xs_cons (x_loc s10) (xs_cons (x_loc s12) (xs_cons (x_loc s13) (xs_cons (x_loc s14) xs_nil))))) (len_le rfl)) rfl ⟨?_, s4, s5, .inl hi⟩ (fun s _ => g_ret x_val pf_true) ?_
  · intro v hv
    simp only [List.mem_cons, List.not_mem_nil, or_false] at hv
    rcases hv with rfl | rfl | rfl | rfl | rfl
    · exact ⟨_, rfl, l1⟩
    · exact ⟨_, rfl, l2⟩
    · exact ⟨_, rfl, l3⟩
    · exact ⟨_, rfl, l4⟩
    · exact ⟨_, rfl, l5⟩
  · rintro v r ⟨σ', H'⟩ ⟨hr, z4, z5, hz⟩
    obtain ⟨b, rfl, hb⟩ := hr v (List.mem_cons_self ..)
    obtain ⟨H2, h2, e2⟩ := z_bodies (σ := (St.put ⟨σ', H'⟩ 15 (.bytes b)).σ) hz
    exact g_if_f (t_not_f (t_ex (x_call (xs_cons (x_loc put_eq) (xs_cons (x_loc z5) (xs_cons (x_loc z4) xs_nil))) (c_fn rfl (z_cons rfl (z_cons e2 (z_cons rfl z_nil))) rfl (spec_agrees hb h3 hbo))))) (g_nil ⟨fun v hv => hr v (List.mem_cons_of_mem _ hv), z4, z5, .inr h2⟩)
theorem p_hurt {H0 ext : List O} {v : V} {ns : List Nat} (N : Nums H0 v ns) {σ : Nat → Option V} {i y : Nat} {bs : List (List UInt8)} {raw data : List UInt8} {ss : List Nat} (s2 : σ 2 = some v) (s3 : σ 3 = some (.bytes raw)) (s4 : σ 4 = some (.int (y : Nat))) (s5 : σ 5 = some (.ref i)) (s10 : σ 10 = some (.bytes data)) (s11 : σ 11 = some (.list (ss.map fun (n : Nat) => V.int n)))
    (hi : (H0 ++ ext)[i]? = some (.list (bs.map .bytes))) (h3 : bs.length = 3) (hbo : ∀ x ∈ bs, x.length ≤ 10000) (l1 : raw.length ≤ 40) (l2 : data.length ≤ 1200) (hs : ss ≠ []) (hsl : ss.length ≤ 100000) : rz p44 (y_law.drop 10) ⟨σ, H0 ++ ext⟩ PF NoE := by
  obtain ⟨once, ho, e1⟩ := hurt_x N (ext := ext) (c := 4) s10 s11 s2 (by lia) hs hsl
  obtain ⟨twice, ht, e2⟩ := hurt_x N (ext := ext) (σ := (St.put ⟨σ, H0 ++ ext⟩ 12 (.bytes once)).σ) (i := 12) (c := 5) rfl s11 s2 (by lia) hs hsl
  obtain ⟨other, hot, e3⟩ := hurt_x N (ext := ext) (σ := (St.put (St.put ⟨σ, H0 ++ ext⟩ 12 (.bytes once)) 13 (.bytes twice)).σ) (i := 10) (c := 6) s10 s11 s2 (by lia) hs hsl
  exact g_set e1 (g_set e2 (g_set e3 (p_end (b3 := once) (b4 := twice) (b5 := other) s3 s10 rfl rfl rfl s4 s5 hi h3 hbo (by lia) (by lia) (by lia) (by lia) (by lia))))
theorem enc10 {n : Nat} (h : n < 2 ^ 64) : (enc n).length ≤ 10 := enc_len2 9 n (Nat.lt_of_lt_of_le h (by decide))
theorem encR_len {r : Run} (h : RunB r) : (encR r).length ≤ 304 := by
  rw [encR_eq]
  have h1 := enc10 (n := r.level) (by have := h.level; lia)
  have h2 := enc10 h.size
  have h3 := enc10 (n := r.small.length) (by have := h.small; lia)
  have h4 := enc10 (n := r.large.length) (by have := h.large; lia)
  have := h.small
  have := h.large
  simp only [List.length_append, show (le4 r.check).length = 4 from rfl]
  lia
theorem encRs_len : ∀ {rs : List Run}, (∀ r ∈ rs, RunB r) → (rs.flatMap encR).length ≤ 304 * rs.length
  | [], _ => by simp
  | r :: rs, h => by
    have h1 := encR_len (h r (by simp))
    have h2 := encRs_len (rs := rs) fun x hx => h x (by simp [hx])
    simp only [List.flatMap_cons, List.length_append, List.length_cons]
    lia
theorem row_ok {w : Row} (h1 : w.index < 2 ^ 64) (h2 : w.term < 2 ^ 64) (h3 : w.last < 2 ^ 64) (h4 : w.conf.length ≤ 130) (h5 : w.runs.length ≤ 3) (hr : ∀ r ∈ w.runs, RunB r) : RowOk w ∧ (encRow w).length ≤ 1200 := by
  have hl : (encRow w).length ≤ 1200 := by
    rw [encRow_eq]
    have e1 := enc10 h1
    have e2 := enc10 h2
    have e3 := enc10 h3
    have e4 := enc10 (n := w.conf.length) (by lia)
    have e5 := enc10 (n := w.runs.length) (by lia)
    have e6 := encRs_len hr
    simp only [List.length_append]
    lia
  refine ⟨⟨fun p hpm => ?_, by lia, by lia⟩, hl⟩
  unfold prs prH at hpm
  rcases List.mem_append.mp hpm with h | h
  · simp only [List.mem_cons, List.not_mem_nil, or_false] at h
    rcases h with rfl | rfl | rfl | rfl | rfl
    · exact h1
    · exact h2
    · exact h3
    · show w.conf.length ≤ 10000; lia
    · show w.runs.length < 2 ^ 64; omega
  · obtain ⟨r, hrm, hpr⟩ := List.mem_flatMap.mp h
    have R := hr r hrm
    simp only [prR, List.mem_cons, List.not_mem_nil, or_false] at hpr
    rcases hpr with rfl | rfl | rfl | rfl | rfl
    · have := R.level; show r.level < 2 ^ 64; lia
    · exact R.size
    · exact R.check
    · have := R.small; show r.small.length ≤ 10000; lia
    · have := R.large; show r.large.length ≤ 10000; lia
theorem p_row {H0 ext : List O} {v : V} {ns : List Nat} (N : Nums H0 v ns) {σ : Nat → Option V} {i j y : Nat} {bs : List (List UInt8)} {rs : List Run} {raw : List UInt8} (s2 : σ 2 = some v) (s3 : σ 3 = some (.bytes raw)) (s4 : σ 4 = some (.int (y : Nat))) (s5 : σ 5 = some (.ref i)) (s6 : σ 6 = some (.ref j))
    (hi : (H0 ++ ext)[i]? = some (.list (bs.map .bytes))) (hj : (H0 ++ ext)[j]? = some (.list (rs.map runV))) (h3 : bs.length = 3) (hbo : ∀ x ∈ bs, x.length ≤ 10000) (hrs : rs.length ≤ 3) (hr : ∀ r ∈ rs, RunB r) (l1 : raw.length ≤ 40) : rz p44 (y_law.drop 7) ⟨σ, H0 ++ ext⟩ PF NoE := by
  refine g_set (x_bin (x_loc s4) x_val (bv_div (n := y) (k := 4) (by decide) (by decide))) ?_
  generalize y / 4 = q
  have Q : IX p44 (St.put ⟨σ, H0 ++ ext⟩ 8 (.int q)) (.loc 8) q := ix_loc (x := q) rfl (Nat.le_refl _)
  obtain ⟨n1, hn1, e1⟩ : IX p44 (St.put ⟨σ, H0 ++ ext⟩ 8 (.int q)) (.item (.val (.tuple [(.int 0), (.int 1), (.int 127), (.int 128), (.int 300), (.int 16384), (.int 4294967296), (.int 18446744073709551615)])) (.bin .Mod (.loc 8) (.val (.int 8)))) 18446744073709551615 :=
    ix_item (l := [0, 1, 127, 128, 300, 16384, 4294967296, 18446744073709551615]) x_val (ix_mod (k := 8) Q (by decide)) (by decide) (by decide) (by decide)
  obtain ⟨n2, hn2, e2⟩ : IX p44 (St.put ⟨σ, H0 ++ ext⟩ 8 (.int q)) (.item (.val (.tuple [(.int 0), (.int 1), (.int 127), (.int 128), (.int 300), (.int 16384), (.int 4294967296), (.int 18446744073709551615)])) (.bin .Mod (.bin .FloorDiv (.loc 8) (.val (.int 8))) (.val (.int 8)))) 18446744073709551615 :=
    ix_item (l := [0, 1, 127, 128, 300, 16384, 4294967296, 18446744073709551615]) x_val (ix_mod (k := 8) (ix_div (k := 8) Q (by decide) (by decide)) (by decide)) (by decide) (by decide) (by decide)
  obtain ⟨cf, lcf, ecf⟩ := spec_word (H := H0 ++ ext) (n := q / 64) (y := q)
  obtain ⟨n4, hn4, e4⟩ : IX p44 (St.put ⟨σ, H0 ++ ext⟩ 8 (.int q)) (.item (.val (.tuple [(.int 0), (.int 1), (.int 255), (.int 72057594037927935), (.int 72057594037927936), (.int 128), (.int 65536), (.int 4294967296)])) (.bin .Mod (.bin .FloorDiv (.loc 8) (.val (.int 512))) (.val (.int 8)))) 72057594037927936 :=
    ix_item (l := [0, 1, 255, 72057594037927935, 72057594037927936, 128, 65536, 4294967296]) x_val (ix_mod (k := 8) (ix_div (k := 512) Q (by decide) (by decide)) (by decide)) (by decide) (by decide) (by decide)
  have tt := ty_tuple_ref hj (by rw [List.length_map]; lia)
  obtain ⟨ok, hl⟩ := row_ok (w := ⟨n1, n2, n4, cf, rs⟩) (by show n1 < 2 ^ 64; lia) (by show n2 < 2 ^ 64; lia) (by show n4 < 2 ^ 64; lia) lcf hrs hr
  obtain ⟨ss, hs, hsl, e⟩ := spec_law_write (H := H0 ++ ext) ok
  refine g_set (x_tup (xs_cons e1 (xs_cons e2 (xs_cons (x_call (xs_cons (x_bin (x_loc put_eq) x_val (bv_div (n := q) (k := 64) (by decide) (by decide))) (xs_cons (x_loc put_eq) xs_nil)) (c_fn rfl rfl rfl ecf)) (xs_cons e4 (xs_cons (x_call (xs_cons (x_loc s6) xs_nil) (c_tuple tt)) xs_nil))))) (len_le rfl)) ?_
  refine g_unp (x_call (xs_cons (x_loc put_eq) xs_nil) (c_fn rfl rfl rfl e)) rfl rfl ?_
  exact p_hurt N (i := i) (y := y) s2 s3 s4 s5 rfl rfl hi h3 hbo l1 hl hs hsl
noncomputable abbrev plH (H0 : List O) (bs : List (List UInt8)) (rs : List Run) : List O := H0 ++ [.list (bs.map .bytes), .list (rs.map runV)]
noncomputable def PlI (H0 : List O) (v : V) (y : Nat) (raw : List UInt8) (k : Nat) (st : St) : Prop := ∃ (bs : List (List UInt8)) (rs : List Run), bs.length = k ∧ (∀ x ∈ bs, x.length ≤ 6) ∧ rs.length ≤ k ∧ (∀ r ∈ rs, RunB r) ∧ st.σ 2 = some v ∧ st.σ 3 = some (.bytes raw) ∧ st.σ 4 = some (.int y) ∧ st.σ 5 = some (.ref H0.length) ∧ st.σ 6 = some (.ref (H0.length + 1)) ∧ st.H = plH H0 bs rs
theorem p_more {H0 : List O} {v : V} {y k x : Nat} {raw : List UInt8} {σ : Nat → Option V} {bs : List (List UInt8)} {rs : List Run} {P : Option V → St → Prop} (hk : k < 3) (hbl : bs.length = k + 1) (hbo : ∀ x ∈ bs, x.length ≤ 6) (hrl : rs.length ≤ k) (hrb : ∀ r ∈ rs, RunB r)
    (z1 : σ 1 = some (.int x)) (z2 : σ 2 = some v) (z3 : σ 3 = some (.bytes raw)) (z4 : σ 4 = some (.int y)) (z5 : σ 5 = some (.ref H0.length)) (z6 : σ 6 = some (.ref (H0.length + 1))) (z7 : σ 7 = some (.int k)) :
    rz p44 [.ifs (.cmp .Lt (.loc 7) (.bin .Mod (.loc 4) (.val (.int 4)))) [.expr (.meth (.loc 6) (S "append") [(.call (.ref 510) [(.bin .FloorDiv (.loc 1) (.val (.int 6))), (.item (.loc 5) (.loc 7))])])] []] ⟨σ, plH H0 bs rs⟩ (RngP (PlI H0 v y raw) (k + 1) P) NoE := by
  refine g_ask (t_cmp (x_loc z7) (x_bin (x_loc z4) x_val (bv_mod (n := y) (k := 4) (by decide))) rfl) (fun _ => ?_) (fun _ => g_nil ⟨bs, rs, hbl, hbo, by lia, hrb, z2, z3, z4, z5, z6, rfl⟩)
  have hkc : k < bs.length := by lia
  obtain ⟨r1, hr1, er⟩ := spec_run (H := plH H0 bs rs) (y := x / 6) (d := bs[k]) (by have := hbo _ (List.getElem_mem hkc); lia)
  have it := it_ref (H := plH H0 bs rs) (i := H0.length) (l := bs.map .bytes) (k := k) (x := .bytes bs[k]) (by simp only [listIn, get_app]) (by lia) (by simp [hkc])
  refine g_expr (x_meth (x_loc z6) (mk_lapp get_app1) (xs_cons (x_call (xs_cons (x_bin (x_loc z1) x_val (bv_div (n := x) (k := 6) (by decide) (by decide))) (xs_cons (x_item (x_loc z5) (x_loc z7) it) xs_nil)) (c_fn rfl rfl rfl er)) xs_nil) (d_lapp get_app1 (by rw [List.length_map]; lia))) (g_nil ?_)
  refine ⟨bs, rs ++ [r1], hbl, hbo, by rw [List.length_append, List.length_singleton]; lia, fun z hz => ?_, z2, z3, z4, z5, z6, ?_⟩
  · rcases List.mem_append.mp hz with h | h
    · exact hrb z h
    · rw [List.mem_singleton.mp h]; exact hr1
  · exact set_app1.trans (by rw [plH, List.map_append]; rfl)
theorem p_loop {H0 : List O} {v : V} {ns : List Nat} (N : Nums H0 v ns) {σ : Nat → Option V} {y : Nat} {raw : List UInt8} (s2 : σ 2 = some v) (s3 : σ 3 = some (.bytes raw)) (s4 : σ 4 = some (.int (y : Nat))) (l1 : raw.length ≤ 40) : rz p44 (y_law.drop 4) ⟨σ, H0⟩ PF NoE := by
  refine g_newl xs_nil (Nat.zero_le _) (g_newl xs_nil (Nat.zero_le _) ?_)
  rw [List.append_assoc]
  refine g_rng (PlI H0 v y raw) (n := 3) (x_call (xs_cons x_val xs_nil) (c_range (tv_range (n := (3 : Nat))))) (by decide) ⟨[], [], rfl, by simp, Nat.le_refl _, by simp, s2, s3, s4, rfl, congrArg (fun n => some (V.ref n)) List.length_append, rfl⟩ ?_ ?_
  · rintro ⟨σ', H'⟩ ⟨bs, rs, hbl, hbo, hrl, hrb, z2, z3, z4, z5, z6, sH⟩
    obtain rfl : H' = _ := sH
    exact p_row N (i := H0.length) (j := H0.length + 1) (bs := bs) (rs := rs) z2 z3 z4 z5 z6 get_app get_app1 hbl (fun x hx => by have := hbo x hx; lia) hrl hrb l1
  · rintro k ⟨σ', H'⟩ hk ⟨bs, rs, hbl, hbo, hrl, hrb, z2, z3, z4, z5, z6, sH⟩
    obtain rfl : H' = _ := sH
    obtain ⟨x, hx⟩ := draw_call N (1 + k) [.list (bs.map .bytes), .list (rs.map runV)]
    have a1 : binV (plH H0 bs rs) .Add (.int 1) (.int (k : Nat)) = some (.int (1 + k : Nat)) := congrArg (fun i => some (V.int i)) (by lia)
    obtain ⟨b, hb, eb⟩ := spec_body (H := plH H0 bs rs) (y := x)
    refine g_set (x_call (xs_cons (x_loc z2) (xs_cons (x_bin x_val (x_loc put_eq) a1) xs_nil)) (hx _)) ?_
    refine g_expr (x_meth (x_loc z5) (mk_lapp get_app) (xs_cons (x_call (xs_cons (x_loc put_eq) xs_nil) (c_fn rfl rfl rfl eb)) xs_nil) (d_lapp get_app (by rw [List.length_map]; lia))) ?_
    have hs : (plH H0 bs rs).set H0.length (.list (bs.map V.bytes ++ [.bytes b])) = plH H0 (bs ++ [b]) rs := set_app.trans (by rw [plH, List.map_append]; rfl)
    show rz p44 _ ⟨_, (plH H0 bs rs).set H0.length _⟩ _ _
    rw [hs]
    refine p_more (x := x) hk (by rw [List.length_append, hbl]; rfl) (fun z hz => ?_) hrl hrb rfl z2 z3 z4 z5 z6 rfl
    rcases List.mem_append.mp hz with h | h
    · exact hbo z h
    · rw [List.mem_singleton.mp h]; exact hb
theorem p_draw_ref {ms : List Nat} {σ : Nat → Option V} {raw : List UInt8} (m1 : ms ≠ []) (m2 : ms.length ≤ 1000) (z2 : σ 2 = some (.ref 0)) (z3 : σ 3 = some (.bytes raw)) (l1 : raw.length ≤ 40) : rz p44 (y_law.drop 3) ⟨σ, [.list (ms.map fun (n : Nat) => V.int n)]⟩ PF NoE := by
  obtain ⟨y, ey⟩ := spec_draw (H := [.frozen (.list (ms.map fun (n : Nat) => V.int n))]) (i := 0) m1 m2
  exact g_set (x_call (xs_cons (x_loc z2) (xs_cons x_val xs_nil)) (c_fn rfl (z_cons (z_list rfl) rfl) rfl ey)) (p_loop (H0 := [.frozen (.list (ms.map fun (n : Nat) => V.int n))]) (v := .ref 0) (ns := ms) (y := y) ⟨fun ext σ => z_froz rfl, m1, m2⟩ z2 z3 rfl l1)
theorem p_draw_val {ms : List Nat} {σ : Nat → Option V} {raw : List UInt8} (m1 : ms ≠ []) (m2 : ms.length ≤ 1000) (z2 : σ 2 = some (.list (ms.map fun (n : Nat) => V.int n))) (z3 : σ 3 = some (.bytes raw)) (l1 : raw.length ≤ 40) : rz p44 (y_law.drop 3) ⟨σ, []⟩ PF NoE := by
  obtain ⟨y, ey⟩ := spec_draw (H := []) (i := 0) m1 m2
  exact g_set (x_call (xs_cons (x_loc z2) (xs_cons x_val xs_nil)) (c_fn rfl rfl rfl ey)) (p_loop (H0 := []) (v := .list (ms.map fun (n : Nat) => V.int n)) (ns := ms) (y := y) ⟨fun ext σ => rfl, m1, m2⟩ z2 z3 rfl l1)
noncomputable def modE (m : Int) : X := .bin .Mod (.loc 999) (.val (.int m))
theorem co_mod {φ : Tab} {m : Int} (hm : m ≠ 0) : ∀ {js : List Int} {st : St}, compV (evX φ (modE m)) 999 (js.map .int) st = some (.ok (js.map fun i => V.int (i.fmod m)) st)
  | [], st => co_nil
  | j :: js, st => co_cons (x_bin (x_loc put_eq) x_val (if_neg hm)) (co_mod hm)
theorem co_nat {φ : Tab} {m : Nat} (hm : m ≠ 0) : ∀ {ns : List Nat} {st : St}, compV (evX φ (modE m)) 999 (ns.map fun (n : Nat) => V.int n) st = some (.ok ((ns.map (· % m)).map fun (n : Nat) => V.int n) st)
  | [], st => co_nil
  | n :: ns, st => co_cons (x_bin (x_loc put_eq) x_val (bv_mod hm)) (co_nat hm)
theorem cutL_map {α β : Type} {f : α → β} {l : List α} {lo hi : Option Int} : cutL (l.map f) lo hi = (cutL l lo hi).map f := by
  unfold cutL
  simp [List.map_take, List.map_drop]
theorem cutL_40 {α : Type} {l : List α} : (cutL l .none (some 40)).length ≤ 40 := by
  unfold cutL clip
  simp only [Option.elim]
  rw [List.length_take, List.length_drop]
  rw [if_neg (by decide)]
  lia
theorem sl_list {H : List O} {l : List V} (hz : l.length ≤ 1000000) : sliceV H (.list l) .none (some (.int 40)) = some (.list (cutL l .none (some 40))) := by
  unfold sliceV
  rw [part_none, part_big (by decide) (by decide)]
  exact if_pos hz
theorem plain_law {is : List Int} (hl : is.length ≤ 63) : ∃ k H', runU p44 k y_law [.list (is.map .int)] [] = some (.ok (.bool true) H') := by
  refine ⟨KF, runU_x ?_⟩
  have hj := cutL_40 (l := is)
  have cm := cutL_map (f := V.int) (l := is) (lo := .none) (hi := some 40)
  have sl := sl_list (H := []) (l := is.map V.int) (by rw [List.length_map]; lia)
  rw [cm] at sl
  clear cm
  generalize cutL is .none (some 40) = js at hj sl
  have en : (js.map fun i => V.int (i.fmod 2147483647)) = (js.map fun i => (i.fmod 2147483647).toNat).map fun (n : Nat) => V.int n := by
    rw [List.map_map]
    refine List.map_congr_left fun i _ => ?_
    show V.int (i.fmod 2147483647) = V.int ((i.fmod 2147483647).toNat : Int)
    rw [Int.toNat_of_nonneg (Int.fmod_nonneg_of_pos i (by decide))]
  have hn : (js.map fun i => (i.fmod 2147483647).toNat).length ≤ 40 := by rw [List.length_map]; exact hj
  refine g_set (x_comp (e := modE 2147483647) (x_slice (x_loc rfl) xo_none (xo_some x_val) sl) rfl (co_mod (by decide)) (by rw [List.length_map]; lia)) ?_
  rw [en]
  generalize (js.map fun i => (i.fmod 2147483647).toNat) = ns at hn
  have ty : typeV [] "bytes" [.list ((ns.map (· % 256)).map fun (n : Nat) => V.int n)] = some (.bytes ((ns.map (· % 256)).map fun n => n.toUInt8)) := by
    rw [tv_bytes (by rw [List.length_map, List.length_map]; lia), octets_nat fun x hx => by
      obtain ⟨z, _, rfl⟩ := List.mem_map.mp hx
      exact Nat.mod_lt _ (by decide)]
    rfl
  have bl : builtinV [] "len" [.list (ns.map fun (n : Nat) => V.int n)] = _ := bl_list (by rw [List.length_map]; omega)
  rw [List.length_map] at bl
  refine g_set (x_call (xs_cons (x_comp (e := modE (256 : Nat)) (x_loc put_eq) rfl (co_nat (by decide)) (by rw [List.length_map, List.length_map]; omega)) xs_nil) (c_bytes ty)) ?_
  have hraw : ((ns.map (· % 256)).map fun n => n.toUInt8).length ≤ 40 := by rw [List.length_map, List.length_map]; exact hn
  generalize ((ns.map (· % 256)).map fun n => n.toUInt8) = raw at hraw
  refine g_ask (t_cmp (x_call (xs_cons (x_loc rfl) xs_nil) (c_len bl)) x_val (beq_nat (m := 0))) (fun _ => ?_) (fun h0 => ?_)
  · exact g_newl (xs_cons x_val xs_nil) (len_le rfl) (p_draw_ref (ms := [7031]) (by decide) (by decide) rfl rfl hraw)
  · exact p_draw_val (fun h => by rw [h] at h0; cases h0) (by lia) rfl rfl hraw
theorem all_holds : PySem.Challenge.rw_xw0265_01.Holds := law_holds fun is h => plain_law h
end Rk
end

theorem PySem.Challenge.cw_xw0265_01_holds : PySem.Challenge.rw_xw0265_01.Holds :=
  Rk.all_holds
