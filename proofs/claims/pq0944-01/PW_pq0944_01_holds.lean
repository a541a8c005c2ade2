import PyProof.Rows.All
import Wide.All
import OpenK.AllK
import Wide.FinOn
import Lean
import PySem.Challenge.RW_pq0944_01
open PySem PySem.W PySem.Calls PyProof.Rows
set_option Elab.async false
set_option maxRecDepth 100000
set_option compiler.extract_closed false
namespace Mine
-- h00
/-- the built-ins that hold a bytearray while they run -/
noncomputable def badIds : List String := ["bytearray.__contains__", "bytearray.__mod__", "bytearray.__rmod__", "_struct.pack_into.held", "bytearray.find.held"] ++ Builtin.Bytes.decodersThatHold
noncomputable def okCode : Code → Bool
  | .builtin id _ => !badIds.contains id
  | _ => true
/-- no code of the stack holds a bytearray -/
noncomputable def Clean (Γ : Ctx) : Prop := okCode Γ.code = true ∧ ∀ x ∈ Γ.below, okCode x.1 = true
noncomputable def wpC {α : Type} (M : Model) (A : Around) (t : Sem α) (Q : α → Shared → Prop) (E : Value → Shared → Prop) (s : Shared) : Prop :=
  ∀ Γ p, Γ.In A → Clean Γ → Sem.wp M Γ t (fun a _ s' => Q a s') (fun e _ s' => E e s') p s
noncomputable def codeC (M : Model) (A : Around) (c : Code) (R : Result → Shared → Prop) (s : Shared) : Prop :=
  ∀ Γ p, Γ.code = c → Γ.Below A → (∀ x ∈ Γ.below, okCode x.1 = true) → wpCode M Γ R p s
section
variable {α β : Type} {M : Model} {A : Around} {E : Value → Shared → Prop} {s : Shared}
theorem ofAny {t : Sem α} {Q : α → Shared → Prop} (h : wpAny M A t Q E s) : wpC M A t Q E s := fun Γ p hΓ _ => h Γ p hΓ
theorem codeOfAny {c : Code} {R : Result → Shared → Prop} (h : codeAny M A c R s) : codeC M A c R s := fun Γ p hc hΓ _ => h Γ p hc hΓ
theorem wpC_mono {t : Sem α} {Q Q' : α → Shared → Prop} {E' : Value → Shared → Prop} (h : wpC M A t Q E s) (hQ : ∀ a s, Q a s → Q' a s) (hE : ∀ e s, E e s → E' e s) : wpC M A t Q' E' s :=
  fun Γ p hΓ hc => Sem.wp_mono M Γ t (fun a _ s => hQ a s) (fun e _ s => hE e s) p s (h Γ p hΓ hc)
theorem wpC_pure {a : α} {Q : α → Shared → Prop} (h : Q a s) : wpC M A (pure a) Q E s := fun _ _ _ _ => h
theorem wpC_bind {m : Sem α} {f : α → Sem β} {Q : β → Shared → Prop} (h : wpC M A m (fun a s' => wpC M A (f a) Q E s') E s) : wpC M A (m >>= f) Q E s := fun Γ p hΓ hc => by
  rw [Sem.wp_bind']
  exact Sem.wp_mono M Γ _ (fun a p' s' h' => h' Γ p' hΓ hc) (fun _ _ _ h' => h') _ _ (h Γ p hΓ hc)
end
theorem ends_C {prog : Program} {w : World} {t : Sem Fin} {s : Shared} {R : Result → Shared → Prop} (hreg : s.asleep)
    (h : wpC (model prog w) callerA t (fun fin s' => ∃ f, fin = .done f ∧ (R (.ok f) s' ∧ leftWithCleanup s'.gens = false)) (fun e s' => R (.error e) s' ∧ leftWithCleanup s'.gens = false) s) :
    ∃ n r s' s'', runN (denote table) prog w n s ⟨t, .builtin "claim.caller" {}, default, []⟩ = .halted (outcomeOf r) s' ∧
      schedN (denote table) prog w n (.single s ⟨t, .builtin "claim.caller" {}, default, []⟩) = .halted (outcomeOf r) s' ∧ s'.forget = s''.forget ∧ R r s'' := by
  have h0 := h ⟨.builtin "claim.caller" {}, none, none, [], none⟩ default caller_in ⟨by decide +kernel, fun x hx => nomatch hx⟩
  obtain ⟨n, r, s₁, s₂, hs, hn, hfo, hR⟩ := wp_halts_full (M := model prog w) (R := R) hreg (Sem.wp_mono _ _ t (fun fin p' s' h' => by
    obtain ⟨f, rfl, hf⟩ := h'
    exact hf) (fun _ _ _ h' => h') default s h0)
  exact ⟨n, r, s₂, s₁, hn, hs, hfo, hR⟩
theorem callFrom_C {c : ClaimW} {tree : List Value → Sem Fin} {w : World} {s : Shared} {free : Addr → Prop} {gens : Prop} {kept : Heap → Prop} (hz : s.asleep) (hgens : s.gens = #[])
    (hspec : ∀ args, c.pre args = true → WData.layableAll args = true →
      ∀ ord : List DictEntry → List DictEntry, (∀ l, (ord l).Perm l) →
      ∃ vs s₁, layAllW c.records (classAt s.heap) w.params ord args s = some (vs, s₁) ∧
        wpC (model c.prog w) callerA (tree vs) (fun fin s' => ∃ f, fin = .done f ∧ (c.Ends s args vs s₁ (.ok f) s' ∧ s'.os = s.os ∧ AllBare s'.gens ∧ kept s'.heap))
          (fun e s' => c.Ends s args vs s₁ (.error e) s' ∧ s'.os = s.os ∧ AllBare s'.gens ∧ kept s'.heap) s₁) :
    c.CallFrom (fun vs => ⟨tree vs, .builtin "claim.caller" {}, default, []⟩) w free gens kept s := by
  intro args hpre hlay ord hord
  obtain ⟨vs, s₁, hlaid, hcode⟩ := hspec args hpre hlay ord hord
  have hal := layAllW_rest _ _ _ hlaid
  obtain ⟨k, r, s', s'', hrun, hsched, hfo, hcase, hos, hkp⟩ := ends_C (prog := c.prog) (w := w) (t := tree vs) (s := s₁)
    (R := fun r s' => c.Ends s args vs s₁ r s' ∧ s'.os = s.os ∧ kept s'.heap)
    (Shared.asleep_of_life hal.2.2.2 hz)
    (wpC_mono hcode (by
      rintro fin s' ⟨f, e, h1, h2, h3, h4⟩
      exact ⟨f, e, ⟨h1, h2, h4⟩, leftWithCleanup_false_of_bare h3⟩) (by
      rintro e s' ⟨h1, h2, h3, h4⟩
      exact ⟨⟨h1, h2, h4⟩, leftWithCleanup_false_of_bare h3⟩))
  obtain ⟨eh, _, _, eo, _⟩ := Shared.forget_eq hfo
  have hcase := hcase.congr eh
  have hkp : kept s'.heap := by rw [eh]; exact hkp
  rw [← eo] at hos
  have hlife : s'.heap.life = s.heap.life := (runN_life _ _ _ hrun).trans hal.2.2.2
  refine ⟨vs, s₁, hlaid, k, _, s', hsched, ?_, (fun _ i x hx => by rw [hgens] at hx; simp at hx), hkp, by rw [hlife], Shared.rest_eq hos⟩
  rcases hcase with ⟨v, rfl, d1, d2, d3, d4, d5⟩ | ⟨e, ob, cls, rfl, d1, d2, d3, d4, d5⟩
  · exact .inl ⟨v, rfl, d1, d2, d3, fun b o y _ => d4 b o y, d5⟩
  · exact .inr ⟨e, ob, cls, rfl, d1, d2, d3, d4, fun b o y _ => d5 b o y⟩
theorem anyC {r : RowW} {run : Value → List Value → Sem Value} {tree : List Value → Sem Fin} {q : Program} {loose defs kps : List Str} {writes : Bool} {Xt : Shared → Bool} {XP : (Str → Option Value) → Heap → Prop} {α : Type} {Yf : Shared → α} {Ya : World → α} {YP : World → Heap → Prop} {N : Nat}
    (left : LeftO r.prog q loose Xt Yf Ya N) (hY : ∀ w s, Yf s = Ya w → YP w s.heap) (hYk : ∀ w h h', YP w h → (∀ b o, h.get? b = some o → h'.get? b = some o) → YP w h') (hX : ∀ s, Xt s = true → XP (s.heap.nsMap mainGlobals) s.heap) (hXk : ∀ mg h h', XP mg h → (∀ b o, h.get? b = some o → h'.get? b = some o) → XP mg h')
    (hRf : ∀ s, Xt s = true → RecFacts r.records s.heap) (hwr : (!writes || r.records.isEmpty) = true) (ok : (chainsOk q && opensWell r.prog && (frees r && r.within.isEmpty)) = true) (hb : r.prog.bare) (hw : r.promised)
    (ht : ∀ vs (w : World) (s : Shared) mg f (Q : Fin → Shared → Prop) (E : Value → Shared → Prop), s.heap.Ns mainGlobals mg → mg r.name = some f → wpC (model r.prog w) callerA (run f vs) (fun v s' => Q (.done (.ret v)) s') E s → wpC (model r.prog w) callerA (tree vs) Q E s)
    (pin : ∀ w s, s.heap.isNs mainGlobals = true → Ground q loose [] XP w s (s.heap.nsMap mainGlobals) (s.heap.nsMap builtinsNs) s.heap → ∀ n ∈ defs, isTheDefsW r.prog s.heap n)
    (call : ∀ (w : World) (s₀ s₁ : Shared) (mg mb : Str → Option Value), Ground q loose r.records XP w s₀ mg mb s₁.heap → YP w s₁.heap → ∀ (args : List WData) (vs : List Value) (as : List Addr),
      r.claim.pre args = true → WData.layableAll args = true → Laid r.records w s₀ s₁ args vs as → sysModules < s₀.heap.objs.size → ∃ f, mg r.name = some f ∧
        wpC (model r.prog w) callerA (run f vs) (fun v s' => GoodWG r.claim (classAt s₀.heap) (ExcName.means s₀.heap) args s₁ (.ok (.ret v)) s')
          (fun e s' => GoodWG r.claim (classAt s₀.heap) (ExcName.means s₀.heap) args s₁ (.error e) s') s₁) : r.claim.HoldsOpenBy (fun vs => ⟨tree vs, .builtin "claim.caller" {}, default, []⟩) defs kps writes := by
  obtain ⟨ok, k5⟩ := Bool.and_eq_true_iff.mp ok
  obtain ⟨hch, o1⟩ := Bool.and_eq_true_iff.mp ok
  obtain ⟨k5, k6⟩ := Bool.and_eq_true_iff.mp k5
  obtain ⟨hsame, hu, ha, hap, hm⟩ := frees_parts k5
  refine ⟨⟨hb, o1, by show r.makers.map _ = []; rw [hm]; rfl⟩, hw.witness, fun w => ⟨(left.behind hX hch w).1, fun s' hs' => ?_⟩⟩
  obtain ⟨s₀, hf, hg0, s, hT, hz, hgens, hg, G00, y⟩ := (left.behind (XP := fun mg h => XP mg h ∧ RecFacts r.records h) (fun s hs => ⟨hX s hs, hRf s hs⟩) hch w).2 s' hs'
  have G0 : Ground q loose [] XP w s (s.heap.nsMap mainGlobals) (s.heap.nsMap builtinsNs) s.heap := ⟨G00.T, G00.B, G00.D, G00.TE, G00.TD, G00.W, G00.X.1, G00.cls, G00.has, G00.apart, G00.once, G00.K⟩
  have RF := G00.X.2
  have hT' := hT
  refine ⟨s₀, hf, hg0, s, hT, pin w s hg G0, RF.1, RF.2.1, ?_⟩
  have hgens : s.gens = #[] := Array.eq_empty_of_size_eq_zero (beq_iff_eq.mp hgens)
  have G : Ground q loose r.records XP w s _ _ s.heap := RF.ground G0
  refine callFrom_C (c := r.claim) hz hgens fun args hpre hlay ord hord => ?_
  obtain ⟨⟨vs, s₁⟩, hlaid⟩ := Option.isSome_iff_exists.mp (layAllW_isSome (P := w.params) (ord := ord) G.has args r.args s (pre_splitW hpre).1)
  have keeps := layAllW_keeps _ _ _ hlaid
  have hal := layAllW_rest _ _ _ hlaid
  obtain ⟨as, hrd, hin, hold⟩ := reads_layAllW hord _ _ _ hlaid hlay s₁.heap (fun _ _ e => e)
  have L : Laid r.records w s s₁ args vs as := ⟨⟨ord, hord, hlaid⟩, hrd, hin, hold, keeps, hal.1.trans hgens, hal.2.2.1⟩
  have G₁ := G.keeps hXk keeps
  obtain ⟨f, hf, h⟩ := call w s s₁ _ _ G₁ (hYk _ _ _ (hY w s y) keeps) args vs as hpre hlay L G.low
  have hi := ident_freeW hu ha hap
  have hwi : r.claim.within = [] := List.isEmpty_iff.mp k6
  exact ⟨vs, s₁, hlaid, ht vs w s₁ _ f _ _ G₁.T.g hf (wpC_mono h (fun v s' g => ⟨_, rfl, have z := g.laid (c := r.claim) hsame hwi hi L; ⟨z.1, z.2.1, z.2.2, fun q => ⟨namesKept_of hT' hg kps keeps g.2.1.old, noTable hwr q⟩⟩⟩) fun e s' g => have z := g.laid (c := r.claim) hsame hwi hi L; ⟨z.1, z.2.1, z.2.2, fun q => ⟨namesKept_of hT' hg kps keeps g.2.1.old, noTable hwr q⟩⟩)⟩
noncomputable abbrev WalkC (q : Program) (loose : List Str) (XP : (Str → Option Value) → Heap → Prop) (YP : World → Heap → Prop) (r : RowW) (d : DefRec) (kwd : List (Str × Expr)) (run : Value → List Value → Sem Value) : Prop :=
  ∀ (w : World) (s₀ s₁ : Shared) (mg mb : Str → Option Value), Ground q loose r.records XP w s₀ mg mb s₁.heap → YP w s₁.heap → ∀ (a : Addr) (o : Obj) (pm cd doc dV kV : Value), s₁.heap.get? a = some o →
    o.data = .func { docDef d.name d.params d.body d.scope pm cd doc with defaults := dV, kwdefaults := kV } → s₁.heap.CodeRec cd d.name → Dflts mg s₁.heap d.params kwd dV kV → mg d.name = some (.ref a) → s₁.gens = #[] →
    ∀ (args : List WData) (vals : List Value) (as : List Addr), r.claim.pre args = true → WData.layableAll args = true → ReadsAllW r.records (classAt s₀.heap) s₁.heap vals args as → WellAll w.params s₁.heap vals args → (∀ a ∈ as, (a == sysModules) = false) →
      wpC (model r.prog w) callerA (run (.ref a) vals) (fun v s' => GoodWG r.claim (classAt s₀.heap) (ExcName.means s₀.heap) args s₁ (.ok (.ret v)) s')
        (fun e s' => GoodWG r.claim (classAt s₀.heap) (ExcName.means s₀.heap) args s₁ (.error e) s') s₁
/-- the head of an open row, its call over clean stacks alone (the library's word of that name asks it over all) -/
theorem PySem.W.holds_open {r : OpenRow} {q : Program} {loose : List Str} {Xt : Shared → Bool} {XP : (Str → Option Value) → Heap → Prop} {α : Type} {Yf : Shared → α} {Ya : World → α} {YP : World → Heap → Prop} {d : DefRec} {kwd : List (Str × Expr)} {N : Nat}
    (left : LeftO r.prog q loose Xt Yf Ya N) (hY : ∀ w s, Yf s = Ya w → YP w s.heap) (hYk : ∀ w h h', YP w h → (∀ b o, h.get? b = some o → h'.get? b = some o) → YP w h')
    (hX : ∀ s, Xt s = true → XP (s.heap.nsMap mainGlobals) s.heap) (hXk : ∀ mg h h', XP mg h → (∀ b o, h.get? b = some o → h'.get? b = some o) → XP mg h')
    (hdef : defOf q r.name = some (d, kwd)) (hp : r.prog.theDef r.name = some (d.params, d.body, d.scope)) (hk : kwWritten? d.params.kwonlyargs d.params.kw_defaults = some kwd) (hRf : ∀ s, Xt s = true → RecFacts r.records s.heap) (hwr : (!r.writes || r.records.isEmpty) = true)
    (k1 : r.wellSaid = true) (ok : (chainsOk q && opensWell r.prog && (frees r.toRowW && r.within.isEmpty)) = true) (hb : r.prog.bare) (hw : r.toRowW.promised)
    (call : WalkC q loose XP YP r.toRowW d kwd fun f vs => PySem.call f vs) : r.Holds := by
  refine ⟨k1, hw, anyC (r := r.toRowW) (run := fun f vs => PySem.call f vs) (tree := fun vs => do match ← nsGet mainNs r.name with
      | some f => do ret (← PySem.call f vs)
      | none => unsupported "claim.caller:no-such-global") left hY hYk hX hXk hRf hwr ok hb hw
    (fun vs w s mg f Q E hg hf h => wpC_bind (ofAny (wpAny_nsGet hg (by rw [hf]; exact wpC_bind (wpC_mono h (fun _ _ x => wpC_pure x) fun _ _ x => x)))))
    (fun w s hg G n hn => ?_) fun w s₀ s₁ mg mb G Y args vs as hpre hlay L low => ?_⟩
  · obtain rfl : n = r.name := by split at hn <;> simp_all
    exact pinned_of_view hg G hdef hp hk
  · obtain ⟨a, o, pm, cd, doc, dV, kV, h1, h2, h3, h4, h5⟩ := G.fn hdef
    exact ⟨.ref a, h1, call w s₀ s₁ mg mb G Y a o pm cd doc dV kV h2 h3 h4 h5 (defOf_name hdef ▸ h1) L.gens args vs as hpre hlay L.reads L.well (L.low low)⟩
section
local macro_rules | `(tactic| o_head $_) => `(tactic| assumption)
theorem hd (h : PySem.Challenge.rw_pq0944_01.row.Holds) : PySem.Challenge.rw_pq0944_01.row.Holds := by k_head
end
-- l01
section
variable {α β : Type} {M : Model} {A : Around} {E : Value → Shared → Prop} {s : Shared}
theorem wpC_map {m : Sem α} {f : α → β} {Q : β → Shared → Prop} (h : wpC M A m (fun a s' => Q (f a) s') E s) : wpC M A (f <$> m) Q E s := fun Γ p hΓ hc => by
  rw [Sem.wp_map]; exact h Γ p hΓ hc
theorem wpC_holding {vs : List Value} {m : Sem α} {Q : α → Shared → Prop} (h : wpC M A m Q E s) : wpC M A (holding vs m) Q E s := fun Γ p hΓ hc => by
  rw [Sem.wp_holding]; exact h Γ p hΓ hc
theorem wpC_keep {vs : List Value} {m : Sem α} {Q : α → Shared → Prop} (h : wpC M A m Q E s) : wpC M A (m.keep vs) Q E s := fun Γ p hΓ hc => by
  rw [Sem.wp_keep]; exact h Γ p hΓ hc
theorem wpC_onRaise {m : Sem α} {k : Value → Sem Unit} {Q : α → Shared → Prop} (h : wpC M A m Q (fun e s' => wpC M A (k e) (fun _ s'' => E e s'') E s') s) : wpC M A (m.onRaise k) Q E s := fun Γ p hΓ hc => by
  rw [Sem.wp_onRaise]
  exact Sem.wp_mono M Γ m (fun _ _ _ h' => h') (fun e p' s' h' => h' Γ p' hΓ hc) p s (h Γ p hΓ hc)
theorem wpC_tryCatch {m : Sem α} {k : Value → Sem α} {Q : α → Shared → Prop} (h : wpC M A m Q (fun e s' => wpC M A (k e) Q E s') s) : wpC M A (tryCatch m k) Q E s := fun Γ p hΓ hc => by
  rw [Sem.wp_tryCatch']
  exact Sem.wp_mono M Γ m (fun _ _ _ h' => h') (fun e p' s' h' => h' Γ p' hΓ hc) p s (h Γ p hΓ hc)
theorem wpC_attempt {m : Sem α} {Q : Except Value α → Shared → Prop} (h : wpC M A m (fun a => Q (.ok a)) (fun e => Q (.error e)) s) : wpC M A m.attempt Q E s := fun Γ p hΓ hc => by
  rw [Sem.wp_attempt]; exact h Γ p hΓ hc
theorem wpC_standAt {pos : Pos} {Q : Unit → Shared → Prop} (h : Q () s) : wpC M A (standAt pos) Q E s := fun _ _ _ _ => h
theorem wpC_true {c : Bool} {a b : Sem α} {Q : α → Shared → Prop} (hc : c = true) (h : wpC M A a Q E s) : wpC M A (if c = true then a else b) Q E s := by subst hc; exact h
theorem wpC_false {c : Bool} {a b : Sem α} {Q : α → Shared → Prop} (hc : c = false) (h : wpC M A b Q E s) : wpC M A (if c = true then a else b) Q E s := by subst hc; exact h
theorem wpC_any {m : Sem α} {f : α → Sem β} {Q : β → Shared → Prop} (h : wpAny M A m (fun a s' => wpC M A (f a) Q E s') E s) : wpC M A (m >>= f) Q E s := wpC_bind (ofAny h)
theorem wpC_at {pos : Pos} {f : Unit → Sem β} {Q : β → Shared → Prop} (h : wpC M A (f ()) Q E s) : wpC M A (standAt pos >>= f) Q E s := wpC_bind (wpC_standAt h)
theorem wpC_eq {t : Sem α} {a : α} {Q : α → Shared → Prop} (e : t = pure a) (h : Q a s) : wpC M A t Q E s := e ▸ wpC_pure h
theorem enter_clean {Γ : Ctx} (h : Clean Γ) (c : Code) (hd : Option Value) (p : Pos) : ∀ x ∈ (Γ.enter c hd p).below, okCode x.1 = true := by
  intro x hx
  rcases List.mem_cons.mp hx with rfl | hx
  · exact h.1
  · exact h.2 x hx
theorem wpC_run {c : Code} {h : Option Value} {Q : Flow → Shared → Prop} (hc : codeC M (A.mark h) c (fun r s' => match r with | .ok f => Q f s' | .error e => E e s') s) (hnb : h ≠ some byPass := by intro x; cases x) :
    wpC M A (run c h) Q E s := fun Γ p hΓ hcl => by
  rw [Sem.wp_run]; exact hc _ p rfl (hΓ.enter c h p hnb) (enter_clean hcl c h p)
theorem wpC_runValue {c : Code} {Q : Value → Shared → Prop} (hc : codeC M A c (fun r s' => match r with | .ok (.ret v) => Q v s' | .ok _ => False | .error e => E e s') s) : wpC M A (runValue c) Q E s := fun Γ p hΓ hcl => by
  rw [Sem.wp_runValue]; exact hc _ p rfl (hΓ.enter c none p (by intro x; cases x)) (enter_clean hcl c none p)
theorem wpC_call {f : Value} {pos : List Value} {kw : List (Str × Value)} {Q : Value → Shared → Prop}
    (hc : codeC M A (.call f ⟨pos, kw⟩) (fun r s' => match r with | .ok (.ret v) => Q v s' | .ok _ => False | .error e => E e s') s) : wpC M A (call f pos kw) Q E s := wpC_runValue hc
theorem codeC_mono {c : Code} {R R' : Result → Shared → Prop} (h : codeC M A c R s) (hR : ∀ r s, R r s → R' r s) : codeC M A c R' s :=
  fun Γ p hc hΓ hcl => wpCode_mono hR (h Γ p hc hΓ hcl)
noncomputable def Ends (M : Model) (A : Around) (R : Result → Shared → Prop) (fin : Fin) (s' : Shared) : Prop :=
  match fin with
  | .done f => R (.ok f) s'
  | .again c' => c'.quiet = true ∧ codeC M A c' R s'
theorem codeC_of_tree {c : Code} {R : Result → Shared → Prop} (ok : okCode c = true) (h : wpC M (A.under c) (M.den c) (Ends M A R) (fun e s' => R (.error e) s') s) : codeC M A c R s := fun Γ p hc hΓ hcl => by
  rw [wpCode_iff_wp, hc]
  refine Sem.wp_mono M Γ _ (fun fin p' s' h' => ?_) (fun _ _ _ h' => h') p s (h Γ p (hc ▸ hΓ.in) ⟨by rw [hc]; exact ok, hcl⟩)
  cases fin with
  | done f => exact h'
  | again c' => exact ⟨h'.1, h'.2 (Γ.goto c') p' rfl (hΓ.goto c') hcl⟩
theorem codeC_loop {c : Code} {R : Result → Shared → Prop} (ok : okCode c = true) (hq : c.quiet = true) (I : Nat → Shared → Prop)
    (turn : ∀ n s, I n s → wpC M (A.under c) (M.den c) (fun fin s' => match fin with | .done f => R (.ok f) s' | .again c' => c' = c ∧ ∃ m, m < n ∧ I m s') (fun e s' => R (.error e) s') s)
    (n : Nat) (h : I n s) : codeC M A c R s := by
  induction n using Nat.strongRecOn generalizing s with
  | ind n ih =>
    refine codeC_of_tree ok (wpC_mono (turn n s h) (fun fin s' hf => ?_) fun _ _ h' => h')
    cases fin with
    | done f => exact hf
    | again c' => obtain ⟨rfl, m, hm, hI⟩ := hf; exact ⟨hq, ih m hm hI⟩
theorem exported_C {a : Addr} {Q : Bool → Shared → Prop} (h : Q false s) : wpC M A (Builtin.Bytes.exported (.ref a)) Q E s := by
  unfold Builtin.Bytes.exported
  intro Γ p hΓ hc
  show Q (List.any ((Γ.code, p) :: Γ.below) _) s
  rw [show List.any ((Γ.code, p) :: Γ.below) _ = false from ?_]
  · exact h
  rw [List.any_eq_false]
  intro x hx
  have hk : okCode x.1 = true := by
    rcases List.mem_cons.mp hx with rfl | hx
    · exact hc.1
    · exact hc.2 x hx
  clear hx hc hΓ
  obtain ⟨c, q⟩ := x
  rw [Bool.not_eq_true]
  cases c with
  | builtin id as =>
    obtain ⟨pos, kw⟩ := as
    have hb : id ∉ badIds := fun hm => by
      have := List.contains_iff_mem.mpr hm
      simp only [okCode, this] at hk
      cases hk
    have hd : Builtin.Bytes.decodersThatHold.contains id = false := by
      rw [Bool.eq_false_iff]
      exact fun hm => hb (List.mem_append_right _ (List.contains_iff_mem.mp hm))
    have n1 : id ≠ "bytearray.__contains__" := fun e => hb (e ▸ List.mem_append_left _ (by decide))
    have n2 : id ≠ "bytearray.__mod__" := fun e => hb (e ▸ List.mem_append_left _ (by decide))
    have n3 : id ≠ "bytearray.__rmod__" := fun e => hb (e ▸ List.mem_append_left _ (by decide))
    have n4 : id ≠ "_struct.pack_into.held" := fun e => hb (e ▸ List.mem_append_left _ (by decide))
    have n5 : id ≠ "bytearray.find.held" := fun e => hb (e ▸ List.mem_append_left _ (by decide))
    delta Builtin.Bytes.exported.match_1
    dsimp only
    with_unfolding_all refine (dif_neg n1).trans ?_
    with_unfolding_all refine (dif_neg n2).trans ?_
    with_unfolding_all refine (dif_neg n3).trans ?_
    with_unfolding_all refine (dif_neg n4).trans ?_
    with_unfolding_all refine (dif_neg n5).trans ?_
    cases pos with
    | nil => rfl
    | cons v l => show (_ && _) = false; rw [hd, Bool.and_false]
  | _ => rfl
end
-- l02
section
variable {prog : Program} {w : World} {A : Around} {E : Value → Shared → Prop} {R : Result → Shared → Prop} {s : Shared}
theorem codeC_func {body : List Stmt} {env : Env}
    (h : wpC (model prog w) (A.deeper env) (execs body env) (fun f s' => R (.ok (.ret (match f with | .ret v => v | _ => .none))) s')
      (fun e s' => wpAny (model prog w) (A.deeper env) (leaving env e) (fun _ s'' => R (.error e) s'') (fun e' s'' => R (.error e') s'') s') s) : codeC (model prog w) A (.func body env) R s := by
  refine codeC_of_tree rfl ?_
  show wpC _ (A.deeper env) (do point; match ← (execs body env).onRaise (leaving env) with | .ret v => ret v | _ => ret .none) _ _ s
  refine wpC_bind (ofAny (wpAny_point (wpC_bind (wpC_onRaise (wpC_mono h (fun f s' h' => ?_) fun _ _ h' => ofAny h')))))
  cases f <;> exact wpC_pure h'
theorem codeC_call_def {a : Addr} {o : Obj} {fd : FuncData} {body : List Stmt} {args : Args} {binds : List (Str × Value)}
    (hroom : A.depth < recursionLimit) (ho : s.heap.get? a = some o) (hdata : o.data = .func fd) (hlim : s.heap.NoLimit) (hcd : s.heap.CodeRec fd.code fd.qualname)
    (hbody : fd.body = .stmts body) (hbind : BindsTo s fd args binds)
    (hcell : ∀ x ∈ fd.scope.names, x.2 ≠ .cell) (hloc : ∀ x ∈ binds, fd.scope.names.lookup x.1 = some .local)
    (h : ∀ h₀, h₀.Ns s.heap.objs.size (fun x => binds.reverse.lookup x) → (∀ b o, s.heap.get? b = some o → h₀.get? b = some o) →
      wpC (model prog w) (A.deeper (callEnv fd s.heap.objs.size a)) (execs body (callEnv fd s.heap.objs.size a)) (fun f s' => R (.ok (.ret (match f with | .ret v => v | _ => .none))) s')
        (fun e s' => wpAny (model prog w) (A.deeper (callEnv fd s.heap.objs.size a)) (leaving (callEnv fd s.heap.objs.size a) e) (fun _ s'' => R (.error e) s'') (fun e' s'' => R (.error e') s'') s')
        { s with heap := h₀, toks := s.toks + binds.length })
    (hco : fd.scope.isCoroutine = false := by rfl) (hgen : fd.scope.isGenerator = false := by rfl) (hk : fd.scope.kind = .function := by rfl) :
    codeC (model prog w) A (.call (.ref a) args) R s := by
  refine codeC_of_tree rfl ?_
  show wpC _ A.in1 (callAny (.ref a) args) _ _ s
  simp only [callAny]
  refine wpC_any (wpAny_load ho ?_)
  obtain ⟨c, oc, vs, tq, hc, hoc, hdc, hq⟩ := hcd
  simp only [hdata, callFunction, hco, hgen, hbody, hc]
  refine wpC_any (m := field (.ref c) 1) (wpAny_field hoc hdc hq (wpC_any (wpAny_pure ?_)))
  refine wpC_any (hbind _ _ _ _ (wpC_any (wpAny_newFunctionEnv hcell hloc (fun h₀ hns₀ hsb₀ => wpC_any (wpAny_enterFrame (hlim.fresh _ hsb₀) hroom (wpC_pure ⟨rfl, codeC_func ?_⟩))) hk)))
  have := h h₀ hns₀ fun b o e => hsb₀.extBut b o (Nat.ne_of_lt (Heap.lt_size e)) (Heap.get?_push_of_some _ e)
  simpa only [callEnv, newEnv, hc] using this
end
-- l03
section
variable {prog : Program} {w : World} {A : Around} {E : Value → Shared → Prop} {s : Shared} {R : Result → Shared → Prop}
theorem codeC_builtin {id : String} {args : Args} {b : Builtin} (ok : okCode (.builtin id args) = true) (hb : entryFor table id = some b)
    (h : wpC (model prog w) (A.under (.builtin id args)) (b args) (Ends (model prog w) A R) (fun e s' => R (.error e) s') s) : codeC (model prog w) A (.builtin id args) R s := by
  refine codeC_of_tree ok ?_
  show wpC _ _ (match entryFor table id with | some b => b args | none => unsupported ((withoutEnding? id "#data").getD id)) _ _ s
  rw [hb]; exact h
theorem codeC_call_builtin {id : String} {args : Args} {b : Builtin} (ok : okCode (.builtin id args) = true) (hq : plainId id = true) (hb : entryFor table id = some b)
    (h : wpAny (model prog w) A.in1 (checkBuiltinCall id args) (fun _ s₁ => wpC (model prog w) A.in1 (b args) (Ends (model prog w) A R) (fun e s' => R (.error e) s') s₁) (fun e s' => R (.error e) s') s) :
    codeC (model prog w) A (.call (.builtin id) args) R s := by
  refine codeC_of_tree rfl ?_
  show wpC _ A.in1 (do checkBuiltinCall id args; again (.builtin id args)) _ _ s
  refine wpC_any (wpAny_mono h (fun _ s₁ h₁ => wpC_pure ⟨plainId_quiet hq args, codeC_builtin ok hb ?_⟩) fun _ _ h' => h')
  rw [Around.under_plainId hq]
  exact h₁
theorem callType_C {T newId initId : String} {Bi : Builtin} {args : List Value} {Q Q₁ : Value → Shared → Prop} (ft : TypeCalled T newId initId)
    (okI : ∀ a, okCode (.builtin initId a) = true) (hct : checkTypeCall T ⟨args, []⟩ = pure ()) (entryI : entryFor table initId = some Bi)
    (hnew : codeAny (model prog w) A.in1 (.call (.builtin newId) ⟨.type T :: args, []⟩) (wants Q₁ E) s)
    (hnext : ∀ obj s₁, Q₁ obj s₁ → s₁.TypeIs obj T ∧ argsOk initId ⟨obj :: args, []⟩ ∧
      wpC (model prog w) A.in1.in1 (Bi ⟨obj :: args, []⟩) (Ends (model prog w) A.in1 (wants (fun r s₂ => r = .none ∧ Q obj s₂) E))
        (fun e s' => wants (fun r s₂ => r = .none ∧ Q obj s₂) E (.error e) s') s₁) :
    wpC (model prog w) A (call (.type T) args) Q E s := by
  obtain ⟨c, tl, hmro⟩ := ft.mro
  have hmade := ft.made
  have hsub := ft.sub
  refine wpC_call (codeC_of_tree rfl ?_)
  show wpC _ _ (callAny (.type T) _) _ _ _
  refine wpC_pure ⟨Code.quiet_builtin _ (by decide +kernel), codeC_builtin rfl F.entry_type_call ?_⟩
  rw [Around.under_plain (weight_type_call_type T args []) rfl]
  have h1 := ft.notType
  have h2 := ft.canCreate
  unfold Builtin.«type.__call__»
  simp only [h1, h2, hct, hmro, hmade, pure_bind, Bool.false_eq_true, if_false, List.isEmpty_cons]
  refine wpC_any (wpAny_holding (wpAny_call (codeAny_mono hnew fun r s₁ hr => ?_)))
  cases r with
  | error e => exact hr
  | ok fl =>
    cases fl with
    | ret obj =>
      obtain ⟨hT, hok, hsi⟩ := hnext _ _ hr
      have hli := ft.init.lookup
      have hbi := ft.init.bind obj
      show wpC _ _ _ _ _ _
      refine wpC_any (wpAny_isInstance hT hsub ?_)
      refine wpC_false rfl ?_
      refine wpC_bind (wpC_holding ?_)
      unfold callSpecial?
      refine wpC_any (wpAny_specialOf hT hli ?_)
      refine wpC_holding ?_
      refine wpC_any (wpAny_of_eq hbi ?_)
      refine wpC_bind (wpC_call (codeC_mono (codeC_call_builtin (okI _) ft.init.plain entryI (ft.init.check _ _ _ _ _ _ _ _ hT hok hsi)) fun r₂ s₂ hr₂ => ?_))
      cases r₂ with
      | error e => exact hr₂
      | ok fl₂ =>
        cases fl₂ with
        | ret r =>
          obtain ⟨rfl, hq⟩ := hr₂
          exact wpC_pure (wpC_pure hq)
        | _ => exact hr₂.elim
    | _ => exact hr.elim
end
-- l04
namespace BA
theorem mro : mroOf (.type "bytearray") = pure [.type "bytearray", .type "object"] := by rw [mroOf_type]; kernel_rfl
theorem look_new : typeLookup (.type "bytearray") "__new__" = pure (some (.builtin "bytearray.__new__")) := by rw [typeLookup_type, builtinLookup_eq_fast]; kernel_rfl
theorem look_buffer : typeLookup (.type "bytearray") "__buffer__" = pure (some (.builtin "bytearray.__buffer__")) := by rw [typeLookup_type, builtinLookup_eq_fast]; kernel_rfl
theorem look_release : typeLookup (.type "bytearray") "__release_buffer__" = pure (some (.builtin "bytearray.__release_buffer__")) := by rw [typeLookup_type, builtinLookup_eq_fast]; kernel_rfl
theorem look_bytes : typeLookup (.type "bytearray") "__bytes__" = pure none := by rw [typeLookup_type, builtinLookup_eq_fast]; kernel_rfl
theorem look_index : typeLookup (.type "bytearray") "__index__" = pure none := by rw [typeLookup_type, builtinLookup_eq_fast]; kernel_rfl
theorem bytes_index : typeLookup (.type "bytes") "__index__" = pure none := by rw [typeLookup_type, builtinLookup_eq_fast]; kernel_rfl
theorem bytes_bytes : typeLookup (.type "bytes") "__bytes__" = pure (some (.builtin "bytes.__bytes__")) := by rw [typeLookup_type, builtinLookup_eq_fast]; kernel_rfl
theorem slot_init : Slot "bytearray" "__init__" "bytearray.__init__" :=
  .of (owner := "bytearray") (n := "__init__") (by rw [typeLookup_type, builtinLookup_eq_fast]; kernel_rfl) (by decide +kernel) (by decide +kernel) (by decide +kernel)
    (by first | exact .inl (by decide +kernel) | exact .inr (by decide +kernel)) (by rw [isSubtype_type]; kernel_rfl)
theorem slot_append : Slot "bytearray" "append" "bytearray.append" :=
  .of (owner := "bytearray") (n := "append") (by rw [typeLookup_type, builtinLookup_eq_fast]; kernel_rfl) (by decide +kernel) (by decide +kernel) (by decide +kernel)
    (by first | exact .inl (by decide +kernel) | exact .inr (by decide +kernel)) (by rw [isSubtype_type]; kernel_rfl)
theorem sub : isSubtype (.type "bytearray") (.type "bytearray") = pure true := by rw [isSubtype_type]; kernel_rfl
theorem called : TypeCalled "bytearray" "bytearray.__new__" "bytearray.__init__" :=
  ⟨by decide +kernel, by decide +kernel, ⟨_, _, mro⟩, madeBy_type mro look_new (by decide +kernel), by decide +kernel, sub, slot_init⟩
theorem typeCall1 (a : Value) : checkTypeCall "bytearray" ⟨[a], []⟩ = pure () := by kernel_rfl
theorem typeCall0 : checkTypeCall "bytearray" ⟨[], []⟩ = pure () := by kernel_rfl
theorem newCall1 (a : Value) : checkBuiltinCall "bytearray.__new__" ⟨[.type "bytearray", a], []⟩ = pure () := by kernel_rfl
theorem newCall0 : checkBuiltinCall "bytearray.__new__" ⟨[.type "bytearray"], []⟩ = pure () := by kernel_rfl
theorem plain_new : plainId "bytearray.__new__" = true := by decide +kernel
theorem plain_append : plainId "bytearray.append" = true := by decide +kernel
theorem entry_new : entryFor table "bytearray.__new__" = some Builtin.«list.__new__» := entryFor_alias (id' := "list.__new__") (by kernel_rfl) (by first | rfl | decide +kernel) (by decide +kernel) (by kernel_rfl)
theorem entry_init : entryFor table "bytearray.__init__" = some Builtin.«bytearray.__init__» := by first | exact entryFor_of_fast (by kernel_rfl) | exact entryFor_of_tree (by kernel_rfl)
theorem entry_append : entryFor table "bytearray.append" = some Builtin.«bytearray.append» := by first | exact entryFor_of_fast (by kernel_rfl) | exact entryFor_of_tree (by kernel_rfl)
theorem bind1 (v : Value) : Builtin.Bytes.bindOptional "bytearray.__init__" "bytearray" ["source", "encoding", "errors"] [v] [] = pure [some v, none, none] := by kernel_rfl
theorem bind0 : Builtin.Bytes.bindOptional "bytearray.__init__" "bytearray" ["source", "encoding", "errors"] [] [] = pure [none, none, none] := by kernel_rfl
theorem ok_init (a : Args) : okCode (.builtin "bytearray.__init__" a) = true := by show (!badIds.contains "bytearray.__init__") = true; decide +kernel
theorem ok_append (a : Args) : okCode (.builtin "bytearray.append" a) = true := by show (!badIds.contains "bytearray.append") = true; decide +kernel
end BA
set_option maxRecDepth 1000000 in
set_option maxHeartbeats 4000000 in
theorem owner_ba_new : ("bytearray.__new__".splitOn ".__new__").headD "" = "bytearray" := by simp +decide [String.splitOn, String.splitOnAux]
noncomputable abbrev baOb (b : Array UInt8) : Obj := { cls := .type "bytearray", data := .bytearray b }
section
variable {prog : Program} {w : World} {A : Around} {E : Value → Shared → Prop} {s : Shared} {R : Result → Shared → Prop}
theorem ba_new {rest : List Value} {Q₁ : Value → Shared → Prop} (hck : checkBuiltinCall "bytearray.__new__" ⟨.type "bytearray" :: rest, []⟩ = pure ())
    (h : Q₁ (.ref s.heap.objs.size) { s with heap := s.heap.push (baOb #[]) }) :
    codeAny (model prog w) A (.call (.builtin "bytearray.__new__") ⟨.type "bytearray" :: rest, []⟩) (wants Q₁ E) s := by
  refine codeAny_of_tree ?_
  show wpAny _ A.in1 (do checkBuiltinCall "bytearray.__new__" ⟨.type "bytearray" :: rest, []⟩; again (.builtin "bytearray.__new__" ⟨.type "bytearray" :: rest, []⟩)) _ _ s
  refine wpAny_bind (wpAny_of_eq hck (wpAny_pure ⟨plainId_quiet BA.plain_new _, codeAny_builtin_stack BA.entry_new rfl fun p st => ?_⟩))
  rw [Around.under_plainId BA.plain_new _]
  have hsub := BA.sub
  have hown := owner_ba_new
  obtain ⟨hp, g, d, tk, os⟩ := s
  simp only [hown]
  wp_walk
  exact h
theorem slotOwn {a : Addr} {T id : String} {name : String} {Q : Bool → Shared → Prop} (hT : s.TypeIs (.ref a) T) (hl : typeLookup (.type T) (name : Str) = pure (some (.builtin id)))
    (he : id.endsWith ("." ++ name) = true) (hd : id.dropRight (name.length + 1) = T) (hs : isSubtype (.type T) (.type T) = pure true) (h : Q true s) :
    wpAny (model prog w) A (Builtin.Bytes.slotIsOwn (.ref a) name) Q E s := by
  unfold Builtin.Bytes.slotIsOwn
  refine wpAny_bind (wpAny_specialOf hT hl ?_)
  simp only [he, hd, Bool.not_true, Bool.false_eq_true, if_false]
  exact wpAny_isInstance hT hs h
theorem ba_type {a : Addr} {b : Array UInt8} (ho : s.heap.get? a = some (baOb b)) : s.TypeIs (.ref a) "bytearray" := ⟨_, ho, rfl⟩
theorem ba_release {a : Addr} {b : Array UInt8} {Q : Bool → Shared → Prop} (ho : s.heap.get? a = some (baOb b)) (h : Q false s) : wpAny (model prog w) A (Builtin.Bytes.ownRelease (.ref a)) Q E s := by
  unfold Builtin.Bytes.ownRelease
  exact wpAny_bind (slotOwn (ba_type ho) BA.look_release (by decide +kernel) (by decide +kernel) BA.sub (wpAny_pure h))
theorem ba_payload {a : Addr} {b : Array UInt8} {Q : Array UInt8 → Shared → Prop} (ho : s.heap.get? a = some (baOb b)) (h : Q b s) : wpAny (model prog w) A (Builtin.Bytes.payload (.ref a)) Q E s := by
  unfold Builtin.Bytes.payload Builtin.Bytes.payload?
  exact wpAny_bind (wpAny_bind (wpAny_load ho (wpAny_pure (wpAny_pure h))))
theorem ba_exports {a : Addr} {b : Array UInt8} {Q : Nat → Shared → Prop} (ho : s.heap.get? a = some (baOb b)) (h : Q 0 s) : wpAny (model prog w) A (Builtin.Bytes.exportsOf (.ref a)) Q E s := by
  unfold Builtin.Bytes.exportsOf
  exact wpAny_bind (wpAny_load ho (wpAny_pure h))
theorem ba_write {a : Addr} {b : Array UInt8} {f : Array UInt8 → Array UInt8} {Q : Unit → Shared → Prop} (ho : s.heap.get? a = some (baOb b)) (hz : (f b).size ≤ 1000000)
    (h : (s.heap.update a (Obj.mapBytearray f)).get? a = some (baOb (f b)) → Q () { s with heap := s.heap.update a (Obj.mapBytearray f) }) : wpAny (model prog w) A (Builtin.Bytes.write (.ref a) f) Q E s := by
  show wpAny _ _ (updateBytearray a f) _ _ _
  unfold updateBytearray
  refine wpAny_bind (wpAny_load ho ?_)
  show wpAny _ _ (update a (Obj.mapBytearray f) >>= fun _ => lookBehind a) _ _ _
  have h2 : (s.heap.update a (Obj.mapBytearray f)).get? a = some (baOb (f b)) := Heap.get?_update_self (Obj.mapBytearray f) ho rfl
  refine wpAny_bind (wpAny_update ho (wpAny_lookBehind h2 ?_ (h h2)))
  show (if (f b).size > sizeLine then some "bytearray:memory" else none) = none
  rw [if_neg]
  rw [sizeLine_eq]
  omega
theorem ba_resize_ask {a : Addr} {b : Array UInt8} {Q : Bool → Shared → Prop} (ho : s.heap.get? a = some (baOb b)) (h : Q false s) :
    wpC (model prog w) A (Builtin.Bytes.exported (.ref a) <||> (do return (← Builtin.Bytes.exportsOf (.ref a)) > 0)) Q E s := by
  show wpC _ _ (Builtin.Bytes.exported (.ref a) >>= _) _ _ _
  refine wpC_bind (exported_C ?_)
  exact ofAny (wpAny_bind (ba_exports ho (wpAny_pure h)))
end
-- l05
noncomputable def Kept (ad : Addr) (h h' : Heap) : Prop := ∀ b o, h.get? b = some o → b ≠ ad → h'.get? b = some o
section
variable {prog : Program} {w : World} {A : Around} {E : Value → Shared → Prop} {s : Shared} {R : Result → Shared → Prop}
theorem upd_keeps {h : Heap} {a : Addr} {f : Obj → Obj} : ∀ b o, h.get? b = some o → b ≠ a → (h.update a f).get? b = some o := fun b o e hb => (Heap.get?_update_other _ _ (Ne.symm hb)).trans e
theorem init_bytes {A₂ : Around} {a : Addr} {x : Array UInt8} {t : Tok} (ho : s.heap.get? a = some (baOb #[])) (hz : x.size ≤ 1000000)
    (h : ∀ h', h'.get? a = some (baOb x) → Kept a s.heap h' → R (.ok (.ret .none)) { s with heap := h' }) :
    wpC (model prog w) A (Builtin.«bytearray.__init__» ⟨[.ref a, .bytes x t], []⟩) (Ends (model prog w) A₂ R) (fun e s' => R (.error e) s') s := by
  unfold Builtin.«bytearray.__init__»
  refine wpC_any (ba_release ho ?_)
  refine wpC_false rfl ?_
  refine wpC_any (wpAny_of_eq (BA.bind1 _) ?_)
  refine wpC_any (wpAny_of_eq (a := ()) rfl ?_)
  refine wpC_any (wpAny_of_eq (a := ()) rfl ?_)
  refine wpC_bind (ba_resize_ask ho ?_)
  refine wpC_false rfl ?_
  refine wpC_any (ba_write ho (by simp) fun h2 => ?_)
  refine wpC_any (wpAny_of_eq (a := none) rfl ?_)
  refine wpC_false rfl ?_
  refine wpC_any (wpAny_of_eq (a := ()) rfl ?_)
  refine wpC_any (wpAny_specialOf (typeIs_bytes _ _ _) BA.bytes_index ?_)
  refine wpC_false rfl ?_
  refine wpC_any (wpAny_of_eq KBy.buffer_eq ?_)
  refine wpC_any (wpAny_rule ?_)
  refine wpC_any (ba_write h2 hz fun h3 => ?_)
  refine wpC_pure ?_
  exact h _ h3 fun b o e hb => upd_keeps _ _ (upd_keeps _ _ e hb) hb
theorem init_none {A₂ : Around} {a : Addr} (ho : s.heap.get? a = some (baOb #[]))
    (h : ∀ h', h'.get? a = some (baOb #[]) → Kept a s.heap h' → R (.ok (.ret .none)) { s with heap := h' }) :
    wpC (model prog w) A (Builtin.«bytearray.__init__» ⟨[.ref a], []⟩) (Ends (model prog w) A₂ R) (fun e s' => R (.error e) s') s := by
  unfold Builtin.«bytearray.__init__»
  refine wpC_any (ba_release ho ?_)
  refine wpC_false rfl ?_
  refine wpC_any (wpAny_of_eq BA.bind0 ?_)
  refine wpC_any (wpAny_of_eq (a := ()) rfl ?_)
  refine wpC_any (wpAny_of_eq (a := ()) rfl ?_)
  refine wpC_bind (ba_resize_ask ho ?_)
  refine wpC_false rfl ?_
  refine wpC_any (ba_write ho (by simp) fun h2 => ?_)
  refine wpC_any (wpAny_of_eq (a := ()) rfl ?_)
  refine wpC_pure ?_
  exact h _ h2 fun b o e hb => upd_keeps _ _ e hb
theorem call_ba1 {x : Array UInt8} {t : Tok} {Q : Value → Shared → Prop} (hz : x.size ≤ 1000000)
    (h : ∀ h', s.heap.StaysIn h' → h'.get? s.heap.objs.size = some (baOb x) → Q (.ref s.heap.objs.size) { s with heap := h' }) :
    wpC (model prog w) A (call (.type "bytearray") [.bytes x t]) Q E s := by
  refine callType_C (Q₁ := fun obj s₁ => obj = .ref s.heap.objs.size ∧ s₁ = { s with heap := s.heap.push (baOb #[]) }) BA.called BA.ok_init (BA.typeCall1 _) BA.entry_init (ba_new (BA.newCall1 _) ⟨rfl, rfl⟩) ?_
  rintro _ _ ⟨rfl, rfl⟩
  have ho : (s.heap.push (baOb #[])).get? s.heap.objs.size = some (baOb #[]) := Heap.get?_push_size _ rfl
  refine ⟨⟨_, ho, rfl⟩, ?ok, init_bytes (s := { s with heap := s.heap.push (baOb #[]) }) ho hz fun h' e k => ⟨rfl, h h' (fun b o eb => ?_) e⟩⟩
  case ok => first | rfl | kernel_rfl | trivial
  exact k b o (Heap.get?_push_of_some _ eb) (Nat.ne_of_lt (Heap.lt_size eb))
theorem call_ba0 {Q : Value → Shared → Prop}
    (h : ∀ h', s.heap.StaysIn h' → h'.get? s.heap.objs.size = some (baOb #[]) → Q (.ref s.heap.objs.size) { s with heap := h' }) :
    wpC (model prog w) A (call (.type "bytearray") []) Q E s := by
  refine callType_C (Q₁ := fun obj s₁ => obj = .ref s.heap.objs.size ∧ s₁ = { s with heap := s.heap.push (baOb #[]) }) BA.called BA.ok_init BA.typeCall0 BA.entry_init (ba_new BA.newCall0 ⟨rfl, rfl⟩) ?_
  rintro _ _ ⟨rfl, rfl⟩
  have ho : (s.heap.push (baOb #[])).get? s.heap.objs.size = some (baOb #[]) := Heap.get?_push_size _ rfl
  refine ⟨⟨_, ho, rfl⟩, ?ok, init_none (s := { s with heap := s.heap.push (baOb #[]) }) ho fun h' e k => ⟨rfl, h h' (fun b o eb => ?_) e⟩⟩
  case ok => first | rfl | kernel_rfl | trivial
  exact k b o (Heap.get?_push_of_some _ eb) (Nat.ne_of_lt (Heap.lt_size eb))
end
-- l06
namespace BA
theorem plainAttrs : PlainAttrs "bytearray" :=
  ⟨⟨"bytearray.__getattribute__", by rw [typeLookup_type, builtinLookup_eq_fast]; kernel_rfl, by decide +kernel⟩, by rw [typeLookup_type, builtinLookup_eq_fast]; kernel_rfl⟩
theorem type_append : typeOf (.builtin "bytearray.append") = pure (.type "method_descriptor") := by show builtinType _ = _; rw [builtinType_eq_fast]; kernel_rfl
theorem args_append (a b : Value) : argsOk "bytearray.append" ⟨[a, b], []⟩ := by kernel_rfl
theorem selfOne (a b : Value) : selfAndOne "bytearray.append" ⟨[a, b], []⟩ = pure (a, b) := by rfl
end BA
section
variable {prog : Program} {w : World} {A : Around} {E : Value → Shared → Prop} {s : Shared} {R : Result → Shared → Prop}
theorem getM_append {a : Addr} {b : Array UInt8} {pl : Sem Bool} {Q : Value × List Value → Shared → Prop} (ho : s.heap.get? a = some (baOb b)) (h : Q (.builtin "bytearray.append", [.ref a]) s) :
    wpAny (model prog w) A (getMethod (.ref a) "append" pl) Q E s :=
  getMethod_builtin (ba_type ho) BA.plainAttrs BA.slot_append BA.type_append (fun x e => by cases e; exact ⟨_, ho, rfl⟩) h
theorem append_C {a : Addr} {b : Array UInt8} {c : UInt8} {t : Tok} {Q : Value → Shared → Prop} (ho : s.heap.get? a = some (baOb b)) (hz : b.size ≤ 100000)
    (h : ∀ h', Kept a s.heap h' → h'.get? a = some (baOb (b.push c)) → Q .none { s with heap := h' }) : wpC (model prog w) A (call (.builtin "bytearray.append") [.ref a, .int (c.toNat : Int) t]) Q E s := by
  refine wpC_call (codeC_call_builtin (BA.ok_append _) BA.plain_append BA.entry_append (BA.slot_append.check _ _ _ _ _ _ _ _ (ba_type ho) (BA.args_append _ _) ?_))
  unfold Builtin.«bytearray.append»
  refine wpC_any (wpAny_of_eq (BA.selfOne _ _) ?_)
  show wpC _ _ (Builtin.Bytes.byteValue (.int (c.toNat : Int) t) >>= _) _ _ _
  have hb : Builtin.Bytes.byteValue (.int (c.toNat : Int) t) = pure c := by
    unfold Builtin.Bytes.byteValue
    show (if (decide ((c.toNat : Int) < 0) || decide ((c.toNat : Int) ≥ 256)) = true then _ else _) = _
    rw [if_neg (by have := c.toNat_lt; simp only [Bool.or_eq_true, decide_eq_true_eq]; omega)]
    simp
  refine wpC_any (wpAny_of_eq hb ?_)
  unfold Builtin.Bytes.checkResize
  refine wpC_bind (wpC_bind (ba_resize_ask ho ?_))
  refine wpC_false rfl ?_
  refine wpC_pure ?_
  refine wpC_any (ba_write ho (by simp; omega) fun h2 => ?_)
  exact wpC_pure (h _ (fun b o e hb => upd_keeps _ _ e hb) h2)
theorem bytes_new_ba {a : Addr} {b : Array UInt8} {Q : Value → Shared → Prop} (ho : s.heap.get? a = some (baOb b)) (hz : b.size ≤ 1000000) (h : ∀ t k, Q (.bytes b t) { s with toks := k }) :
    codeAny (model prog w) A (.call (.builtin "bytes.__new__") ⟨[.type "bytes", .ref a], []⟩) (wants Q E) s := by
  refine codeAny_of_tree ?_
  show wpAny _ A.in1 (do checkBuiltinCall "bytes.__new__" ⟨[.type "bytes", .ref a], []⟩; again (.builtin "bytes.__new__" ⟨[.type "bytes", .ref a], []⟩)) _ _ s
  refine wpAny_bind (wpAny_of_eq (F.bm_newCall _) (wpAny_pure ⟨plainId_quiet F.bm_plain _, codeAny_builtin F.bm_entry ?_⟩))
  rw [Around.under_plainId F.bm_plain _]
  have hT : s.TypeIs (.ref a) "bytearray" := ba_type ho
  unfold Builtin.«bytes.__new__»
  refine wpAny_bind (wpAny_of_eq (a := true) rfl ?_)
  refine bm_if_false rfl ?_
  refine wpAny_bind (wpAny_of_eq F.bm_sub ?_)
  refine bm_if_false rfl ?_
  refine wpAny_bind (wpAny_of_eq (F.bm_bind _) ?_)
  refine wpAny_bind (wpAny_of_eq (a := ()) rfl ?_)
  refine wpAny_bind (wpAny_of_eq (a := ()) rfl ?_)
  refine bm_if_false rfl ?_
  refine wpAny_bind (wpAny_specialOf hT BA.look_bytes ?_)
  refine wpAny_bind (wpAny_bind ?_)
  show wpAny _ _ (load a >>= _) _ _ _
  refine wpAny_bind (wpAny_load ho ?_)
  refine wpAny_pure (wpAny_pure ?_)
  refine bm_if_false rfl ?_
  refine wpAny_bind (wpAny_specialOf hT BA.look_index ?_)
  refine bm_if_true rfl ?_
  first
    | show wpAny _ _ (Builtin.Bytes.buffer? "bytes.__new__" (.ref a) true >>= _) _ _ _
    | (refine wpAny_bind ?_; show wpAny _ _ (Builtin.Bytes.buffer? "bytes.__new__" (.ref a) true >>= _) _ _ _)
  refine wpAny_bind ?_
  unfold Builtin.Bytes.buffer?
  refine wpAny_bind (wpAny_specialOf hT BA.look_buffer ?_)
  refine wpAny_bind (slotOwn hT BA.look_buffer (by decide +kernel) (by decide +kernel) BA.sub ?_)
  refine bm_if_false rfl ?_
  refine wpAny_bind (wpAny_specialOf hT BA.look_buffer ?_)
  refine wpAny_bind (ba_release ho ?_)
  refine bm_if_false rfl ?_
  refine wpAny_bind (ba_payload ho ?_)
  refine wpAny_pure ?_
  refine wpAny_bind (wpAny_rule ?_)
  refine wpAny_bind (wpAny_mkBytes ?_ (by rw [sizeLine_eq]; omega))
  show wpAny _ _ (if (Value.type "bytes" == Value.type "bytes") = true then _ else _) _ _ _
  refine bm_if_true (by decide) ?_
  first
    | exact wpAny_pure (h _ _)
    | exact wpAny_bind (wpAny_pure (wpAny_pure (h _ _)))
theorem call_bytes_ba {a : Addr} {b : Array UInt8} {Q : Value → Shared → Prop} (ho : s.heap.get? a = some (baOb b)) (hz : b.size ≤ 1000000) (h : ∀ t k, Q (.bytes b t) { s with toks := k }) :
    wpAny (model prog w) A (call (.type "bytes") [.ref a]) Q E s := by
  refine callType_codes (Q₁ := fun obj s₁ => s₁.TypeIs obj "bytes" ∧ Q obj s₁) F.bm_called (F.bm_typeCall _) F.entry_object_init
    (bytes_new_ba ho hz fun t k => ⟨PySem.W.typeIs_bytes _ _ _, h t k⟩) fun obj s₁ h₁ => ?_
  exact ⟨h₁.1, F.args_object_init_2 obj _, object_init_meets F.bm_called.init.lookup F.bm_called.made (by decide) prog w A.in1 _ s₁ ⟨h₁.1, rfl, h₁.2⟩⟩
theorem bytes_new_bytes {b : Array UInt8} {t : Tok} {Q : Value → Shared → Prop} (h : Q (.bytes b t) s) :
    codeAny (model prog w) A (.call (.builtin "bytes.__new__") ⟨[.type "bytes", .bytes b t], []⟩) (wants Q E) s := by
  refine codeAny_of_tree ?_
  show wpAny _ A.in1 (do checkBuiltinCall "bytes.__new__" ⟨[.type "bytes", .bytes b t], []⟩; again (.builtin "bytes.__new__" ⟨[.type "bytes", .bytes b t], []⟩)) _ _ s
  refine wpAny_bind (wpAny_of_eq (F.bm_newCall _) (wpAny_pure ⟨plainId_quiet F.bm_plain _, codeAny_builtin F.bm_entry ?_⟩))
  rw [Around.under_plainId F.bm_plain _]
  unfold Builtin.«bytes.__new__»
  refine wpAny_bind (wpAny_of_eq (a := true) rfl ?_)
  refine bm_if_false rfl ?_
  refine wpAny_bind (wpAny_of_eq F.bm_sub ?_)
  refine bm_if_false rfl ?_
  refine wpAny_bind (wpAny_of_eq (F.bm_bind _) ?_)
  refine wpAny_bind (wpAny_of_eq (a := ()) rfl ?_)
  refine wpAny_bind (wpAny_of_eq (a := ()) rfl ?_)
  refine bm_if_false rfl ?_
  refine wpAny_bind (wpAny_specialOf (typeIs_bytes _ _ _) BA.bytes_bytes ?_)
  refine wpAny_bind (wpAny_rule ?_)
  refine wpAny_bind (wpAny_of_eq (a := Value.type "bytes") rfl ?_)
  refine bm_if_true (by decide) ?_
  show wpAny _ _ (if (Value.type "bytes" == Value.type "bytes") = true then _ else _) _ _ _
  refine bm_if_true (by decide) ?_
  first
    | exact wpAny_pure h
    | exact wpAny_bind (wpAny_pure (wpAny_pure h))
theorem call_bytes_bytes {b : Array UInt8} {t : Tok} {Q : Value → Shared → Prop} (h : Q (.bytes b t) s) : wpAny (model prog w) A (call (.type "bytes") [.bytes b t]) Q E s := by
  refine callType_codes (Q₁ := fun obj s₁ => s₁.TypeIs obj "bytes" ∧ Q obj s₁) F.bm_called (F.bm_typeCall _) F.entry_object_init
    (bytes_new_bytes ⟨PySem.W.typeIs_bytes _ _ _, h⟩) fun obj s₁ h₁ => ?_
  exact ⟨h₁.1, F.args_object_init_2 obj _, object_init_meets F.bm_called.init.lookup F.bm_called.made (by decide) prog w A.in1 _ s₁ ⟨h₁.1, rfl, h₁.2⟩⟩
end
-- l07
section
variable {M : Model} {A : Around} {E : Value → Shared → Prop} {s : Shared} {env : Env}
theorem c_execs_nil {Q : Flow → Shared → Prop} (h : Q .next s) : wpC M A (execs [] env) Q E s := fun _ _ _ _ => h
noncomputable def Rest (M : Model) (A : Around) (rest : List Stmt) (env : Env) (Q : Flow → Shared → Prop) (E : Value → Shared → Prop) : Flow → Shared → Prop
  | .next, s' => wpC M A (execs rest env) Q E s'
  | f, s' => Q f s'
theorem c_execs_cons {st : Stmt} {rest : List Stmt} {Q : Flow → Shared → Prop} (h : wpC M A (exec st env) (Rest M A rest env Q E) E s) : wpC M A (execs (st :: rest) env) Q E s := by
  rw [execs_cons]
  refine wpC_bind (wpC_mono h (fun f s' h' => ?_) fun _ _ x => x)
  cases f <;> first | exact h' | exact wpC_pure h'
theorem rest_next {rest : List Stmt} {Q : Flow → Shared → Prop} (h : wpC M A (execs rest env) Q E s) : Rest M A rest env Q E .next s := h
theorem rest_ret {rest : List Stmt} {Q : Flow → Shared → Prop} {v : Value} (h : Q (.ret v) s) : Rest M A rest env Q E (.ret v) s := h
theorem c_pure_stmt {st : Stmt} {rest : List Stmt} {Q : Flow → Shared → Prop} (h : wpAny M A (exec st env) (Rest M A rest env Q E) E s) : wpC M A (execs (st :: rest) env) Q E s := c_execs_cons (ofAny h)
theorem c_Return {e : Expr} {pos : Pos} {Q : Flow → Shared → Prop} (h : wpC M A (eval e env) (fun v => Q (.ret v)) E s) : wpC M A (exec (.Return (some e) pos) env) Q E s := by
  rw [exec_Return_some]
  exact wpC_at (wpC_bind (wpC_mono h (fun v s' h' => wpC_pure h') fun _ _ x => x))
theorem c_If {test : Expr} {body orelse : List Stmt} {pos : Pos} {Q : Flow → Shared → Prop}
    (h : wpC M A (isTrue test env (eval test env)) (fun b s₂ => if b = true then wpC M A (execs body env) Q E s₂ else wpC M A (execs orelse env) Q E s₂) E s) : wpC M A (exec (.If test body orelse pos) env) Q E s := by
  rw [exec_If]
  refine wpC_at (wpC_bind (wpC_mono h (fun b s' h' => ?_) fun _ _ x => x))
  cases b <;> exact h'
theorem c_Expr {e : Expr} {pos : Pos} {Q : Flow → Shared → Prop} {prog : Program} {w : World} (h : wpC (model prog w) A (eval e env) (fun _ => Q .next) E s) (hi : interactive env = false := by k_dflt rfl) (hs : swapsWith e none pos.line env = pure false := by k_dflt rfl) :
    wpC (model prog w) A (exec (.Expr e pos) env) Q E s := by
  rw [exec_Expr env e pos hi hs]
  exact wpC_at (wpC_bind (wpC_mono h (fun v s' h' => ofAny (wpAny_dropValue h')) fun _ _ x => x))
theorem c_Assign_Name {x : Str} {pos' pos : Pos} {value : Expr} {Q : Flow → Shared → Prop} (h : wpC M A (eval value env) (fun v s₁ => wpAny M A (storeName env x v) (fun _ => Q .next) E s₁) E s)
    (hs : swapsWith value (some (.Name x pos')) pos.line env = pure false := by k_dflt rfl) : wpC M A (exec (.Assign [.Name x pos'] value pos) env) Q E s := by
  rw [exec_Assign_Name env x pos' value pos hs]
  refine wpC_at (wpC_bind (wpC_mono h (fun v s' h' => ?_) fun _ _ x => x))
  exact ofAny (wpAny_bind (wpAny_standAt (wpAny_bind (wpAny_bindName (wpAny_mono h' (fun _ _ q => wpAny_pure q) fun _ _ x => x)))))
theorem c_BinOp {l r : Expr} {op : Operator} {pos : Pos} {Q : Value → Shared → Prop} (h : wpC M A (eval l env) (fun a s₁ => wpC M A (eval r env) (fun b s₂ => wpAny M A (binaryOp op a b) Q E s₂) E s₁) E s) : wpC M A (eval (.BinOp l op r pos) env) Q E s := by
  rw [eval_BinOp]
  refine wpC_bind (wpC_mono h (fun a s₁ h₁ => wpC_bind (wpC_holding (wpC_mono h₁ (fun b s₂ h₂ => wpC_at (ofAny (wpAny_operate' h₂))) fun _ _ x => x))) fun _ _ x => x)
theorem c_Compare1 {l r : Expr} {op : CmpOp} {pos : Pos} {Q : Value → Shared → Prop} (h : wpC M A (eval l env) (fun a s₁ => wpC M A (eval r env) (fun b s₂ => wpAny M A (compareOp op a b) Q E s₂) E s₁) E s)
    (hm : behindInMarks op r = false := by k_dflt rfl) : wpC M A (eval (.Compare l [op] [r] pos) env) Q E s := by
  rw [eval_Compare1, markedBehindIn_of_false hm]
  refine wpC_bind (wpC_mono h (fun a s₁ h₁ => wpC_bind (wpC_holding (wpC_mono h₁ (fun b s₂ h₂ => wpC_at (ofAny (wpAny_operate' h₂))) fun _ _ x => x))) fun _ _ x => x)
theorem c_isTrue_Compare1 {l r : Expr} {op : CmpOp} {pos : Pos} {whole : Sem Value} {Q : Bool → Shared → Prop}
    (h : wpC M A (eval l env) (fun a s₁ => wpC M A (eval r env) (fun b s₂ => wpAny M A (compareOp op a b) (fun c s₃ => wpAny M A (truthy c) Q E s₃) E s₂) E s₁) E s)
    (hm : behindInMarks op r = false := by k_dflt rfl) : wpC M A (isTrue (.Compare l [op] [r] pos) env whole) Q E s := by
  rw [isTrue_Compare1, markedBehindIn_of_false hm]
  refine wpC_bind (wpC_mono h (fun a s₁ h₁ => wpC_bind (wpC_holding (wpC_mono h₁ (fun b s₂ h₂ => wpC_at (ofAny (wpAny_bind (wpAny_operate' (wpAny_mono h₂ (fun c s₃ h₃ => wpAny_holding h₃) fun _ _ x => x))))) fun _ _ x => x))) fun _ _ x => x)
theorem c_IfExp {test body orelse : Expr} {pos : Pos} {Q : Value → Shared → Prop} (h : wpC M A (isTrue test env (eval test env)) (fun c s₂ => if c = true then wpC M A (eval body env) Q E s₂ else wpC M A (eval orelse env) Q E s₂) E s) :
    wpC M A (eval (.IfExp test body orelse pos) env) Q E s := by
  rw [eval_IfExp]
  refine wpC_bind (wpC_mono h (fun c s₂ h₂ => ?_) fun _ _ x => x)
  cases c <;> exact h₂
theorem c_isTrue_not {x : Expr} {pos : Pos} {whole : Sem Value} {Q : Bool → Shared → Prop} (h : wpC M A (isTrue x env (eval x env)) (fun c s' => Q (!c) s') E s) : wpC M A (isTrue (.UnaryOp .Not x pos) env whole) Q E s := by
  show wpC M A (do return !(← isTrue x env (eval x env))) Q E s
  exact wpC_bind (wpC_mono h (fun c s' h' => wpC_pure h') fun _ _ x => x)
theorem c_isTrue_or_nil {pos : Pos} {whole : Sem Value} {Q : Bool → Shared → Prop} (h : Q false s) : wpC M A (isTrue (.BoolOp .Or [] pos) env whole) Q E s := wpC_pure (a := false) h
theorem c_isTrue_or {x : Expr} {rest : List Expr} {pos : Pos} {whole : Sem Value} {Q : Bool → Shared → Prop}
    (h : wpC M A (isTrue x env (eval x env)) (fun c s' => if c = true then Q true s' else wpC M A (isTrue (.BoolOp .Or rest pos) env whole) Q E s') E s) : wpC M A (isTrue (.BoolOp .Or (x :: rest) pos) env whole) Q E s := by
  show wpC M A (do
    match BoolOp.Or, ← isTrue x env (eval x env) with
    | .And, false => pure false
    | .Or, true => pure true
    | _, _ => allTrue .Or rest env) Q E s
  refine wpC_bind (wpC_mono h (fun c s' h' => ?_) fun _ _ x => x)
  cases c
  · exact h'
  · exact wpC_pure h'
theorem c_isTrue_and_nil {pos : Pos} {whole : Sem Value} {Q : Bool → Shared → Prop} (h : Q true s) : wpC M A (isTrue (.BoolOp .And [] pos) env whole) Q E s := wpC_pure (a := true) h
theorem c_isTrue_and {x : Expr} {rest : List Expr} {pos : Pos} {whole : Sem Value} {Q : Bool → Shared → Prop}
    (h : wpC M A (isTrue x env (eval x env)) (fun c s' => if c = true then wpC M A (isTrue (.BoolOp .And rest pos) env whole) Q E s' else Q false s') E s) : wpC M A (isTrue (.BoolOp .And (x :: rest) pos) env whole) Q E s := by
  show wpC M A (do
    match BoolOp.And, ← isTrue x env (eval x env) with
    | .And, false => pure false
    | .Or, true => pure true
    | _, _ => allTrue .And rest env) Q E s
  refine wpC_bind (wpC_mono h (fun c s' h' => ?_) fun _ _ x => x)
  cases c
  · exact wpC_pure h'
  · exact h'
theorem c_isTrue_plain {e : Expr} {whole : Sem Value} {Q : Bool → Shared → Prop} (h : wpC M A whole (fun v s₁ => wpAny M A (truthy v) Q E s₁) E s)
    (he : isTrue e env whole = (do let v ← whole; standAt e.pos; holding [v] (truthy v)) := by k_dflt rfl) : wpC M A (isTrue e env whole) Q E s := by
  rw [he]
  exact wpC_bind (wpC_mono h (fun v s₁ h₁ => wpC_at (wpC_holding (ofAny h₁))) fun _ _ x => x)
theorem c_And2 {x y : Expr} {pos : Pos} {Q : Value → Shared → Prop} (h : wpC M A (eval x env) (fun v s₁ => wpAny M A (truthy v) (fun b s₂ => if b = true then wpC M A (eval y env) Q E s₂ else Q v s₂) E s₁) E s) : wpC M A (eval (.BoolOp .And [x, y] pos) env) Q E s := by
  have e : eval (.BoolOp .And [x, y] pos) env = (do
      let v ← eval x env
      standAt pos
      let t ← holding [v] (truthy v)
      match BoolOp.And, t with
      | .And, false | .Or, true => pure v
      | _, _ => eval y env) := rfl
  rw [e]
  refine wpC_bind (wpC_mono h (fun v s₁ h₁ => wpC_at (wpC_any (wpAny_holding (wpAny_mono h₁ (fun b s₂ h₂ => ?_) fun _ _ x => x)))) fun _ _ x => x)
  cases b
  · exact wpC_pure h₂
  · exact h₂
theorem c_Tuple {elts : List Expr} {k : Nat} {pos : Pos} {Q : Value → Shared → Prop} (h : wpC M A (spliced (backTo pos (starEach elts env))) (fun vs s₁ => wpAny M A (newTuple vs) Q E s₁) E s) : wpC M A (eval (.Tuple elts k pos) env) Q E s := by
  show wpC M A (do standAt pos; newTuple (← spliced (backTo pos (starEach elts env)))) Q E s
  exact wpC_at (wpC_bind (wpC_mono h (fun _ _ q => ofAny q) fun _ _ x => x))
theorem c_spliced_none {pos : Pos} {Q : List Value → Shared → Prop} (h : Q [] s) : wpC M A (spliced (backTo pos (starEach [] env))) Q E s := wpC_pure h
theorem c_spliced_more {e : Expr} {rest : List Expr} {pos : Pos} {Q : List Value → Shared → Prop}
    (h : wpC M A (eval e env) (fun v s₁ => wpC M A (spliced (backTo pos (starEach rest env))) (fun vs s₂ => Q (v :: vs) s₂) E s₁) E s)
    (he : starEach (e :: rest) env = (false, eval e env) :: starEach rest env := by k_dflt rfl) : wpC M A (spliced (backTo pos (starEach (e :: rest) env))) Q E s := by
  rw [he]
  show wpC M A (spliced ((false, eval e env) :: backTo pos (starEach rest env))) Q E s
  rw [spliced]
  refine wpC_bind (wpC_mono h (fun v s₁ h₁ => ?_) fun _ _ x => x)
  simp only [Bool.false_eq_true, if_false]
  exact wpC_bind (wpC_pure (wpC_bind (wpC_holding (wpC_mono h₁ (fun vs s₂ h₂ => wpC_pure h₂) fun _ _ x => x))))
theorem c_evalArgs {f : Value} {x : Sem Value} {rest : List (Bool × Sem Value)} {Q : Args → Shared → Prop} (h : wpC M A (spliced ((false, x) :: rest)) (fun vs s' => Q ⟨vs, []⟩ s') E s) : wpC M A (evalArgs f true ((false, x) :: rest) []) Q E s := by
  unfold evalArgs
  show wpC M A (spliced ((false, x) :: rest) >>= _) Q E s
  refine wpC_bind (wpC_mono h (fun vs s' h' => ?_) fun _ _ x => x)
  refine wpC_holding ?_
  exact wpC_bind (wpC_pure (wpC_bind (wpC_pure (wpC_pure h'))))
theorem c_callWith_of {P : Heap → Prop} {pos : Pos} {f : Value} {first : List Value} {Q : Value → Shared → Prop} {args : List (Bool × Sem Value)} {keywords : List (Option Str × Sem Value)} (hplain : (args.any (·.1) || keywords.any (·.1.isNone)) = false)
    (hk : ∀ h, P h → ∃ k, (k = Keeper.frame ∨ k = Keeper.machine ∨ k = Keeper.boundFrame) ∧ Looks M h (keeperOf f) k)
    (h : wpC M A (evalArgs f true args keywords) (fun a s₁ => P s₁.heap ∧ wpC M A (call f (first ++ a.pos) a.kw) Q E s₁) E s) : wpC M A (callWith pos f first args keywords) Q E s := by
  unfold callWith
  refine wpC_bind (wpC_holding (wpC_mono h (fun a s₁ h₁ => wpC_bind (wpC_standAt ?_)) fun _ _ x => x))
  obtain ⟨k, hk', L⟩ := hk _ h₁.1
  simp only [hplain]
  refine wpC_any (L.here ?_)
  have tail : ∀ {t : Sem Value}, wpC M A t Q E s₁ → wpC M A (t >>= fun r => holding [r] point >>= fun _ => pure r) Q E s₁ :=
    fun ht => wpC_bind (wpC_mono ht (fun r s₂ hr => wpC_any (wpAny_holding (wpAny_point (wpC_pure hr)))) fun _ _ x => x)
  have marked (mk : Value) : wpC M A (callMarked mk f (first ++ a.pos) a.kw) Q E s₁ := by unfold callMarked; exact wpC_keep h₁.2
  rcases hk' with rfl | rfl | rfl <;> dsimp only <;> first | exact tail h₁.2 | (split <;> first | exact tail h₁.2 | exact tail (marked _))
/-- a def of the text, or a built-in -/
noncomputable def Kpt (M : Model) (f : Value) (h : Heap) : Prop := ∃ k, (k = Keeper.frame ∨ k = Keeper.machine ∨ k = Keeper.boundFrame) ∧ Looks M h (keeperOf f) k
theorem Kpt.ofK {K : Frag} {f : Value} {h : Heap} (hk : keepIn K f = true) (X : K.In h) : Kpt M f h := keeps_K hk h X
theorem Kpt.type {T : String} {h : Heap} : Kpt M (.type T) h := ⟨.machine, .inr (.inl rfl), Looks.of_pure rfl⟩
theorem Kpt.builtin {T : String} {h : Heap} : Kpt M (.builtin T) h := ⟨.machine, .inr (.inl rfl), Looks.of_pure rfl⟩
theorem c_callWith {pos : Pos} {f : Value} {first : List Value} {e : Expr} {rest : List Expr} {Q : Value → Shared → Prop}
    (h : wpC M A (spliced (backTo pos (starEach (e :: rest) env))) (fun vs s₁ => Kpt M f s₁.heap ∧ wpC M A (call f (first ++ vs)) Q E s₁) E s)
    (he : starEach (e :: rest) env = (false, eval e env) :: starEach rest env := by k_dflt rfl) (hplain : (backTo pos (starEach rest env)).any (·.1) = false := by k_dflt rfl) :
    wpC M A (callWith pos f first (backTo pos (starEach (e :: rest) env)) []) Q E s := by
  rw [he] at h ⊢
  exact c_callWith_of (P := Kpt M f) (by show ((false || (backTo pos (starEach rest env)).any (·.1)) || false) = false; rw [hplain]; rfl) (fun h k => k) (c_evalArgs h)
theorem c_callWith0 {pos : Pos} {f : Value} {first : List Value} {Q : Value → Shared → Prop} (k : Kpt M f s.heap) (h : wpC M A (call f (first ++ [])) Q E s) : wpC M A (callWith pos f first (backTo pos (starEach [] env)) []) Q E s :=
  c_callWith_of (P := Kpt M f) rfl (fun h k => k) (ofAny (evalArgs_nil3 ⟨k, h⟩))
theorem c_Call {id : Str} {p pos : Pos} {args : List Expr} {Q : Value → Shared → Prop} (h : wpAny M A (eval (.Name id p) env) (fun f s₁ => wpC M A (callWith pos f [] (backTo pos (starEach args env)) []) Q E s₁) E s) :
    wpC M A (eval (.Call (.Name id p) args [] pos) env) Q E s := by
  have e : eval (.Call (.Name id p) args [] pos) env = (do callWith pos (← eval (.Name id p) env) [] (backTo pos (starEach args env)) []) := rfl
  rw [e]
  exact wpC_any h
theorem c_MethodCall {o : Expr} {name : Str} {apos pos : Pos} {args : List Expr} {pl : Sem Bool} {Q : Value → Shared → Prop}
    (h : wpAny M A (eval o env) (fun ov s₁ => wpAny M A (getMethod ov name pl) (fun fx s₂ => wpC M A (callWith pos fx.1 fx.2 (backTo pos (starEach args env)) []) Q E s₂) E s₁) E s)
    (he : eval (.Call (.Attribute o name apos) args [] pos) env = (do
      let ov ← eval o env
      standAt apos.atName
      let (f, first) ← holding [ov] (getMethod ov name pl)
      callWith pos f first (backTo pos (starEach args env)) []) := by k_dflt rfl) : wpC M A (eval (.Call (.Attribute o name apos) args [] pos) env) Q E s := by
  rw [he]
  exact wpC_any (wpAny_mono h (fun ov s₁ h₁ => wpC_at (wpC_any (wpAny_holding h₁))) fun _ _ x => x)
theorem oa_eval {e : Expr} {Q : Value → Shared → Prop} (h : wpAny M A (eval e env) Q E s) : wpC M A (eval e env) Q E s := ofAny h
theorem oa_call {f : Value} {as : List Value} {kw : List (Str × Value)} {Q : Value → Shared → Prop} (h : wpAny M A (call f as kw) Q E s) : wpC M A (call f as kw) Q E s := ofAny h
theorem oa_raise {a b : Option Expr} {pos : Pos} {Q : Flow → Shared → Prop} (h : wpAny M A (exec (.Raise a b pos) env) Q E s) : wpC M A (exec (.Raise a b pos) env) Q E s := ofAny h
theorem oa_attr {o v : Expr} {x : Str} {p pos : Pos} {Q : Flow → Shared → Prop} (h : wpAny M A (exec (.Assign [.Attribute o x p] v pos) env) Q E s) : wpC M A (exec (.Assign [.Attribute o x p] v pos) env) Q E s := ofAny h
theorem c_cw {pos : Pos} {f : Value} {first : List Value} {args : List (Bool × Sem Value)} {kw : List (Option Str × Sem Value)} {Q : Value → Shared → Prop} (h : wpC M A (callWith pos f first args kw) Q E s) : wpC M A (callWith pos f first args kw) Q E s := h
end
local macro_rules | `(tactic| walk_at "mine dl") => `(tactic| (try dsimp only [List.cons_append, List.nil_append, List.append_nil]))
local macro_rules | `(tactic| walk_at "mine c") => `(tactic| first | ((with_reducible show Mine.wpC _ _ (call _ _ _) _ _ _); walk_at "mine cc") | (with_reducible first | refine Mine.rest_next ?_ | refine Mine.rest_ret ?_ | refine Mine.c_execs_nil ?_ | refine Mine.c_execs_cons ?_ | refine Mine.c_Assign_Name ?_ | refine Mine.c_Expr ?_ | refine Mine.c_If ?_ | refine Mine.c_Return ?_ | refine Mine.c_spliced_more ?_ | refine Mine.c_isTrue_Compare1 ?_ | refine Mine.c_isTrue_and_nil ?_ | refine Mine.c_isTrue_and ?_ | refine Mine.c_isTrue_or_nil ?_ | refine Mine.c_isTrue_or ?_ | refine Mine.c_isTrue_not ?_ | refine Mine.c_isTrue_plain ?_ | refine Mine.c_Tuple ?_ | refine Mine.c_And2 ?_ | refine Mine.c_Compare1 ?_ | refine Mine.c_BinOp ?_ | refine Mine.c_IfExp ?_ | refine Mine.c_MethodCall ?_ | refine Mine.c_Call ?_ | refine Mine.oa_eval ?_ | refine Mine.oa_call ?_ | refine Mine.oa_raise ?_ | refine Mine.oa_attr ?_) | ((with_reducible refine Mine.c_spliced_none ?_); try ((with_reducible refine And.intro ?kpt ?_); (case kpt => walk_at "mine kpt"); walk_at "mine dl")) | ((with_reducible refine Mine.c_cw ?_); (try dsimp only); first | with_reducible refine Mine.c_callWith ?_ | ((with_reducible refine Mine.c_callWith0 ?kpt ?_); (case kpt => walk_at "mine kpt"); walk_at "mine dl")))
local macro_rules | `(tactic| walk_at "mine kpt") => `(tactic| first | (refine' Mine.Kpt.ofK ?hk ?hX; (case hX => first | with_reducible assumption | exact Frag.In.keeps (by with_reducible assumption) (Fr.keep (by with_reducible assumption)) | k_in); (case hk => k_is)) | with_reducible exact Mine.Kpt.type | with_reducible exact Mine.Kpt.builtin)
local macro_rules | `(tactic| walk_at "mine go") => `(tactic| repeat' (first | (k_unfold; (try dsimp only)) | walk_at "mine c" | walk1 | (dsimp only; walk_at "mine c") | (dsimp only; walk1) | (leave1; (try dsimp only)) | fail "no step"))
-- l08
section
variable {prog : Program} {w : World} {A : Around} {E : Value → Shared → Prop} {R : Result → Shared → Prop} {s : Shared} {env : Env} {h₀ : Heap} {L : Addr} {m : Str → Option Value}
theorem c_noted {α : Type} {t : Sem α} {Q : α → Shared → Prop} (h : wpC (model prog w) A t Q (notedBy (model prog w) A env E) s) : wpC (model prog w) A (t.onRaise fun x => do noteFrame x env; theTreesLotGoes x) Q E s :=
  wpC_onRaise (wpC_mono h (fun _ _ q => q) fun _ _ hx => ofAny (wpAny_bind (wpAny_mono hx (fun _ _ e => wpAny_theTreesLotGoes e) fun _ _ e => e)))
theorem codeC_block {body : List Stmt} (h : wpC (model prog w) A (execs body env) (fun f s₃ => R (.ok f) s₃) (notedBy (model prog w) A env fun e s' => R (.error e) s') s) : codeC (model prog w) A (.block body env) R s := by
  refine codeC_of_tree rfl ?_
  rw [Around.under_of_weight rfl]
  show wpC _ _ (do return Fin.done (← (execs body env).onRaise (fun x => do noteFrame x env; theTreesLotGoes x))) _ _ s
  exact wpC_bind (c_noted (wpC_mono h (fun f s' h' => wpC_pure h') fun _ _ h' => h'))
theorem codeC_loop2 {c : Code} (ok : okCode c = true) (hq : c.quiet = true) (I : Nat → Shared → Prop)
    (turn : ∀ n s, I n s → wpC (model prog w) (A.under c) ((model prog w).den c) (fun fin s' => match fin with
      | .done f => R (.ok f) s'
      | .again c' => (c' = c ∧ ∃ m, m < n ∧ I m s') ∨ (c'.quiet = true ∧ codeC (model prog w) A c' R s')) (fun e s' => R (.error e) s') s)
    (n : Nat) (h : I n s) : codeC (model prog w) A c R s := by
  induction n using Nat.strongRecOn generalizing s with
  | ind n ih =>
    refine codeC_of_tree ok (wpC_mono (turn n s h) (fun fin s' hf => ?_) fun _ _ h' => h')
    cases fin with
    | done f => exact hf
    | again c' =>
      rcases hf with ⟨rfl, m, hm, hI⟩ | hf
      · exact ⟨hq, ih m hm hI⟩
      · exact hf
theorem codeC_while {test : Expr} {body orelse : List Stmt} (I : Nat → Shared → Prop)
    (turn : ∀ n s, I n s →
      wpC (model prog w) A (isTrue test env (eval test env)) (fun b s₂ =>
        if b = true then wpC (model prog w) A (execs body env) (fun f s₃ => match f with
            | .next | .cont => ∃ m, m < n ∧ I m s₃
            | .brk => R (.ok .next) s₃
            | .ret v => R (.ok (.ret v)) s₃) (notedBy (model prog w) A env fun e s' => R (.error e) s') s₂
        else wpC (model prog w) A (execs orelse env) (fun f s₃ => R (.ok f) s₃) (notedBy (model prog w) A env fun e s' => R (.error e) s') s₂)
        (notedBy (model prog w) A env fun e s' => R (.error e) s') s)
    (n : Nat) (h : I n s) : codeC (model prog w) A (.whileLoop test body orelse env) R s := by
  refine codeC_loop rfl rfl I (fun n s hI => ?_) n h
  rw [Around.under_of_weight rfl]
  show wpC _ A ((whileTurn test body orelse env).onRaise (fun x => do noteFrame x env; theTreesLotGoes x)) _ _ s
  refine c_noted ?_
  simp only [whileTurn]
  refine wpC_bind (wpC_mono (turn n s hI) (fun b s₂ h₂ => ?_) fun _ _ h' => h')
  cases b with
  | false =>
    simp only [Bool.false_eq_true, if_false] at h₂ ⊢
    exact wpC_bind (wpC_mono h₂ (fun f s₃ h₃ => wpC_pure h₃) fun _ _ h' => h')
  | true =>
    simp only [if_true] at h₂ ⊢
    refine wpC_bind (wpC_mono h₂ (fun f s₃ h₃ => ?_) fun _ _ h' => h')
    cases f with
    | next => exact wpC_pure ⟨rfl, h₃⟩
    | cont => exact wpC_pure ⟨rfl, h₃⟩
    | brk => exact wpC_pure h₃
    | ret v => exact wpC_pure h₃
theorem codeC_for {target : Expr} {it : Value} {body orelse : List Stmt} (I : Nat → Shared → Prop)
    (turn : ∀ n s, I n s → wpAny (model prog w) A (pyNext it) (fun r s₁ => match r with
      | none => wpC (model prog w) A (execs orelse env) (fun f s₃ => R (.ok f) s₃) (notedBy (model prog w) A env fun e s' => R (.error e) s') s₁
      | some v => wpAny (model prog w) A (assign target env v) (fun _ s₂ => wpC (model prog w) A (execs body env) (fun f s₃ => match f with
          | .next | .cont => ∃ m, m < n ∧ I m s₃
          | .brk => R (.ok .next) s₃
          | .ret v => R (.ok (.ret v)) s₃) (notedBy (model prog w) A env fun e s' => R (.error e) s') s₂) (notedBy (model prog w) A env fun e s' => R (.error e) s') s₁) (notedBy (model prog w) A env fun e s' => R (.error e) s') s)
    (n : Nat) (h : I n s) (ht : ∀ v, letOwnedTupleGo target it v = pure () := by intro _; rfl) : codeC (model prog w) A (.forLoop target it body orelse env) R s := by
  refine codeC_loop2 rfl rfl I (fun n s hI => ?_) n h
  rw [Around.under_of_weight rfl]
  show wpC _ _ ((forTurn target it body orelse env).onRaise (fun x => do noteFrame x env; theTreesLotGoes x)) _ _ s
  refine c_noted ?_
  simp only [forTurn]
  refine wpC_at (wpC_any (wpAny_onRaise (wpAny_mono (turn n s hI) (fun r s₁ h₁ => ?_) fun _ _ h' => wpAny_standAt h')))
  cases r with
  | none => exact wpC_pure (.inr ⟨rfl, codeC_block h₁⟩)
  | some v =>
    refine wpC_any (wpAny_of_eq (ht v) ?_)
    refine wpC_any (wpAny_mono h₁ (fun _ s₂ h₂ => wpC_bind (wpC_mono h₂ (fun f s₃ h₃ => ?_) fun _ _ h' => h')) fun _ _ h' => h')
    cases f with
    | next => exact wpC_pure (.inl ⟨rfl, h₃⟩)
    | cont => exact wpC_pure (.inl ⟨rfl, h₃⟩)
    | brk => exact wpC_pure h₃
    | ret v => exact wpC_pure h₃
theorem c_runOwn {c : Code} {h : Option Value} {Q : Flow → Shared → Prop}
    (hc : codeC (model prog w) (A.mark h) c (fun r s' => match r with | .ok f => Q f s' | .error e => cameBackBy (model prog w) A env E e s') s) (hnb : h ≠ some byPass := by intro x; cases x) :
    wpC (model prog w) A (runOwn c env h) Q E s := by
  unfold runOwn
  exact wpC_onRaise (wpC_mono (wpC_run (E := cameBackBy (model prog w) A env E) hc hnb) (fun _ _ q => q) fun _ _ q => ofAny q)
theorem c_While {test : Expr} {body orelse : List Stmt} {pos : Pos} {Q : Flow → Shared → Prop}
    (h : codeC (model prog w) A (.whileLoop test body orelse env) (fun r s' => match r with | .ok f => Q f s' | .error e => cameBackBy (model prog w) A env E e s') s) :
    wpC (model prog w) A (exec (.While test body orelse pos) env) Q E s := by
  rw [exec_While]; exact wpC_at (c_runOwn h)
theorem c_For {target iter : Expr} {body orelse : List Stmt} {pos : Pos} {Q : Flow → Shared → Prop}
    (h : wpAny (model prog w) A (eval iter env) (fun x s₁ => wpAny (model prog w) A (pyIter x) (fun it s₂ =>
      codeC (model prog w) A (.forLoop target it body orelse env) (fun r s' => match r with | .ok f => Q f s' | .error e => cameBackBy (model prog w) A env E e s') s₂) E s₁) E s)
    (hs : ∀ x, foldedSetIterable iter env x = pure x := by intro _; rfl) : wpC (model prog w) A (exec (.For target iter body orelse pos) env) Q E s := by
  rw [exec_For]
  refine wpC_at (wpC_any (wpAny_mono h (fun x s₁ h₁ => ?_) fun _ _ e => e))
  refine wpC_any (wpAny_of_eq (hs x) (wpC_at (wpC_any (wpAny_holding (wpAny_mono h₁ (fun it s₂ h₂ => c_runOwn h₂) fun _ _ e => e)))))
end
-- l09
section
variable {prog : Program} {w : World} {A : Around} {Q : Flow → Shared → Prop} {E E' : Value → Shared → Prop} {s : Shared} {env : Env} {h₀ : Heap} {L : Addr} {m : Str → Option Value}
noncomputable def Turned {σ : Type} (h₀ : Heap) (L : Addr) (m : Str → Option Value) (s : Shared) (I : σ → Prop) (led : σ → List (Addr × Obj)) (μ : σ → Nat) (c : σ) (s₃ : Shared) : Prop :=
  ∃ c' h' tk' led', s₃ = { s with heap := h', toks := tk' } ∧ Fr h₀ L h' m ∧ News h₀ L h' led' ∧ (∀ q ∈ led c', q ∈ led') ∧ I c' ∧ μ c' < μ c
theorem turned {σ : Type} {I : σ → Prop} {led : σ → List (Addr × Obj)} {μ : σ → Nat} {c : σ} {h' : Heap} {tk' : Nat} {led' : List (Addr × Obj)} (c' : σ) (F : Fr h₀ L h' m) (N : News h₀ L h' led') (hs : ∀ q ∈ led c', q ∈ led') (hI : I c') (hm : μ c' < μ c) :
    Turned h₀ L m s I led μ c { s with heap := h', toks := tk' } := ⟨c', h', tk', led', rfl, F, N, hs, hI, hm⟩
theorem c_while_w {σ : Type} {test : Expr} {body : List Stmt} {pos : Pos} (I : σ → Prop) (led : σ → List (Addr × Obj)) (μ : σ → Nat) (c₀ : σ)
    (hE : ∀ e s, E' e s → notedBy (model prog w) A env (fun e s' => cameBackBy (model prog w) A env E e s') e s)
    (F : Fr h₀ L s.heap m) (N : News h₀ L s.heap (led c₀)) (h0 : I c₀)
    (turn : ∀ c h tk, I c → Fr h₀ L h m → News h₀ L h (led c) →
      wpC (model prog w) A (isTrue test env (eval test env)) (fun b s₂ =>
        if b = true then wpC (model prog w) A (execs body env) (fun f s₃ => match f with | .ret v => Q (.ret v) s₃ | .brk => Q .next s₃ | _ => Turned h₀ L m s I led μ c s₃) E' s₂ else Q .next s₂) E' { s with heap := h, toks := tk }) :
    wpC (model prog w) A (exec (.While test body [] pos) env) Q E s := by
  refine c_While (codeC_while (fun n s' => ∃ c h tk, s' = { s with heap := h, toks := tk } ∧ I c ∧ μ c = n ∧ Fr h₀ L h m ∧ News h₀ L h (led c)) ?_ (μ c₀) ⟨c₀, s.heap, s.toks, rfl, h0, rfl, F, N⟩)
  rintro n s' ⟨c, h, tk, rfl, hI, rfl, F₁, N₁⟩
  refine wpC_mono (turn c h tk hI F₁ N₁) (fun b s₂ h₂ => ?_) hE
  cases b with
  | false =>
    simp only [Bool.false_eq_true, if_false] at h₂ ⊢
    exact c_execs_nil h₂
  | true =>
    simp only [if_true] at h₂ ⊢
    refine wpC_mono h₂ (fun f s₃ h₃ => ?_) hE
    cases f with
    | ret v => exact h₃
    | brk => exact h₃
    | next =>
      obtain ⟨c', h', tk', led', e, F', N', hs, hI', hm'⟩ := h₃
      exact ⟨μ c', hm', c', h', tk', e, hI', rfl, F', fun q hq => N' q (hs q hq)⟩
    | cont =>
      obtain ⟨c', h', tk', led', e, F', N', hs, hI', hm'⟩ := h₃
      exact ⟨μ c', hm', c', h', tk', e, hI', rfl, F', fun q hq => N' q (hs q hq)⟩
noncomputable def IsIt (b : Array UInt8) (t : Tok) (i : Nat) (o : Obj) : Prop := o.cls = .type "bytes_iterator" ∧ o.data = .fields #[.bytes b t, .int i 0]
noncomputable def TurnedF (h₀ : Heap) (L : Addr) (x : Str) (m : Str → Option Value) (s : Shared) (led : List (Addr × Obj)) (s₃ : Shared) : Prop :=
  ∃ h' tk' led' u, s₃ = { s with heap := h', toks := tk' } ∧ Fr h₀ L h' (fun y => if y = x then u else m y) ∧ News h₀ L h' led' ∧ (∀ q ∈ led, q ∈ led')
theorem turnedF {x : Str} {led led' : List (Addr × Obj)} {h' : Heap} {tk' : Nat} {u : Option Value} (F : Fr h₀ L h' (fun y => if y = x then u else m y)) (N : News h₀ L h' led') (hs : ∀ q ∈ led, q ∈ led') :
    TurnedF h₀ L x m s led { s with heap := h', toks := tk' } := ⟨h', tk', led', u, rfl, F, N, hs⟩
theorem fresh_none (F : Fr h₀ L s.heap m) : h₀.get? s.heap.objs.size = none := by
  cases e : h₀.get? s.heap.objs.size with
  | none => rfl
  | some o => exact absurd (Heap.lt_size (F.keep _ _ e)) (Nat.lt_irrefl _)
theorem c_for_bytes {x : Str} {xp pos : Pos} {iter : Expr} {body : List Stmt} {b : Array UInt8} {tb : Tok} (led : Nat → List (Addr × Obj))
    (hx : env.kindOf x = some .local) (hL : env.locals = L) (hh : A.handled = none) (hp : (env.scope.kind == .class || (env.scope.kind == .module && env.locals != env.globals)) = false)
    (hE : ∀ e s, E' e s → notedBy (model prog w) A env (fun e s' => cameBackBy (model prog w) A env E e s') e s)
    (F : Fr h₀ L s.heap m) (N : News h₀ L s.heap (led 0))
    (hi : ∀ Q' : Value → Shared → Prop, Q' (.bytes b tb) s → wpAny (model prog w) A (eval iter env) Q' E s)
    (turn : ∀ I oI i c t h tk, b[i]? = some c → (∀ q ∈ led 0, q.1 < I) → Fr h₀ L h (fun y => if y = x then some (.int (c.toNat : Int) t) else m y) → News h₀ L h (led i ++ [(I, oI)]) →
      wpC (model prog w) A (execs body env) (fun f s₃ => match f with | .ret v => Q (.ret v) s₃ | .brk => Q .next s₃ | _ => TurnedF h₀ L x m s (led (i + 1) ++ [(I, oI)]) s₃) E' { s with heap := h, toks := tk })
    (done : ∀ u h tk, Fr h₀ L h (fun y => if y = x then u else m y) → News h₀ L h (led b.size) → Q .next { s with heap := h, toks := tk })
    (hadr : ∀ i, (led i).map (·.1) = (led 0).map (·.1))
    (hs : ∀ x, foldedSetIterable iter env x = pure x := by intro _; rfl) : wpC (model prog w) A (exec (.For (.Name x xp) iter body [] pos) env) Q E s := by
  subst hL
  refine c_For (hi _ (KBw.pyIter_bytes ?_)) hs
  have hl0 : ∀ q ∈ led 0, q.1 < s.heap.objs.size := fun q hq => Heap.lt_size (N q hq).1
  have hlI : ∀ i, ∀ q ∈ led i, q.1 < s.heap.objs.size := fun i q hq => by
    have : q.1 ∈ (led i).map (·.1) := List.mem_map_of_mem hq
    rw [hadr i] at this
    obtain ⟨q', hq', e⟩ := List.mem_map.mp this
    rw [← e]; exact hl0 q' hq'
  have hIL : s.heap.objs.size ≠ env.locals := Nat.ne_of_gt F.ns.lt
  have hI0 : h₀.get? s.heap.objs.size = none := fresh_none F
  refine codeC_for (fun n s' => ∃ i h tk u oI, s' = { s with heap := h, toks := tk } ∧ IsIt b tb i oI ∧ i + n = b.size ∧ Fr h₀ env.locals h (fun y => if y = x then u else m y) ∧ News h₀ env.locals h (led i ++ [(s.heap.objs.size, oI)])) ?_ b.size
    ⟨0, _, s.toks, m x, { cls := .type "bytes_iterator", data := .fields #[.bytes b tb, .int 0 0] }, rfl, ⟨rfl, rfl⟩, by simp, ?_, ?_⟩
  · rintro n s' ⟨i, h, tk, u, oI, rfl, hIo, hin, F₁, N₁⟩
    have hit : KBw.IsBytesIter h s.heap.objs.size b tb i := ⟨_, (N₁ (s.heap.objs.size, oI) (by simp)).1, hIo.1, hIo.2⟩
    cases hbi : b[i]? with
    | none =>
      refine KBw.next_end hh hit hbi fun h' hk => ?_
      have hib : i = b.size := by
        have := Array.getElem?_eq_none_iff.mp hbi
        omega
      subst hib
      dsimp only
      refine c_execs_nil (done u h' tk ⟨?_, fun a o e => hk a _ (Nat.ne_of_lt (Nat.lt_of_lt_of_le (Heap.lt_size e) (Nat.le_trans F.above (Nat.le_of_lt F.ns.lt)))) (F₁.keep a o e), F₁.above⟩ fun q hq => ?_)
      · obtain ⟨oL, es, ep, hLo, r⟩ := F₁.ns
        exact ⟨oL, es, ep, hk _ _ (Ne.symm hIL) hLo, r⟩
      · have P := N₁ q (List.mem_append_left _ hq)
        exact ⟨hk _ _ (Nat.ne_of_lt (hlI _ q hq)) P.1, P.2⟩
    | some c =>
      refine KBw.next_item hit hbi fun h' hit' hsb => ?_
      obtain ⟨oJ, hoJ, hJ1, hJ2⟩ := hit'
      dsimp only
      have hib : i < b.size := by
        rcases Nat.lt_or_ge i b.size with h | h
        · exact h
        · rw [Array.getElem?_eq_none_iff.mpr h] at hbi; cases hbi
      have F₂ : Fr h₀ env.locals h' (fun y => if y = x then u else m y) := by
        refine ⟨?_, fun a o e => (hsb.2 a (Nat.ne_of_lt (Nat.lt_of_lt_of_le (Heap.lt_size e) (Nat.le_trans F.above (Nat.le_of_lt F.ns.lt))))).trans (F₁.keep a o e), F₁.above⟩
        obtain ⟨oL, es, ep, hLo, r⟩ := F₁.ns
        exact ⟨oL, es, ep, (hsb.2 _ (Ne.symm hIL)).trans hLo, r⟩
      have N₂ : News h₀ env.locals h' (led i ++ [(s.heap.objs.size, oJ)]) := by
        intro q hq
        rcases List.mem_append.mp hq with hq | hq
        · have P := N₁ q (List.mem_append_left _ hq)
          exact ⟨(hsb.2 _ (Nat.ne_of_lt (hlI _ q hq))).trans P.1, P.2⟩
        · rw [List.mem_singleton.mp hq]
          exact ⟨hoJ, hIL, hI0⟩
      refine assign_Name (wpAny_storeName_local hx F₂.ns (fun h₂ hn₂ hsb₂ => ?_) hp)
      have F₃ := F₂.set hn₂ hsb₂
      have N₃ := N₂.set hsb₂
      have em : (fun y => if y = x then some (Value.int (c.toNat : Int) tk) else if y = x then u else m y) = fun y => if y = x then some (Value.int (c.toNat : Int) tk) else m y := by
        funext y; split <;> rfl
      rw [em] at F₃
      refine wpC_mono (turn s.heap.objs.size oJ i c tk h₂ _ hbi hl0 F₃ N₃) (fun f s₃ h₃ => ?_) hE
      cases f with
      | ret v => exact h₃
      | brk => exact h₃
      | next =>
        obtain ⟨h', tk', led', u', e, F', N', hs⟩ := h₃
        exact ⟨n - 1, by omega, i + 1, h', tk', u', oJ, e, ⟨hJ1, hJ2⟩, by omega, F', fun q hq => N' q (hs q hq)⟩
      | cont =>
        obtain ⟨h', tk', led', u', e, F', N', hs⟩ := h₃
        exact ⟨n - 1, by omega, i + 1, h', tk', u', oJ, e, ⟨hJ1, hJ2⟩, by omega, F', fun q hq => N' q (hs q hq)⟩
  · have em : (fun y => if y = x then m x else m y) = m := by funext y; split <;> simp_all
    rw [em]
    exact F.push _
  · intro q hq
    rcases List.mem_append.mp hq with hq | hq
    · exact ⟨Heap.get?_push_of_some _ (N q hq).1, (N q hq).2⟩
    · rw [List.mem_singleton.mp hq]
      exact ⟨Heap.get?_push_size _ rfl, hIL, hI0⟩
end
-- l10
theorem compTurn_one (elt target iter : Expr) (ifs : List Expr) (scope : Scope) (pos : Pos) (it acc : Value) (env : Env) :
    compTurn (.ListComp elt [⟨target, iter, ifs, 0⟩] scope pos) 0 it acc env = (do
      standAt iter.pos
      match ← pyNext it with
      | none => pure (.done .next)
      | some v =>
        let _ ← (letOwnedTupleGo target it v >>= fun _ => assign target env v)
        let ok ← (forIn ifs true fun c r => if r = true then do let ok ← isTrue c env (eval c env); pure (ForInStep.yield ok) else pure (ForInStep.yield r))
        if ok = true then do
          let x ← eval elt env
          let _ ← call (.builtin "list.append") [acc, x]
          again (.compLoop (.ListComp elt [⟨target, iter, ifs, 0⟩] scope pos) 0 it acc env)
        else again (.compLoop (.ListComp elt [⟨target, iter, ifs, 0⟩] scope pos) 0 it acc env)) := by
  have e : compTurn (.ListComp elt [⟨target, iter, ifs, 0⟩] scope pos) 0 it acc env = (do
      standAt iter.pos
      match ← pyNext it with
      | none => pure (.done .next)
      | some v =>
        letOwnedTupleGo target it v
        assign target env v
        let mut ok := true
        for c in ifs do
          if ok then ok ← isTrue c env (eval c env)
        if ok then
          (do let _ ← call (.builtin "list.append") [acc, ← eval elt env])
        again (.compLoop (.ListComp elt [⟨target, iter, ifs, 0⟩] scope pos) 0 it acc env)) := rfl
  rw [e]
  congr 1; funext _
  congr 1; funext r
  cases r with
  | none => rfl
  | some v =>
    simp only [bind_assoc]
    congr 1
section
variable {prog : Program} {w : World} {A : Around} {E : Value → Shared → Prop} {R : Result → Shared → Prop} {s : Shared}
noncomputable abbrev NoE : Value → Shared → Prop := fun _ _ => False
theorem codeC_compLoop {elt target iter : Expr} {ifs : List Expr} {scope : Scope} {pos : Pos} {I D : Addr} {fp wr : List Addr} {n : Nat} {P : Nat → Value → Prop} {St : Nat → Heap → Prop} {cenv : Env} {m : Str → Option Value} {B : Heap}
    (W : Walks prog w A I fp wr n P St) (pb : Bool) (F : Nat → Value → Prop) (Mm : Nat → (Str → Option Value) → Prop)
    (hDC : D ≠ cenv.locals) (hDf : D ∉ fp) (hCf : cenv.locals ∉ fp) (hCB : B.get? cenv.locals = none) (hDB : B.get? D = none) (hwB : ∀ b ∈ wr, B.get? b = none)
    (hst : St 0 s.heap) (hacc : s.heap.PlainList D #[]) (hn : s.heap.Ns cenv.locals m) (hBs : B.StaysIn s.heap) (hsz : n ≤ 100000)
    (asg : ∀ i v h tk m₁, P i v → i < n → St (i + 1) h → B.StaysIn h → h.Ns cenv.locals m₁ → ∀ Q' : Unit → Shared → Prop, (∀ h' tk' m₂, (∀ b o, b ≠ cenv.locals → h.get? b = some o → h'.get? b = some o) → h'.Ns cenv.locals m₂ → Mm i m₂ → Q' () { s with heap := h', toks := tk' }) →
      wpAny (model prog w) A (letOwnedTupleGo target (.ref I) v >>= fun _ => assign target cenv v) Q' NoE { s with heap := h, toks := tk })
    (tests : ∀ i h tk m₁, i < n → B.StaysIn h → h.Ns cenv.locals m₁ → Mm i m₁ →
      wpC (model prog w) A (forIn ifs true fun c r => if r = true then do let ok ← isTrue c cenv (eval c cenv); pure (ForInStep.yield ok) else pure (ForInStep.yield r)) (fun ok s₃ => ok = pb ∧ Keeps { s with heap := h, toks := tk } s₃) NoE { s with heap := h, toks := tk })
    (helt : pb = true → ∀ i h tk m₁, i < n → B.StaysIn h → h.Ns cenv.locals m₁ → Mm i m₁ →
      wpC (model prog w) A (eval elt cenv) (fun y s₃ => F i y ∧ Keeps { s with heap := h, toks := tk } s₃) NoE { s with heap := h, toks := tk })
    (hR : ∀ h' tk m' (ys : List Value), ys.length = (if pb = true then n else 0) → (∀ j y, ys[j]? = some y → F j y) → h'.PlainList D ys.toArray → h'.Ns cenv.locals m' → B.StaysIn h' → R (.ok .next) { s with heap := h', toks := tk }) :
    codeC (model prog w) A (.compLoop (.ListComp elt [⟨target, iter, ifs, 0⟩] scope pos) 0 (.ref I) (.ref D) cenv) R s := by
  have hCw : cenv.locals ∉ wr := fun h => hCf (W.sub _ h)
  have hDw : D ∉ wr := fun h => hDf (W.sub _ h)
  refine codeC_loop rfl rfl (fun k s' => ∃ i h tk m' ys, s' = { s with heap := h, toks := tk } ∧ i ≤ n ∧ k = n - i ∧ St i h ∧ h.PlainList D (List.toArray ys) ∧ ys.length = (if pb = true then i else 0) ∧ (∀ j y, ys[j]? = some y → F j y) ∧ h.Ns cenv.locals m' ∧ B.StaysIn h) ?_ n
    ⟨0, s.heap, s.toks, m, [], rfl, Nat.zero_le _, by simp, hst, hacc, by simp, by simp, hn, hBs⟩
  rintro k s' ⟨i, h, tk, m', ys, rfl, hin, rfl, hst', hacc', hlen, hF, hn', hBs'⟩
  rw [Around.under_of_weight rfl]
  show wpC _ _ ((compTurn (.ListComp elt [⟨target, iter, ifs, 0⟩] scope pos) 0 (.ref I) (.ref D) cenv).onRaise (fun x => do noteFrame x cenv; theTreesLotGoes x)) _ _ _
  refine c_noted (wpC_mono (E := NoE) ?_ (fun _ _ q => q) fun _ _ q => q.elim)
  rw [compTurn_one]
  refine wpC_at (wpC_any ?_)
  by_cases hlt : i < n
  · refine W.item i _ _ _ hlt hst' fun v h₁ tk₁ hPv hst₁ hk₁ => ?_
    have hB₁ : B.StaysIn h₁ := fun b o e => hk₁ b o (fun hb => by rw [hwB b hb] at e; cases e) (hBs' b o e)
    refine wpC_any (asg i v h₁ tk₁ m' hPv hlt hst₁ hB₁ (hn'.at' fun o e => hk₁ _ o hCw e) _ fun h₂ tk₂ m₂ hs₂ hn₂ hM => ?_)
    have hB₂ : B.StaysIn h₂ := fun b o e => hs₂ b o (fun hb => by rw [hb, hCB] at e; cases e) (hB₁ b o e)
    have hst₂ : St (i + 1) h₂ := W.frame _ _ _ hst₁ fun b hb o e => hs₂ b o (fun h => hCf (h ▸ hb)) e
    have hacc₂ : h₂.PlainList D ys.toArray := hacc'.at fun o e => hs₂ _ o hDC (hk₁ _ o hDw e)
    refine wpC_bind (wpC_mono (tests i h₂ tk₂ m₂ hlt hB₂ hn₂ hM) (fun ok s₃ h₃ => ?_) fun _ _ q => q)
    obtain ⟨rfl, h₃, tk₃, rfl, hk₃⟩ := h₃
    have hst₃ := W.frame _ _ h₃ hst₂ fun b _ o e => hk₃ b o e
    have hB₃ : B.StaysIn h₃ := fun b o e => hk₃ b o (hB₂ b o e)
    cases ok with
    | false =>
      refine wpC_false rfl (wpC_pure ⟨rfl, n - (i + 1), by omega, i + 1, h₃, tk₃, m₂, ys, rfl, hlt, rfl, hst₃, hacc₂.at fun o e => hk₃ _ o e, by simpa using hlen, hF, hn₂.keeps hk₃, hB₃⟩)
    | true =>
      refine wpC_true rfl (wpC_bind (wpC_mono (helt rfl i h₃ tk₃ m₂ hlt hB₃ (hn₂.keeps hk₃) hM) (fun y s₄ h₄ => ?_) fun _ _ q => q))
      obtain ⟨hFy, h₄, tk₄, rfl, hk₄⟩ := h₄
      simp only [if_true] at hlen
      have hy : ys.toArray.size ≤ sizeLine := by rw [List.size_toArray, hlen, sizeLine_eq]; omega
      refine wpC_any (wpAny_list_append_plain (hsz := hy) ((hacc₂.at fun o e => hk₃ _ o e).at fun o e => hk₄ _ o e) fun h₅ hl₅ hs₅ => ?_)
      refine wpC_pure ⟨rfl, n - (i + 1), by omega, i + 1, h₅, tk₄, m₂, ys ++ [y], rfl, hlt, rfl, ?_, by simpa using hl₅, by simp [hlen], fun j z hz => ?_, ((hn₂.keeps hk₃).keeps hk₄).sameBut hs₅ (Ne.symm hDC), fun b o e => ?_⟩
      · exact W.frame _ _ h₅ hst₃ fun b hb o e => hs₅.extBut b o (fun h => hDf (h ▸ hb)) (hk₄ b o e)
      · rcases Nat.lt_trichotomy j ys.length with hj | hj | hj
        · exact hF j z (by rwa [List.getElem?_append_left hj] at hz)
        · subst hj
          simp at hz
          subst hz
          rw [hlen]; exact hFy
        · rw [List.getElem?_eq_none (by rw [List.length_append, List.length_singleton]; omega)] at hz; cases hz
      · exact hs₅.extBut b o (fun hb => by rw [hb, hDB] at e; cases e) (hk₄ b o (hB₃ b o e))
  · have hii : i = n := by omega
    subst hii
    refine W.done _ _ _ hst' fun h₁ tk₁ hk₁ => ?_
    exact wpC_pure (hR h₁ tk₁ m' ys hlen hF (hacc'.at fun o e => hk₁ _ o hDw e) (hn'.at' fun o e => hk₁ _ o hCw e) fun b o e => hk₁ b o (fun hb => by rw [hwB b hb] at e; cases e) (hBs' b o e))
end
-- l11
section
variable {prog : Program} {w : World} {A : Around} {E : Value → Shared → Prop} {R : Result → Shared → Prop} {s : Shared} {env : Env}
theorem codeC_compStart {elt target iter : Expr} {ifs : List Expr} {scope : Scope} {pos : Pos} {it acc : Value} {env : Env}
    (h0 : codeC (model prog w) A (.compLoop (.ListComp elt [⟨target, iter, ifs, 0⟩] scope pos) 0 it acc env) R s)
    (h : ∀ (Q' : Value → Shared → Prop), Q' it s → wpAny (model prog w) A (pyIter it) Q' NoE s) :
    codeC (model prog w) A (.compStart (.ListComp elt [⟨target, iter, ifs, 0⟩] scope pos) 0 it acc env) R s := by
  refine codeC_of_tree rfl ?_
  rw [Around.under_of_weight rfl]
  show wpC _ _ ((compStart (.ListComp elt [⟨target, iter, ifs, 0⟩] scope pos) 0 it acc env).onRaise (fun x => do noteFrame x env; standAt theWindowsPlace)) _ _ s
  refine wpC_onRaise (wpC_mono (E := NoE) ?_ (fun _ _ q => q) fun _ _ q => q.elim)
  unfold compStart
  show wpC _ _ (ask >>= _) _ _ s
  refine wpC_any (wpAny_askSetting ?_)
  dsimp only
  have tail : wpC (model prog w) A (do
      rule "comprehension.iter-twice"
      standAt iter.pos
      again (.compLoop (.ListComp elt [⟨target, iter, ifs, 0⟩] scope pos) 0 (← pyIter it) acc env)) (Ends (model prog w) A R) NoE s :=
    wpC_any (wpAny_rule (wpC_at (wpC_any (h _ (wpC_pure ⟨rfl, h0⟩)))))
  split
  · exact wpC_bind (wpC_pure (wpC_pure ⟨rfl, h0⟩))
  · exact tail
noncomputable def Fin2 (R : Env → Value → Shared → Prop) (cenv : Env) (acc : Value) : Result → Shared → Prop
  | .ok _, s' => R cenv acc s'
  | .error _, _ => False
structure CompC (prog : Program) (w : World) (A : Around) (env : Env) (target iter elt : Expr) (ifs : List Expr) (scope : Scope) (B : Heap) (I : Addr) (n : Nat) (pb : Bool) (F : Nat → Value → Prop) (Fin : Addr → List Value → Heap → Nat → Prop) (s₂ : Shared) : Prop where
  src : ∃ (fp wr : List Addr) (P : Nat → Value → Prop) (St : Nat → Heap → Prop) (Mm : Nat → (Str → Option Value) → Prop), Walks prog w A I fp wr n P St ∧ St 0 s₂.heap ∧ (∀ b ∈ fp, b < s₂.heap.objs.size) ∧ (∀ b ∈ wr, B.get? b = none) ∧
    (∀ C i v h tk m₁, P i v → i < n → St (i + 1) h → B.StaysIn h → h.Ns C m₁ → ∀ Q' : Unit → Shared → Prop, (∀ h' tk' m₂, (∀ b o, b ≠ C → h.get? b = some o → h'.get? b = some o) → h'.Ns C m₂ → Mm i m₂ → Q' () { s₂ with heap := h', toks := tk' }) →
      wpAny (model prog w) A (letOwnedTupleGo target (.ref I) v >>= fun _ => assign target (compEnv scope C env) v) Q' NoE { s₂ with heap := h, toks := tk }) ∧
    (∀ C i h tk m₁, i < n → B.StaysIn h → h.Ns C m₁ → Mm i m₁ →
      wpC (model prog w) A (forIn ifs true fun c r => if r = true then do let ok ← isTrue c (compEnv scope C env) (eval c (compEnv scope C env)); pure (ForInStep.yield ok) else pure (ForInStep.yield r)) (fun ok s₃ => ok = pb ∧ Keeps { s₂ with heap := h, toks := tk } s₃) NoE { s₂ with heap := h, toks := tk }) ∧
    (pb = true → ∀ C i h tk m₁, i < n → B.StaysIn h → h.Ns C m₁ → Mm i m₁ →
      wpC (model prog w) A (eval elt (compEnv scope C env)) (fun y s₃ => F i y ∧ Keeps { s₂ with heap := h, toks := tk } s₃) NoE { s₂ with heap := h, toks := tk })
  bs : B.StaysIn s₂.heap
  sz : n ≤ 100000
  fin : ∀ D (ys : List Value) h' tk, ys.length = (if pb = true then n else 0) → (∀ j y, ys[j]? = some y → F j y) → h'.PlainList D ys.toArray → B.StaysIn h' → B.get? D = none → Fin D ys h' tk
theorem c_block {elt target iter : Expr} {ifs : List Expr} {scope : Scope} {pos : Pos} {s₂ : Shared} {B : Heap} {I : Addr} {n : Nat} {pb : Bool} {F : Nat → Value → Prop} {Fin : Addr → List Value → Heap → Nat → Prop}
    (hcell : ∀ y ∈ scope.names, y.2 ≠ .cell) (hkind : scope.kind = .function) (S : CompC prog w A env target iter elt ifs scope B I n pb F Fin s₂) {RR : Env → Value → Shared → Prop}
    (hRR : ∀ D C ys h' tk m', Fin D ys h' tk → h'.Ns C m' → C ≠ D → B.get? C = none → h'.PlainList D ys.toArray → B.StaysIn h' → B.get? D = none → RR (compEnv scope C env) (.ref D) { s₂ with heap := h', toks := tk }) :
    wpAny (model prog w) A (newList []) (fun acc s₃ => wpAny (model prog w) A (newFunctionEnv scope env.globals [] [] env.qual none .none (some env)) (fun cenv s₄ =>
      codeC (model prog w) A (.compStart (.ListComp elt [⟨target, iter, ifs, 0⟩] scope pos) 0 (.ref I) acc { cenv with scope := scope }) (Fin2 RR { cenv with scope := scope } acc) s₄) E s₃) E s₂ := by
  obtain ⟨⟨fp, wr, P, St, Mm, W, hst, hfp, hwB, asg, tests, helt⟩, hB, hsz, hfin⟩ := S
  refine wpAny_newObj_type (wpAny_newFunctionEnv hcell (by intro y hy; simp at hy) (fun h₁ hns₁ hsb₁ => ?_) hkind)
  dsimp only at hns₁ hsb₁ ⊢
  generalize hH2 : s₂.heap.push { cls := .type "list", dict := none, data := .seq ([] : List Value).toArray } = H2 at hns₁ hsb₁ ⊢
  have hC : H2.objs.size = s₂.heap.objs.size + 1 := by rw [← hH2, Heap.size_push]
  have hDC : s₂.heap.objs.size ≠ H2.objs.size := by rw [hC]; exact Nat.ne_of_lt (Nat.lt_succ_self _)
  have below : ∀ b, b < s₂.heap.objs.size → b ≠ H2.objs.size ∧ b ≠ s₂.heap.objs.size := fun b hb => ⟨by rw [hC]; exact Nat.ne_of_lt (Nat.lt_succ_of_lt hb), Nat.ne_of_lt hb⟩
  have hDf : s₂.heap.objs.size ∉ fp := fun hm => Nat.lt_irrefl _ (hfp _ hm)
  have hCf : H2.objs.size ∉ fp := fun hm => by have := hfp _ hm; rw [hC] at this; exact Nat.lt_irrefl _ (Nat.lt_of_succ_lt this)
  have old : ∀ b o, s₂.heap.get? b = some o → h₁.get? b = some o := fun b o e => hsb₁.extBut b o (below b (Heap.lt_size e)).1 (Heap.get?_push_of_some _ (hH2 ▸ Heap.get?_push_of_some _ e))
  have hacc : h₁.PlainList s₂.heap.objs.size #[] := ⟨_, hsb₁.extBut _ _ hDC (Heap.get?_push_of_some _ (hH2 ▸ Heap.get?_push_size _ rfl))⟩
  have hst₁ : St 0 h₁ := W.frame _ _ _ hst fun b _ o e => old b o e
  have fresh : ∀ a, s₂.heap.objs.size ≤ a → B.get? a = none := fun a ha => by
    cases e : B.get? a with
    | none => rfl
    | some o' => exact absurd (Heap.lt_size (hB _ _ e)) (Nat.not_lt.mpr ha)
  have hDB := fresh _ (Nat.le_refl _)
  have hCB := fresh H2.objs.size (by rw [hC]; exact Nat.le_succ _)
  have loop : ∀ s₃ : Shared, s₃ = { s₂ with heap := h₁, toks := s₂.toks + ([] : List (Str × Value)).length } →
      codeC (model prog w) A (.compLoop (.ListComp elt [⟨target, iter, ifs, 0⟩] scope pos) 0 (.ref I) (.ref s₂.heap.objs.size) (compEnv scope H2.objs.size env))
        (Fin2 RR (compEnv scope H2.objs.size env) (.ref s₂.heap.objs.size)) s₃ := by
    rintro s₃ rfl
    refine codeC_compLoop (cenv := compEnv scope H2.objs.size env) (B := B) W pb F Mm hDC hDf hCf hCB hDB hwB hst₁ hacc hns₁ (fun b o e => old b o (hB b o e)) hsz
      (fun i v h tk m₁ h1 h2 h3 h4 h5 => asg _ i v h tk m₁ h1 h2 h3 h4 h5) (fun i h tk m₁ h1 h2 h3 h4 => tests _ i h tk m₁ h1 h2 h3 h4) (fun hp i h tk m₁ h1 h2 h3 h4 => helt hp _ i h tk m₁ h1 h2 h3 h4) ?_
    intro h' tk m' ys hlen hF hpl hn hk
    exact hRR _ _ ys h' tk m' (hfin _ ys h' tk hlen hF hpl hk hDB) hn (Ne.symm hDC) hCB hpl hk hDB
  exact codeC_compStart (loop _ rfl) fun Q' hQ' => W.self 0 _ _ _ hst₁ hQ'
end
-- l12
section
variable {prog : Program} {w : World} {A : Around} {E : Value → Shared → Prop} {s : Shared} {env : Env}
theorem c_standIf {α : Type} {c : Prop} [Decidable c] {pos : Pos} {k : PUnit → Sem α} {Q : α → Shared → Prop} {M : Model} (h : wpC M A (k ()) Q E s) : wpC M A (if c then (standAt pos >>= k) else k ()) Q E s := by
  split
  · exact wpC_at h
  · exact h
theorem c_comprehension {e : Expr} {scope : Scope} {pos : Pos} {newAcc first : Sem Value} {g : Comprehension} {gs : List Comprehension} {Q : Value → Shared → Prop}
    (hcl : clausesOf e = g :: gs) (hs : ∀ x, foldedSetIterable g.iter env x = pure x)
    (hfree : ∀ x ∈ scope.names, x.2 ≠ .free) (hkind : scope.kind = .function) (hnames : ∀ x ∈ scope.names, x.2 = .local → scope.names.lookup x.1 = some .local)
    (h : wpAny (model prog w) A first (fun x s₁ => wpAny (model prog w) A (pyIter x) (fun it s₂ => wpAny (model prog w) A newAcc (fun acc s₃ =>
      wpAny (model prog w) A (newFunctionEnv scope env.globals [] [] env.qual none .none (some env)) (fun cenv s₄ =>
        codeC (model prog w) A (.compStart e 0 it acc { cenv with scope := scope }) (Fin2 (fun cenv acc s' => ∃ m, s'.heap.Ns cenv.locals m ∧ ∀ h', Heap.SameBut cenv.locals s'.heap h' → Q acc { s' with heap := h' }) { cenv with scope := scope } acc) s₄) E s₃) E s₂) E s₁) E s) :
    wpC (model prog w) A (comprehension e scope env pos newAcc false first) Q E s := by
  unfold comprehension
  rw [closureFor_none hfree, hcl]
  refine wpC_any (wpAny_mono h (fun x s₁ h₁ => wpC_at (wpC_any (wpAny_of_eq (hs x) (wpC_any (wpAny_holding (wpAny_mono h₁ (fun it s₂ h₂ =>
    c_standIf (wpC_any (wpAny_mono h₂ (fun acc s₃ h₃ => wpC_bind (wpC_pure (wpC_any (wpAny_mono h₃ (fun cenv s₄ h₄ => ?_) fun _ _ h' => h')))) fun _ _ h' => h')))
      fun _ _ h' => h')))))) fun _ _ h' => h')
  dsimp only
  rw [map_eq_self (l := scope.names) (fun x hx => by
    obtain ⟨n, k⟩ := x
    have hk : (k == NameKind.free) = false := by simpa using hfree _ hx
    simp [hk])]
  have hv : ∀ x ∈ (scope.names.filter fun x => (x.2 == .local || x.2 == .cell) && x.1 != (".0" : Str)).reverse, x.2 = .local →
      Env.kindOf { cenv with scope := scope } x.1 = some .local := fun x hx hl => hnames x (List.mem_filter.mp (List.mem_reverse.mp hx)).1 hl
  refine wpC_holding (wpC_bind (wpC_attempt (wpC_holding (wpC_run (codeC_mono h₄ fun r s' hr => ?_)))))
  cases r with
  | ok f =>
    obtain ⟨m, hn, hr⟩ := hr
    exact wpC_any (wpAny_holding (wpAny_comp_letGo (cenv := { cenv with scope := scope }) hkind _ s' m hv hn fun h' m' _ hs' => wpC_pure (hr h' hs')))
  | error x => exact hr.elim
theorem c_comprehension_use {e : Expr} {scope : Scope} {pos : Pos} {newAcc first : Sem Value} {g : Comprehension} {gs : List Comprehension} {u : Value → Sem Unit} {Q : Value → Shared → Prop}
    (hcl : clausesOf e = g :: gs) (hs : ∀ x, foldedSetIterable g.iter env x = pure x)
    (hfree : ∀ x ∈ scope.names, x.2 ≠ .free) (hkind : scope.kind = .function) (hnames : ∀ x ∈ scope.names, x.2 = .local → scope.names.lookup x.1 = some .local)
    (h : wpAny (model prog w) A first (fun x s₁ => wpAny (model prog w) A (pyIter x) (fun it s₂ => wpAny (model prog w) A newAcc (fun acc s₃ =>
      wpAny (model prog w) A (newFunctionEnv scope env.globals [] [] env.qual none .none (some env)) (fun cenv s₄ =>
        codeC (model prog w) A (.compStart e 0 it acc { cenv with scope := scope }) (Fin2 (fun cenv acc s' => wpAny (model prog w) A (u acc) (fun _ s'' => ∃ m, s''.heap.Ns cenv.locals m ∧ ∀ h', Heap.SameBut cenv.locals s''.heap h' → Q .none { s'' with heap := h' }) E s')
          { cenv with scope := scope } acc) s₄) E s₃) E s₂) E s₁) E s) :
    wpC (model prog w) A (comprehension e scope env pos newAcc false first (some u)) Q E s := by
  unfold comprehension
  rw [closureFor_none hfree, hcl]
  refine wpC_any (wpAny_mono h (fun x s₁ h₁ => wpC_at (wpC_any (wpAny_of_eq (hs x) (wpC_any (wpAny_holding (wpAny_mono h₁ (fun it s₂ h₂ =>
    c_standIf (wpC_any (wpAny_mono h₂ (fun acc s₃ h₃ => wpC_bind (wpC_pure (wpC_any (wpAny_mono h₃ (fun cenv s₄ h₄ => ?_) fun _ _ h' => h')))) fun _ _ h' => h')))
      fun _ _ h' => h')))))) fun _ _ h' => h')
  dsimp only
  rw [map_eq_self (l := scope.names) (fun x hx => by
    obtain ⟨n, k⟩ := x
    have hk : (k == NameKind.free) = false := by simpa using hfree _ hx
    simp [hk])]
  have hv : ∀ x ∈ (scope.names.filter fun x => (x.2 == .local || x.2 == .cell) && x.1 != (".0" : Str)).reverse, x.2 = .local →
      Env.kindOf { cenv with scope := scope } x.1 = some .local := fun x hx hl => hnames x (List.mem_filter.mp (List.mem_reverse.mp hx)).1 hl
  have hv' : ∀ x ∈ (scope.names.filter fun x => (x.2 == .local || x.2 == .cell) && x.1 != (".0" : Str)).reverse.drop 1 ++ (scope.names.filter fun x => (x.2 == .local || x.2 == .cell) && x.1 != (".0" : Str)).reverse.take 1,
      x.2 = .local → Env.kindOf { cenv with scope := scope } x.1 = some .local := fun x hx hl => by
    rcases List.mem_append.mp hx with h1 | h1
    · exact hv x (List.mem_of_mem_drop h1) hl
    · exact hv x (List.mem_of_mem_take h1) hl
  refine wpC_holding (wpC_bind (wpC_attempt (wpC_holding (wpC_run (codeC_mono h₄ fun r s' hr => ?_)))))
  cases r with
  | ok f =>
    refine wpC_any (wpAny_rule (wpC_any (wpAny_holding (wpAny_mono hr (fun _ s'' hr' => ?_) fun _ _ h' => h'))))
    obtain ⟨m, hn, hr'⟩ := hr'
    exact wpC_any (wpAny_comp_letGo (cenv := { cenv with scope := scope }) hkind _ s'' m hv' hn fun h' m' _ hs' => wpC_pure (hr' h' hs'))
  | error x => exact hr.elim
noncomputable def FinA (g : Heap) (L : Addr) (m : Str → Option Value) (y : Str) (B : Heap) (Q : Flow → Shared → Prop) (s₂ : Shared) (D : Addr) (ys : List Value) (_ : Heap) (_ : Nat) : Prop :=
  ∀ h'' tk', Fr g L h'' (fun z => if z = y then some (.ref D) else m z) → h''.PlainList D ys.toArray → g.get? D = none → D ≠ L → (∀ b o, B.get? b = some o → b ≠ L → h''.get? b = some o) → Q .next { s₂ with heap := h'', toks := tk' }
noncomputable def FinV (g : Heap) (L : Addr) (m : Str → Option Value) (B : Heap) (Q : Value → Shared → Prop) (s₂ : Shared) (D : Addr) (ys : List Value) (_ : Heap) (_ : Nat) : Prop :=
  ∀ h'' tk', Fr g L h'' m → h''.PlainList D ys.toArray → g.get? D = none → D ≠ L → (∀ b o, B.get? b = some o → h''.get? b = some o) → Q (.ref D) { s₂ with heap := h'', toks := tk' }
theorem c_Assign_comp {g : Heap} {L : Addr} {m : Str → Option Value} {elt target iter : Expr} {ifs : List Expr} {y : Str} {py : Pos} {scope : Scope} {pos spos : Pos} {Q : Flow → Shared → Prop}
    (hsw : swapsWith (.ListComp elt [⟨target, iter, ifs, 0⟩] scope pos) (some (.Name y py)) spos.line env = pure true)
    (hfree : ∀ z ∈ scope.names, z.2 ≠ .free) (hcell : ∀ z ∈ scope.names, z.2 ≠ .cell) (hkind : scope.kind = .function) (hnames : ∀ z ∈ scope.names, z.2 = .local → scope.names.lookup z.1 = some .local)
    (hy : env.kindOf y = some .local) (hp : (env.scope.kind == .class || (env.scope.kind == .module && env.locals != env.globals)) = false) (hL : env.locals = L)
    (h : wpAny (model prog w) A (eval iter env) (fun xv s₁ => wpAny (model prog w) A (pyIter xv) (fun it s₂ => ∃ (B : Heap) (I : Addr) (n : Nat) (pb : Bool) (F : Nat → Value → Prop), it = .ref I ∧ Fr g L B m ∧
      CompC prog w A env target iter elt ifs scope B I n pb F (FinA g L m y B Q s₂) s₂) E s₁) E s)
    (hs : ∀ x, foldedSetIterable iter env x = pure x := by intro _; rfl) :
    wpC (model prog w) A (exec (.Assign [.Name y py] (.ListComp elt [⟨target, iter, ifs, 0⟩] scope pos) spos) env) Q E s := by
  subst hL
  rw [exec_Assign_Name_used _ _ _ _ hsw]
  refine wpC_at (wpC_bind ?_)
  show wpC _ A (do let _ ← comprehension (.ListComp elt [⟨target, iter, ifs, 0⟩] scope pos) scope env _ (newList []) false (eval iter env) (some (assign (.Name y py) env))) _ _ s
  refine wpC_bind (wpC_mono (c_comprehension_use (Q := fun _ s' => Q .next s') rfl hs hfree hkind hnames (wpAny_mono h (fun xv s₁ h₁ => wpAny_mono h₁ (fun it s₂ h₂ => ?_) fun _ _ e => e) fun _ _ e => e))
    (fun _ s' hq => wpC_pure (wpC_pure hq)) fun _ _ e => e)
  obtain ⟨B, I, n, pb, F, rfl, FB, S⟩ := h₂
  refine c_block hcell hkind S fun D C ys h' tk m' hfin hn hCD hCB hpl hB hDB => ?_
  have hLB : ∃ o, B.get? env.locals = some o := let ⟨o, _, _, e, _⟩ := FB.ns; ⟨o, e⟩
  have hDL : D ≠ env.locals := by rintro rfl; obtain ⟨o, e⟩ := hLB; rw [hDB] at e; cases e
  have hCL : C ≠ env.locals := by rintro rfl; obtain ⟨o, e⟩ := hLB; rw [hCB] at e; cases e
  have F₁ : Fr g env.locals h' m := FB.keeps hB
  refine assign_Name (wpAny_storeName_local hy F₁.ns (fun h₂ hn₂ hs₂ => ?_) hp)
  have F₂ := F₁.set hn₂ hs₂
  refine ⟨m', hn.sameBut hs₂ hCL, fun h₃ hs₃ => ?_⟩
  have hgD : g.get? D = none := by
    cases e : g.get? D with
    | none => rfl
    | some o => rw [FB.keep _ _ e] at hDB; cases hDB
  refine hfin h₃ _ ⟨F₂.ns.sameBut hs₃ (Ne.symm hCL), fun b o e => hs₃.extBut b o (fun hb => ?_) (F₂.keep b o e), F₂.above⟩ ((hpl.at fun o e => hs₂.extBut _ o hDL e).at fun o e => hs₃.extBut _ o (Ne.symm hCD) e) hgD hDL fun b o e hb => hs₃.extBut b o (fun hb' => ?_) (hs₂.extBut b o hb (hB b o e))
  · have := FB.keep b o e
    change b = C at hb
    rw [hb, hCB] at this; cases this
  · change b = C at hb'
    rw [hb', hCB] at e; cases e
theorem c_ListComp {g : Heap} {L : Addr} {m : Str → Option Value} {elt target iter : Expr} {ifs : List Expr} {scope : Scope} {pos : Pos} {Q : Value → Shared → Prop}
    (hfree : ∀ z ∈ scope.names, z.2 ≠ .free) (hcell : ∀ z ∈ scope.names, z.2 ≠ .cell) (hkind : scope.kind = .function) (hnames : ∀ z ∈ scope.names, z.2 = .local → scope.names.lookup z.1 = some .local)
    (h : wpAny (model prog w) A (eval iter env) (fun xv s₁ => wpAny (model prog w) A (pyIter xv) (fun it s₂ => ∃ (B : Heap) (I : Addr) (n : Nat) (pb : Bool) (F : Nat → Value → Prop), it = .ref I ∧ Fr g L B m ∧
      CompC prog w A env target iter elt ifs scope B I n pb F (FinV g L m B Q s₂) s₂) E s₁) E s)
    (hs : ∀ x, foldedSetIterable iter env x = pure x := by intro _; rfl) :
    wpC (model prog w) A (eval (.ListComp elt [⟨target, iter, ifs, 0⟩] scope pos) env) Q E s := by
  rw [eval_ListComp]
  refine c_comprehension (Q := Q) rfl hs hfree hkind hnames (wpAny_mono h (fun xv s₁ h₁ => wpAny_mono h₁ (fun it s₂ h₂ => ?_) fun _ _ e => e) fun _ _ e => e)
  obtain ⟨B, I, n, pb, F, rfl, FB, S⟩ := h₂
  refine c_block hcell hkind S fun D C ys h' tk m' hfin hn hCD hCB hpl hB hDB => ?_
  have hLB : ∃ o, B.get? L = some o := let ⟨o, _, _, e, _⟩ := FB.ns; ⟨o, e⟩
  have hDL : D ≠ L := by rintro rfl; obtain ⟨o, e⟩ := hLB; rw [hDB] at e; cases e
  have F₁ : Fr g L h' m := FB.keeps hB
  refine ⟨m', hn, fun h₃ hs₃ => ?_⟩
  have hgD : g.get? D = none := by
    cases e : g.get? D with
    | none => rfl
    | some o => rw [FB.keep _ _ e] at hDB; cases hDB
  have hB₃ : B.StaysIn h₃ := fun b o e => hs₃.extBut b o (fun hb => by change b = C at hb; rw [hb, hCB] at e; cases e) (hB b o e)
  exact hfin h₃ _ (FB.keeps hB₃) (hpl.at fun o e => hs₃.extBut _ o (Ne.symm hCD) e) hgD hDL hB₃
end
-- l13
section
variable {prog : Program} {w : World} {A : Around} {E : Value → Shared → Prop} {s₁ : Shared} {env : Env}
theorem c_src_pairs {scope : Scope} {elt iter : Expr} {a b : Str} {pa pb tp : Pos} {kk : Nat} {ax : Addr} {items : Array Value} {key worth : Nat → Value} {Fin : Shared → Addr → List Value → Heap → Nat → Prop} {F : Nat → Value → Prop} {Q : Value → Shared → Prop}
    (hh : A.handled = none) (hl : s₁.heap.IsTuple ax items) (hsz : items.size ≤ 100000) (hit : ∀ i v, items[i]? = some v → ∃ T, v = .ref T ∧ s₁.heap.IsTuple T #[key i, worth i])
    (ha : scope.names.lookup a = some .local) (hb : scope.names.lookup b = some .local) (hkind : scope.kind = .function) (hab : a ≠ b)
    (helt : ∀ C i h tk m, i < items.size → s₁.heap.StaysIn h → h.Ns C m → m a = some (key i) → m b = some (worth i) → wpC (model prog w) A (eval elt (compEnv scope C env)) (fun y s₃ => F i y ∧ Keeps { s₁ with heap := h, toks := tk } s₃) NoE { s₁ with heap := h, toks := tk })
    (hfin : ∀ s₂ : Shared, (∃ h tk, s₂ = { s₁ with heap := h, toks := tk }) → ∀ D (ys : List Value) h' tk, ys.length = items.size → (∀ j y, ys[j]? = some y → F j y) → h'.PlainList D ys.toArray → s₁.heap.StaysIn h' → s₁.heap.get? D = none → Fin s₂ D ys h' tk)
    (hQ : ∀ I s₂, (∃ h tk, s₂ = { s₁ with heap := h, toks := tk }) → CompC prog w A env (.Tuple [.Name a pa, .Name b pb] kk tp) iter elt [] scope s₁.heap I items.size true F (Fin s₂) s₂ → Q (.ref I) s₂) :
    wpAny (model prog w) A (pyIter (.ref ax)) Q E s₁ := by
  have hlt : ax < s₁.heap.objs.size := by obtain ⟨_, e, _⟩ := hl; exact Heap.lt_size e
  refine wpAny_pyIter_tuple hl ?_
  refine hQ _ _ ⟨_, _, rfl⟩ ⟨⟨[s₁.heap.objs.size, ax], [s₁.heap.objs.size], _, _, fun i m => m a = some (key i) ∧ m b = some (worth i), Walks.tuple hh s₁.heap.objs.size ax (Nat.ne_of_lt hlt) items, ⟨⟨_, Heap.get?_push_size _ rfl, rfl, rfl⟩, hl.push _⟩, ?_, ?_, ?_, ?_, ?_⟩, fun b o e => Heap.get?_push_of_some _ e, hsz, fun D ys h' tk h1 h2 h3 h4 h5 => hfin _ ⟨_, _, rfl⟩ D ys h' tk (by simpa using h1) h2 h3 h4 h5⟩
  · intro c hc
    show c < (s₁.heap.push _).objs.size
    rw [Heap.size_push]
    rcases List.mem_cons.mp hc with rfl | hc
    · exact Nat.lt_succ_self _
    · rw [List.mem_singleton.mp hc]; exact Nat.lt_succ_of_lt hlt
  · intro c hc
    rw [List.mem_singleton.mp hc]
    cases e : s₁.heap.get? s₁.heap.objs.size with
    | none => rfl
    | some o => exact absurd (Heap.lt_size e) (Nat.lt_irrefl _)
  · intro C i v h tk m₁ hPv hi hst hB hn Q' hQ'
    obtain ⟨T, rfl, hT⟩ := hit i v hPv
    have hT' : h.IsTuple T #[key i, worth i] := let ⟨o, ho, r⟩ := hT; ⟨o, hB _ _ ho, r⟩
    obtain ⟨⟨oI, hoI, hcI, hdI⟩, _⟩ := hst
    refine wpAny_bind ?_
    show wpAny _ _ (do
      let o ← load s₁.heap.objs.size
      match o.cls, o.data with
      | .type n, .fields vs =>
        if ["enumerate", "zip", "dict_itemiterator", "dict_reverseitemiterator", "odict_iterator", "itertools.zip_longest", "itertools.pairwise"].contains n && vs[0]? == some (rawInt T) then
          rule "for.unpacks-the-owned-tuple"
          updateField s₁.heap.objs.size 0 .none
      | _, _ => pure ()) _ _ _
    refine wpAny_bind (wpAny_load hoI ?_)
    rw [hcI, hdI]
    show wpAny _ _ (if (false && _) = true then _ else pure ()) _ _ _
    rw [if_neg (by simp)]
    refine wpAny_pure ?_
    refine kcp_assign (m := m₁) hh hT' ha hb ?_ hn fun h' tk' hn' hk' => ?_
    · show (scope.kind == .class || (scope.kind == .module && _)) = false
      rw [hkind]; rfl
    · exact hQ' h' tk' _ (fun c o hc e => hk' c o hc e) hn' ⟨by simp [hab], by simp⟩
  · intro C i h tk m₁ hi hB hn hM
    exact wpC_pure ⟨rfl, h, tk, rfl, fun _ _ e => e⟩
  · intro _ C i h tk m₁ hi hB hn hM
    exact helt C i h tk m₁ hi hB hn hM.1 hM.2
end
-- l14
inductive BytesAre : List Value → List (Array UInt8) → Prop
  | nil : BytesAre [] []
  | cons (p : Array UInt8) (t : Tok) {vs : List Value} {ps : List (Array UInt8)} : BytesAre vs ps → BytesAre (.bytes p t :: vs) (p :: ps)
theorem BytesAre.length {vs : List Value} {ps : List (Array UInt8)} (h : BytesAre vs ps) : vs.length = ps.length := by
  induction h with
  | nil => rfl
  | cons p t _ ih => simp [ih]
theorem BytesAre.get {vs : List Value} {ps : List (Array UInt8)} (h : BytesAre vs ps) : ∀ i, i < vs.length → ∃ p t, vs[i]? = some (.bytes p t) ∧ ps[i]? = some p := by
  induction h with
  | nil => intro i hi; exact absurd hi (Nat.not_lt_zero _)
  | cons p t h ih =>
    intro i hi
    cases i with
    | zero => exact ⟨p, t, rfl, rfl⟩
    | succ i =>
      obtain ⟨q, u, h1, h2⟩ := ih i (by simpa using hi)
      exact ⟨q, u, by simpa using h1, by simpa using h2⟩
open Builtin in
theorem take_eq {id : String} {b : Array UInt8} {t : Tok} : Bytes.takeBufferQuiet? id (.bytes b t) 0 = pure (some (b, none)) := by
  have e : Bytes.takeBuffer? id (.bytes b t) 0 = pure (some (b, none)) := by
    unfold Bytes.takeBuffer?
    rw [KBy.special_eq KBy.look_buffer, KBy.own_buffer]
    simp only [pure_bind, Bool.not_true, Bool.false_eq_true, if_false]
    rw [show ((0 : Int) == Bytes.fullReadOnly) = false from rfl, KBy.buffer_eq]
    rfl
  unfold Bytes.takeBufferQuiet?
  rw [e]
  rfl
namespace BA
theorem slot_join : Slot "bytes" "join" "bytes.join" :=
  .of (owner := "bytes") (n := "join") (by rw [typeLookup_type, builtinLookup_eq_fast]; kernel_rfl) (by decide +kernel) (by decide +kernel) (by decide +kernel)
    (by first | exact .inl (by decide +kernel) | exact .inr (by decide +kernel)) (by rw [isSubtype_type]; kernel_rfl)
theorem slot_replace : Slot "bytes" "replace" "bytes.replace" :=
  .of (owner := "bytes") (n := "replace") (by rw [typeLookup_type, builtinLookup_eq_fast]; kernel_rfl) (by decide +kernel) (by decide +kernel) (by decide +kernel)
    (by first | exact .inl (by decide +kernel) | exact .inr (by decide +kernel)) (by rw [isSubtype_type]; kernel_rfl)
theorem bplain : PlainAttrs "bytes" :=
  ⟨⟨"bytes.__getattribute__", by rw [typeLookup_type, builtinLookup_eq_fast]; kernel_rfl, by decide +kernel⟩, by rw [typeLookup_type, builtinLookup_eq_fast]; kernel_rfl⟩
theorem type_join : typeOf (.builtin "bytes.join") = pure (.type "method_descriptor") := by show builtinType _ = _; rw [builtinType_eq_fast]; kernel_rfl
theorem type_replace : typeOf (.builtin "bytes.replace") = pure (.type "method_descriptor") := by show builtinType _ = _; rw [builtinType_eq_fast]; kernel_rfl
theorem entry_join : entryFor table "bytes.join" = some Builtin.«bytes.join» := by first | exact entryFor_of_fast (by kernel_rfl) | exact entryFor_of_tree (by kernel_rfl)
theorem entry_replace : entryFor table "bytes.replace" = some Builtin.«bytes.replace» := by first | exact entryFor_of_fast (by kernel_rfl) | exact entryFor_of_tree (by kernel_rfl)
theorem args_join (a b : Value) : argsOk "bytes.join" ⟨[a, b], []⟩ := by kernel_rfl
set_option maxHeartbeats 8000000 in
theorem args_replace (a b c : Value) : argsOk "bytes.replace" ⟨[a, b, c], []⟩ := by kernel_rfl
end BA
section
variable {prog : Program} {w : World} {A : Around} {E : Value → Shared → Prop} {s : Shared}
theorem getM_join {b : Array UInt8} {t : Tok} {pl : Sem Bool} {Q : Value × List Value → Shared → Prop} (h : Q (.builtin "bytes.join", [.bytes b t]) s) : wpAny (model prog w) A (getMethod (.bytes b t) "join" pl) Q E s :=
  getMethod_builtin (typeIs_bytes s b t) BA.bplain BA.slot_join BA.type_join (fun x e => nomatch e) h
theorem getM_replace {b : Array UInt8} {t : Tok} {pl : Sem Bool} {Q : Value × List Value → Shared → Prop} (h : Q (.builtin "bytes.replace", [.bytes b t]) s) : wpAny (model prog w) A (getMethod (.bytes b t) "replace" pl) Q E s := by
  with_reducible exact getMethod_builtin (typeIs_bytes s b t) BA.bplain BA.slot_replace BA.type_replace (fun x e => nomatch e) h
theorem joinLetGo_any : ∀ (l : List (Value × Option Value)) (keep : List Value) (s : Shared) (Q : Unit → Shared → Prop), (∀ x ∈ l, x.2 = none) → Q () s → wpAny (model prog w) A (Builtin.Bytes.joinLetGo l keep) Q E s
  | [], _, _, _, _, h => wpAny_pure h
  | (x, o) :: l, keep, s, Q, hn, h => by
    obtain rfl : o = none := hn (x, o) (.head _)
    unfold Builtin.Bytes.joinLetGo
    exact wpAny_bind (wpAny_letGo (joinLetGo_any l keep s Q (fun y hy => hn y (.tail _ hy)) h))
open Builtin in
theorem join_body {D : Addr} {ys : List Value} {ps : List (Array UInt8)} {sep : Array UInt8} {t : Tok} {Q : Value → Shared → Prop} (hl : s.heap.IsList D ys.toArray) (hy : BytesAre ys ps)
    (hz1 : ps.foldl (· + ·.size) (sep.size * (ps.length - 1)) ≤ 1000000) (hz2 : (Bytes.joined sep ps).size ≤ 1000000) (h : ∀ t k, Q (.bytes (Bytes.joined sep ps) t) { s with toks := k }) :
    wpAny (model prog w) A (Builtin.«bytes.join» ⟨[.bytes sep t, .ref D], []⟩) (fun fin s' => ∃ v, fin = .done (.ret v) ∧ Q v s') E s := by
  obtain ⟨oD, hoD, hcD, nD, hdD⟩ := id hl
  have hT : s.TypeIs (.ref D) "list" := hl.typeIs
  unfold Builtin.«bytes.join» Bytes.joinM
  dsimp only
  refine wpAny_bind (wpAny_of_eq (a := (Value.bytes sep t, Value.ref D)) rfl ?_)
  dsimp only
  refine bm_if_true rfl ?_
  unfold Bytes.joinItems
  refine wpAny_bind (wpAny_bind (wpAny_typeOf hT ?_))
  refine bm_if_true (by decide) ?_
  refine wpAny_pure ?_
  refine wpAny_bind (wpAny_seqItems hoD hdD ?_)
  dsimp only
  refine bm_if_true rfl ?_
  have hlen := hy.length
  have hsz : ys.toArray.size = ps.length := by rw [List.size_toArray, hlen]
  have hget : ∀ i, i < ps.length → ∃ p u, ys.toArray.getD i .none = .bytes p u ∧ ps[i]? = some p := fun i hi => by
    obtain ⟨p, u, h1, h2⟩ := hy.get i (by omega)
    exact ⟨p, u, by rw [Array.getD_eq_getD_getElem?, List.getElem?_toArray, h1]; rfl, h2⟩
  have hT' := hT
  have hps1 : ∀ p, ps = [p] → Bytes.joined sep ps = p := by rintro p rfl; simp [Bytes.joined]
  rcases ys with _ | ⟨x, _ | ⟨y, r⟩⟩
  rotate_left
  · cases hy with
    | cons p u h1 =>
      cases h1
      refine wpAny_bind (wpAny_of_eq (a := Value.type "bytes") rfl ?_)
      refine bm_if_true (by decide) (wpAny_bind (wpAny_rule (wpAny_pure ?_)))
      have := h u s.toks
      rw [hps1 p rfl] at this
      exact ⟨_, rfl, this⟩
  all_goals
    show wpAny _ _ (forIn _ _ _ >>= _) _ _ _
    rw [Std.Legacy.Range.forIn_eq_forIn_range']
    refine wpAny_bind (wpAny_forIn_list _ (fun rest st s' => s' = s ∧ ∃ i, rest = List.range' i (ps.length - i) ∧ i ≤ ps.length ∧ st.1.toList = ps.take i ∧ ∀ x ∈ st.2, x.2 = none ∧ x.1.onHeap = false) _ ?_ ?_ _ _ ⟨rfl, 0, ?_, Nat.zero_le _, by simp, by simp⟩)
    · rintro i rest ⟨parts, taken⟩ s' ⟨rfl, j, hj, hjn, hp, hk⟩
      have hlt : j < ps.length := by
        rcases Nat.lt_or_ge j ps.length with h | h
        · exact h
        · rw [show ps.length - j = 0 from by omega] at hj
          cases hj
      rw [show ps.length - j = (ps.length - (j + 1)) + 1 from by omega, List.range'_succ] at hj
      injection hj with h1 h2
      subst h1
      obtain ⟨p, u, hg1, hg2⟩ := hget i hlt
      dsimp only at hp hk ⊢
      refine wpAny_bind (wpAny_seqItems hoD hdD ?_)
      dsimp only
      have hany : (taken.any fun x => x.1.onHeap) = false := by
        rw [List.any_eq_false]
        intro x hx
        rw [(hk x hx).2]
        exact Bool.false_ne_true
      rw [hany]
      refine bm_if_false rfl ?_
      rw [hg1]
      refine wpAny_bind (wpAny_holding (wpAny_of_eq take_eq ?_))
      dsimp only
      refine wpAny_bind (wpAny_seqItems hoD hdD ?_)
      dsimp only
      refine bm_if_false (by simp) (wpAny_pure ⟨rfl, i + 1, h2, hlt, ?_, ?_⟩)
      · simp [hp, List.take_add_one, hg2]
      · intro x hx
        rcases List.mem_append.mp hx with hx | hx
        · exact hk x hx
        · rw [List.mem_singleton.mp hx]; exact ⟨rfl, rfl⟩
    · rintro ⟨parts, taken⟩ s' ⟨rfl, j, hj, hjn, hp, hk⟩
      have hjj : j = ps.length := by
        have := congrArg List.length hj
        simp at this
        omega
      subst hjj
      rw [List.take_length] at hp
      dsimp only at hp hk ⊢
      refine wpAny_bind (wpAny_of_eq (a := sep) rfl ?_)
      have hps : parts.size = ps.length := by rw [← hp, Array.length_toList]
      rw [← Array.foldl_toList, hp, hps]
      refine bm_if_false ?_ ?_
      · unfold Bytes.tooLong
        rw [sizeLine_eq]
        exact decide_eq_false (by omega)
      refine wpAny_bind (wpAny_mkBytes ?_ (by rw [sizeLine_eq]; omega))
      refine wpAny_bind (wpAny_holding (wpAny_point ?_))
      refine wpAny_bind (joinLetGo_any _ _ _ _ (fun x hx => (hk x hx).1) ?_)
      exact wpAny_pure ⟨_, rfl, h _ _⟩
    · rw [Nat.sub_zero, ← hsz]
      simp [Std.Legacy.Range.size]
theorem call_join {D : Addr} {ys : List Value} {ps : List (Array UInt8)} {sep : Array UInt8} {t : Tok} {Q : Value → Shared → Prop} (hl : s.heap.IsList D ys.toArray) (hy : BytesAre ys ps)
    (hz1 : ps.foldl (· + ·.size) (sep.size * (ps.length - 1)) ≤ 1000000) (hz2 : (Builtin.Bytes.joined sep ps).size ≤ 1000000) (h : ∀ t k, Q (.bytes (Builtin.Bytes.joined sep ps) t) { s with toks := k }) :
    wpAny (model prog w) A (call (.builtin "bytes.join") [.bytes sep t, .ref D]) Q E s :=
  wpAny_call_entry BA.slot_join (typeIs_bytes s sep t) BA.entry_join (join_body hl hy hz1 hz2 h) (BA.args_join _ _)
end
-- l15
open Builtin in
noncomputable def repl (b old new : Array UInt8) : Array UInt8 := if (Bytes.occurrences b old 0 b.size).isEmpty then b else Bytes.joined new (Bytes.between b old.size (Bytes.occurrences b old 0 b.size))
section
variable {prog : Program} {w : World} {A : Around} {E : Value → Shared → Prop} {s : Shared}
open Builtin in
theorem bytesLike_eq {id : String} {b : Array UInt8} {t : Tok} : Bytes.bytesLike id (.bytes b t) = pure b := by
  unfold Bytes.bytesLike
  rw [KBy.buffer_eq]
  rfl
open Builtin in
theorem replace_body {b old new : Array UInt8} {t u v : Tok} {Q : Value → Shared → Prop} (ho : old.isEmpty = false) (hz : b.size + (Bytes.occurrences b old 0 b.size).length * new.size ≤ 1000000) (hz2 : (repl b old new).size ≤ 1000000)
    (h : ∀ t k, Q (.bytes (repl b old new) t) { s with toks := k }) :
    wpAny (model prog w) A (Builtin.«bytes.replace» ⟨[.bytes b t, .bytes old u, .bytes new v], []⟩) (fun fin s' => ∃ v, fin = .done (.ret v) ∧ Q v s') E s := by
  unfold Builtin.«bytes.replace» Bytes.replaceM
  dsimp only
  refine wpAny_bind (wpAny_of_eq (a := (Value.bytes b t, [Value.bytes old u, Value.bytes new v])) rfl ?_)
  dsimp only
  refine wpAny_bind (wpAny_of_eq bytesLike_eq ?_)
  refine wpAny_bind (wpAny_of_eq bytesLike_eq ?_)
  refine wpAny_bind (wpAny_of_eq (a := (-1 : Int)) rfl ?_)
  refine wpAny_bind (wpAny_of_eq bytesLike_eq ?_)
  refine wpAny_bind (wpAny_of_eq bytesLike_eq ?_)
  refine wpAny_bind (wpAny_of_eq (a := b) rfl ?_)
  rw [ho]
  simp only [Bool.false_eq_true, if_false, Bool.false_and, Bool.or_false]
  rw [if_pos (by decide : (-1 : Int) < 0)]
  unfold repl at h hz2
  cases hp : (Bytes.occurrences b old 0 b.size).isEmpty with
  | true =>
    rw [hp] at h hz2
    refine bm_if_true rfl (wpAny_bind (wpAny_rule ?_))
    refine wpAny_bind ?_
    unfold Bytes.Kind.same
    refine bm_if_true rfl ?_
    refine wpAny_bind (wpAny_of_eq (a := Value.type "bytes") rfl ?_)
    refine bm_if_true (by decide) ?_
    exact wpAny_pure (wpAny_pure ⟨_, rfl, h t s.toks⟩)
  | false =>
    rw [hp] at h hz2
    simp only [Bool.false_eq_true, if_false] at h hz2
    refine bm_if_false rfl ?_
    refine bm_if_false ?_ ?_
    · unfold Bytes.tooLong
      rw [sizeLine_eq]
      exact decide_eq_false (by omega)
    refine wpAny_bind (wpAny_mkBytes ?_ (by rw [sizeLine_eq]; omega))
    exact wpAny_pure ⟨_, rfl, h _ _⟩
theorem call_replace {b old new : Array UInt8} {t u v : Tok} {Q : Value → Shared → Prop} (ho : old.isEmpty = false) (hz : b.size + (Builtin.Bytes.occurrences b old 0 b.size).length * new.size ≤ 1000000) (hz2 : (repl b old new).size ≤ 1000000)
    (h : ∀ t k, Q (.bytes (repl b old new) t) { s with toks := k }) : wpAny (model prog w) A (call (.builtin "bytes.replace") [.bytes b t, .bytes old u, .bytes new v]) Q E s :=
  wpAny_call_entry BA.slot_replace (typeIs_bytes s b t) BA.entry_replace (replace_body ho hz hz2 h) (BA.args_replace _ _ _)
end
-- l16
structure XMakes (M : Model) (h : Heap) (C : Addr) : Prop where
  obj : ∃ oc od cd sl, h.get? C = some ⟨oc, od, .cls cd, sl⟩ ∧ cd.abstract = false ∧ cd.hasDel = false ∧ cd.mro.isEmpty = false
  made : Looks M h (Bind.madeBy (.ref C)) (some "Exception.__new__")
  base : Looks M h (Bind.staticBase (.ref C)) (.ref C)
  self : Looks M h (isSubtype (.ref C) (.ref C)) true
  top : Looks M h (isSubtype (.ref C) (.type "Exception")) true
  noAttr : Looks M h (isSubtype (.ref C) (.type "AttributeError")) false
  noName : Looks M h (isSubtype (.ref C) (.type "NameError")) false
  call : Looks M h (specialOf (.ref C) "__call__") (some (.builtin "type.__call__"))
  typ : Looks M h (isInstance (.ref C) (.type "type")) true
theorem xmakes_of {K : Frag} {M : Model} {h : Heap} (X : K.In h) {C : Addr} {oc : Value} {od : Option Addr} {cd : ClassData} {sl : Array (Option Value)} (ho : K.lookup C = some ⟨oc, od, .cls cd, sl⟩)
    (e : (!cd.abstract && !cd.hasDel && (sl.toList[4]?).join == some (.builtin "Exception.__new__") && !cd.mro.isEmpty) = true)
    (e7 : specialIn K (.ref C) "__call__" = some (some (.builtin "type.__call__"))) (e8 : instIn K (.ref C) (.type "type") = some true)
    (f1 : mroIn K C (.ref C) = some true) (f2 : mroIn K C (.type "Exception") = some true) (f3 : mroIn K C (.type "AttributeError") = some false) (f4 : mroIn K C (.type "NameError") = some false) : XMakes M h C := by
  simp only [Bool.and_eq_true, Bool.not_eq_true', beq_iff_eq] at e
  obtain ⟨⟨⟨e1, e2⟩, e3⟩, e4⟩ := e
  have hc : clsIn K C = some cd := by unfold clsIn; rw [ho]
  have hm : Looks M h (mroOf (.ref C)) cd.mro := (looks_clsIn X hc).andThen .now
  obtain ⟨c, l, hl⟩ : ∃ c l, cd.mro = c :: l := by cases q : cd.mro with | nil => rw [q] at e4; cases e4 | cons c l => exact ⟨c, l, rfl⟩
  have made : Looks M h (Bind.madeBy (.ref C)) (some "Exception.__new__") := by
    intro A Q E s k q
    unfold Bind.madeBy
    refine wpAny_bind (hm A _ E s k ?_)
    rw [hl, List.forIn_cons]
    refine wpAny_bind (wpAny_bind (wpAny_bind (wpAny_bind (wpAny_loadPart (k _ _ (X _ _ ho)) (wpAny_pure ?_)))))
    dsimp only
    rw [← Array.getElem?_toList, e3]
    exact wpAny_pure (wpAny_pure (wpAny_pure q))
  refine ⟨⟨oc, od, cd, sl, X _ _ ho, e1, e2, e4⟩, made, ?_, looks_mroIn X f1, looks_mroIn X f2, looks_mroIn X f3, looks_mroIn X f4, looks_specialIn X e7, looks_instIn X e8⟩
  intro A Q E s k q
  unfold Bind.staticBase
  refine wpAny_bind (hm A _ E s k ?_)
  rw [hl, List.forIn_cons]
  exact wpAny_bind (wpAny_bind (wpAny_bind (made A _ E s k (wpAny_pure (wpAny_pure (wpAny_pure q))))))
section
variable {prog : Program} {w : World} {A : Around} {R : Result → Shared → Prop} {h : Heap} {g : Array GenState} {d : Drawn} {t : Nat} {os : OsState} {C : Addr}
noncomputable abbrev newExcObj (C t : Addr) : Obj := { cls := .ref C, data := .fields #[.ref t, .none, .none, .none, .bool false, .none] }
noncomputable abbrev tupleOb (vs : List Value) : Obj := { cls := .type "tuple", data := .seq vs.toArray }
theorem x_new {rest : List Value} (Y : XMakes (model prog w) h C) (hrest : rest.length ≤ sizeLine)
    (hq : R (.ok (.ret (.ref (h.objs.size + 1)))) ⟨(h.push (tupleOb rest)).push (newExcObj C h.objs.size), g, d, t, os⟩) :
    codeAny (model prog w) A (.call (.builtin "Exception.__new__") ⟨.ref C :: rest, []⟩) R ⟨h, g, d, t, os⟩ := by
  obtain ⟨⟨oc, od, cd, sl, hC, e1, e2, e4⟩, made, base, self, top, noAttr, noName, call, typ⟩ := Y
  have F := PySem.F.excBase_Exception
  have hends := F.ends
  have hstar := F.noStar
  have here : Looks (model prog w) h (Bind.madeHere "BaseException.__new__" (.ref C)) () := base.andThen (made.andThen (Looks.of_pure (by simp only [Option.map_some, F.canon, bne_self_eq_false, Bool.false_eq_true, if_false])))
  refine codeAny_call_builtin_code (Code.quiet_builtin _ F.quiet) ?_
  simp only [checkBuiltinCall, F.newKind, F.newSplit, F.newRow]
  repeat (first | simp only [bne_self_eq_false, Bool.false_eq_true, if_false] | lk)
  refine codeAny_builtinAt F.entry ?_
  unfold Builtin.«BaseException.__new__»
  refine PySem.wpAt_bind ?_
  show PySem.wpAt _ _ _ (stack >>= _) _ _ _
  refine PySem.wpAt_bind (PySem.wpAt_stack fun p below => PySem.wpAt_of_wpAny ?_)
  wp_walk
  refine PySem.wpAt_of_wpAny ?_
  rw [F.owner]
  repeat (first | simp only [bne_self_eq_false, Bool.false_eq_true, if_false, Bool.not_true] | lk)
  rw [if_neg (by rw [List.size_toArray]; omega)]
  unfold newObjAsIs
  repeat (first | simp only [bne_self_eq_false, Bool.false_eq_true, if_false, Bool.not_true] | lk)
  refine nd_load (Heap.get?_push_of_some _ (Heap.get?_push_of_some _ hC)) ?_
  repeat (first | simp only [e2, Bool.false_eq_true, if_false] | lk)
  show R _ _
  rw [Heap.size_push]
  exact hq
/-- an object of an own exception class with an own `__init__`: made, then the `__init__` runs -/
theorem x_core {rest : List Value} {fI : Addr} (Y : XMakes (model prog w) h C) (hi : Looks (model prog w) h (typeLookup (.ref C) "__init__") (some (.ref fI)))
    (hb : ∀ self, Looks (model prog w) h (bindSpecial (.ref fI) self) (.ref fI, [self])) (hrest : rest.length ≤ sizeLine)
    (hq : codeAny (model prog w) (A.under (.builtin "type.__call__" ⟨.ref C :: rest, []⟩)) (.call (.ref fI) ⟨.ref (h.objs.size + 1) :: rest, []⟩) (InitBack (h.objs.size + 1) R) ⟨(h.push (tupleOb rest)).push (newExcObj C h.objs.size), g, d, t, os⟩) :
    codeAny (model prog w) A (.call (.ref C) ⟨rest, []⟩) R ⟨h, g, d, t, os⟩ := by
  have Y' := Y
  obtain ⟨⟨oc, od, cd, sl, hC, e1, e2, e4⟩, made, base, self, top, noAttr, noName, call, typ⟩ := Y
  refine codeAny_of_tree ?_
  show wpAny _ _ (callAny (.ref C) _) _ _ _
  refine nd_load hC ?_
  show wpAny _ _ (callAny.viaDunder (.ref C) _) _ _ _
  unfold callAny.viaDunder
  refine wpAny_bind (call.at ?_)
  dsimp only
  rw [tc_bind]
  refine wpAny_bind (wpAny_pure (wpAny_bind (wpAny_pure ?_)))
  refine wpAny_pure (a := Fin.again (.call (.builtin "type.__call__") ⟨.ref C :: rest, []⟩)) (And.intro rfl ?_)
  refine codeAny_call_builtin_at (Code.quiet_builtin _ (by decide +kernel)) entry_typeCall (check_slot tc_kind tc_split typ (tc_args _ _ _) ?_)
  unfold Builtin.«type.__call__»
  have hm : Looks (model prog w) h (mroOf (.ref C)) cd.mro := ((Looks.ld (part := none) hC).andThen .now).andThen .now
  repeat (first | simp only [e4, Bool.false_eq_true, if_false] | with_reducible refine wpAny_call ?_ | lk)
  refine x_new Y' hrest ?_
  have k : ∀ b o, h.get? b = some o → ((h.push (tupleOb rest)).push (newExcObj C h.objs.size)).get? b = some o := fun b o e => Heap.get?_push_of_some _ (Heap.get?_push_of_some _ e)
  have hx : ((h.push (tupleOb rest)).push (newExcObj C h.objs.size)).get? (h.objs.size + 1) = some (newExcObj C h.objs.size) := by heap_get
  have t1 : Looks (model prog w) ((h.push (tupleOb rest)).push (newExcObj C h.objs.size)) (typeOf (.ref (h.objs.size + 1))) (.ref C) := (Looks.ld hx).andThen .now
  have s1 := self.keeps k
  have i1 := hi.keeps k
  have b1 := (hb (.ref (h.objs.size + 1))).keeps k
  unfold isInstance callSpecial? specialOf
  repeat (first | with_reducible refine wpAny_call ?_ | lk)
  refine codeAny_mono hq fun r s' z => ?_
  rcases r with e | (v | _ | _ | _) <;> first | exact z | exact z.elim | skip
  obtain ⟨rfl, z⟩ := z
  exact wpAny_pure (wpAny_pure z)
theorem x_init {E : Value → Shared → Prop} {e : Addr} {oe : Obj} {vs : Array Value} {rest : List Value} {Q : Value → Shared → Prop} (Y : XMakes (model prog w) h C) (he : h.get? e = some oe) (hc : oe.cls = .ref C) (hd : oe.data = .fields vs) (hv : 0 < vs.size) (hrest : rest.length ≤ sizeLine)
    (hq : Q .none ⟨(h.push (tupleOb rest)).update e (Obj.mapFields (·.setIfInBounds 0 (.ref h.objs.size))), g, d, t, os⟩) :
    wpAny (model prog w) A (PySem.call (.builtin "Exception.__init__") (.ref e :: rest)) Q E ⟨h, g, d, t, os⟩ := by
  obtain ⟨⟨oc, od, cd, sl, hC, e1, e2, e4⟩, made, base, self, top, noAttr, noName, call, typ⟩ := Y
  have F := PySem.F.excBase_Exception
  have hshort := F.noStar
  have t1 : Looks (model prog w) h (typeOf (.ref e)) (.ref C) := by
    rw [← hc]
    exact (Looks.ld he).andThen .now
  refine wpAny_call (codeAny_call_builtin F.init.plain F.initEntry ?_)
  · simp only [checkBuiltinCall, F.initKind, F.initSplit, F.initRow]
    unfold isInstance
    repeat (first | simp only [bne_self_eq_false, Bool.false_eq_true, if_false, Bool.not_true] | with_reducible refine Looks.at (by assumption) ?_ | with_reducible refine wpAny_bind ?_)
    unfold Bind.checkArgs
    dsimp only
    have hck : ∀ (a b : String) (n : Nat), Bind.check ⟨.positional, "*", "Exception", .self, [⟨"args", .varPos, false⟩]⟩ a b n [] = pure () := fun a b n => check_star_args _ _ _ _ _ _
    simp only [List.map_nil, hck]
    repeat (first | simp only [bne_self_eq_false, Bool.false_eq_true, if_false, Bool.not_true] | lk)
    rw [if_neg (by rw [List.size_toArray]; omega)]
    unfold newObjAsIs
    repeat (first | simp only [bne_self_eq_false, Bool.false_eq_true, if_false, Bool.not_true] | lk)
    have he' := Heap.get?_push_of_some (tupleOb rest) he
    have h0 : vs[0]? = some vs[0] := by simp [hv]
    refine nd_load he' (wpAny_pure ?_)
    simp only [hd]
    refine wpAny_pure ?_
    simp only [h0]
    refine wpAny_pure (wpAny_bind (wpAny_setField he' hd hv ?_))
    split
    · exact wpAny_letGo (wpAny_pure hq)
    · exact wpAny_pure (wpAny_pure hq)
end
-- l17
open Builtin Builtin.ObjectAttr in
section
variable {prog : Program} {w : World} {A : Around} {E : Value → Shared → Prop} {h : Heap} {g : Array GenState} {d : Drawn} {t : Nat} {os : OsState} {C x : Addr} {mA : Str → Option Value} {name : Str} {v : Value} {l : List Value} {cd : ClassData}
theorem xs_entry {tk : Tok} {Q : Fin → Shared → Prop} {ns : List Str} (Lm : Looks (model prog w) h (mroOf (.ref C)) l) (hpass : ∀ self, refuseLoop self "__setattr__" l = pure ()) (Ln : Looks (model prog w) h (typeLookup (.ref C) name) none)
    (Lc : Looks (model prog w) h (classData C) cd) (hdict : cd.hasDict = true) (I : h.Inst x C mA)
    (hq : ∀ h' tk', h'.Inst x C (fun y => if y = name then some v else mA y) →
      (∀ b o, b ≠ x → (∀ o₀ dx, h.get? x = some o₀ → o₀.dict = some dx → b ≠ dx) → h.get? b = some o → h'.get? b = some o) →
      (∀ o₀, h.get? x = some o₀ → ∃ o₁, h'.get? x = some o₁ ∧ o₁.cls = o₀.cls ∧ o₁.data = o₀.data ∧ o₁.slots = o₀.slots ∧ (∀ dx, o₀.dict = some dx → o₁.dict = some dx) ∧ ∀ dx, o₁.dict = some dx → o₀.dict = some dx ∨ h.get? dx = none) → Q (.done (.ret .none)) ⟨h', g, d, tk', os⟩) (hw : Within mA ns) (hsz : ns.length ≤ 1000) :
    wpAny (model prog w) A (Builtin.«object.__setattr__» ⟨[.ref x, .str name tk, v], []⟩) Q E ⟨h, g, d, t, os⟩ := by
  obtain ⟨o, hx, hc, hnc, hd⟩ := I
  have Lt : Looks (model prog w) h (typeOf (.ref x)) (.ref C) := by
    rw [← hc]
    exact (Looks.ld hx).andThen .now
  rw [osa_eq, refuse_eq]
  refine wpAny_bind (wpAny_bind (Lt.at (wpAny_bind (Lm.at ?_))))
  rw [hpass]
  refine wpAny_pure (wpAny_bind (Lt.at (wpAny_bind (Ln.at ?_))))
  unfold storeTaker?
  repeat (first | simp only [bne_self_eq_false, Bool.false_eq_true, if_false, Bool.not_true] | lk)
  simp only [hc]
  refine wpAny_bind (Lc.at ?_)
  simp only [hdict, Bool.not_true, Bool.false_eq_true, if_false]
  rcases hd with ⟨hdn, hmA⟩ | ⟨dx, hdx, hne, hns⟩
  · rw [hdn]
    dsimp only
    rw [if_neg (by simp [typeHasDict])]
    have hx₁ : (h.push { cls := .type "dict", data := .dict #[] }).get? x = some o := Heap.get?_push_of_some _ hx
    have hxs : x ≠ h.objs.size := Nat.ne_of_lt (Heap.lt_size hx)
    refine wpAny_bind (wpAny_alloc' (wpAny_bind (wpAny_update' hx₁ ?_)))
    refine wpAny_pure ?_
    have hgd : ((h.push { cls := .type "dict", data := .dict #[] }).update x fun o => { cls := o.cls, dict := some h.objs.size, data := o.data, slots := o.slots }).get? h.objs.size
        = some { cls := .type "dict", data := .dict #[] } :=
      (Heap.get?_update_ne _ _ _ _ hxs.symm).trans (Heap.get?_push_at rfl rfl)
    have hnd : ((h.push { cls := .type "dict", data := .dict #[] }).update x fun o => { cls := o.cls, dict := some h.objs.size, data := o.data, slots := o.slots }).Ns h.objs.size (fun _ => none) :=
      ⟨_, #[], _, hgd, rfl, fun e he => absurd he (by simp), fun _ => rfl⟩
    show wpAny _ _ (storeInDict h.objs.size (.str name tk) name v) _ _ _
    unfold storeInDict newKeyGuard
    refine wpAny_bind (wpAny_pure (wpAny_bind (wpAny_nsSet1 (Heap.Ns1.of_empty hnd) fun h' hn' hs => ?_)))
    obtain ⟨oD, esD, epD, hoD, hdD, hcD⟩ := hn'.count (Within.cons name v Within.nil)
    refine wpAny_bind (wpAny_lookBehind hoD (by rw [hdD]; exact pastItsLine_dict (Nat.le_trans hcD (by rw [List.length_cons, List.length_nil, sizeLine_eq]; omega))) ?_)
    refine wpAny_pure ?_
    have hx' : h'.get? x = some { cls := o.cls, dict := some h.objs.size, data := o.data, slots := o.slots } := by
      refine (hs.2 x hxs).trans (Heap.get?_update_self _ hx₁ ?_)
      have hfr := (Heap.get?_some_iff.mp hx).2
      obtain ⟨oc, od, odt, osl⟩ := o
      cases odt <;> first | rfl | exact hfr
    refine hq h' _ ⟨_, hx', hc, hnc, .inr ⟨h.objs.size, rfl, hxs.symm, ?_⟩⟩ (fun b ob hbx _ hb => ?_)
      (fun o₀ h₀ => by obtain rfl : o = o₀ := Option.some.inj (hx.symm.trans h₀); exact ⟨_, hx', rfl, rfl, rfl, (fun dx e => by rw [hdn] at e; cases e), fun dx e => .inr (by cases e; exact Heap.get?_none_of_le (Nat.le_refl _))⟩)
    · obtain ⟨o', es, ep, e1, e2, e3, eu, e4⟩ := hn'
      exact ⟨o', es, ep, e1, e2, e3, eu, fun y => by rw [e4 y]; by_cases hy : y = name <;> simp [hy, hmA]⟩
    · exact (hs.2 b (Nat.ne_of_lt (Heap.lt_size hb))).trans ((Heap.get?_update_ne _ _ _ _ hbx).trans (Heap.get?_push_of_some _ hb))
  · rw [hdx]
    refine wpAny_pure ?_
    show wpAny _ _ (storeInDict dx (.str name tk) name v) _ _ _
    unfold storeInDict newKeyGuard
    refine wpAny_bind (wpAny_pure (wpAny_bind (wpAny_nsSet1 hns fun h' hn' hs => ?_)))
    obtain ⟨oD, esD, epD, hoD, hdD, hcD⟩ := hn'.count (Within.cons name v hw)
    refine wpAny_bind (wpAny_lookBehind hoD (by rw [hdD]; exact pastItsLine_dict (Nat.le_trans hcD (by rw [List.length_cons, sizeLine_eq]; omega))) ?_)
    refine wpAny_pure ?_
    refine hq h' _ ⟨o, (hs.2 x hne.symm).trans hx, hc, hnc, .inr ⟨dx, hdx, hne, hn'⟩⟩ (fun b ob _ hbd hb => ?_)
      (fun o₀ h₀ => ⟨o₀, (hs.2 x hne.symm).trans h₀, rfl, rfl, rfl, (fun _ e => e), fun _ e => .inl e⟩)
    exact (hs.2 b (hbd o dx hx hdx)).trans hb
theorem xs_attr {Q : Unit → Shared → Prop} {ns : List Str} (Lm : Looks (model prog w) h (mroOf (.ref C)) l) (hpass : ∀ self, refuseLoop self "__setattr__" l = pure ()) (Ln : Looks (model prog w) h (typeLookup (.ref C) name) none)
    (Ls : Looks (model prog w) h (typeLookup (.ref C) "__setattr__") (some (.builtin "object.__setattr__"))) (Lo : Looks (model prog w) h (isSubtype (.ref C) (.type "object")) true)
    (Lc : Looks (model prog w) h (classData C) cd) (hdict : cd.hasDict = true) (I : h.Inst x C mA)
    (hq : ∀ h' tk', h'.Inst x C (fun y => if y = name then some v else mA y) →
      (∀ b o, b ≠ x → (∀ o₀ dx, h.get? x = some o₀ → o₀.dict = some dx → b ≠ dx) → h.get? b = some o → h'.get? b = some o) →
      (∀ o₀, h.get? x = some o₀ → ∃ o₁, h'.get? x = some o₁ ∧ o₁.cls = o₀.cls ∧ o₁.data = o₀.data ∧ o₁.slots = o₀.slots ∧ (∀ dx, o₀.dict = some dx → o₁.dict = some dx) ∧ ∀ dx, o₁.dict = some dx → o₀.dict = some dx ∨ h.get? dx = none) → Q () ⟨h', g, d, tk', os⟩) (hw : Within mA ns) (hsz : ns.length ≤ 1000) :
    wpAny (model prog w) A (setAttr (.ref x) name v) Q E ⟨h, g, d, t, os⟩ := by
  obtain ⟨o, hx, hc, _⟩ := id I
  have Lt : Looks (model prog w) h (typeOf (.ref x)) (.ref C) := by
    rw [← hc]
    exact (Looks.ld hx).andThen .now
  have SF := PySem.F.store_object
  refine wpAny_bind (wpAny_mkText (wpAny_bind (wpAny_bind (wpAny_bind (Lt.at (Ls.at (wpAny_holding ?_)))))))
  rw [SF.slot.bind]
  refine wpAny_bind (wpAny_pure (wpAny_bind (wpAny_call ?_)))
  refine codeAny_call_builtin SF.slot.plain SF.entry (@check_slot (model prog w) _ _ _ "object.__setattr__" "object" "__setattr__" (.ref x) [.str name _, v] [] _ SF.kind SF.split (Lt.andThen Lo) (SF.args (.ref x) (.str name _) v) ?_)
  refine xs_entry Lm hpass Ln Lc hdict I (fun h' tk' I' hk hsame => ?_) hw hsz
  exact wpAny_pure (wpAny_pure (hq h' tk' I' hk hsame))
end
-- p01
theorem enter {prog : Program} {w : World} {A : Around} {s : Shared} {h₀ : Heap} {K : Frag} {p : Program} {loose : List Str} {mean : ExcName → Option Value} {mg mb : Str → Option Value}
    {R : Result → Shared → Prop} {name qual : Str} {params : Arguments} {body : List Stmt} {scope : Scope} {dV kV doc pm cdv ct oc : Value} {an od : Option Addr} {osl : Array (Option Value)} {f : Addr} {args : Args} {binds : List (Str × Value)}
    {led : List (Addr × Obj)}
    (X : K.In h₀) (T : Top p loose mean mg mb h₀) (keep : h₀.StaysIn s.heap) (N : ∀ q ∈ led, s.heap.get? q.1 = some q.2 ∧ h₀.get? q.1 = none)
    (ho : K.lookup f = some ⟨oc, od, .func (fnOf name qual params body scope dV kV doc pm an cdv ct), osl⟩) (hcd : codeIn K cdv qual = true) (hroom : A.depth < recursionLimit)
    (hbind : BindsTo s (fnOf name qual params body scope dV kV doc pm an cdv ct) args binds) (hloc : ∀ y ∈ binds, scope.names.lookup y.1 = some .local)
    (h : ∀ g L' h₁, (∀ b o, s.heap.get? b = some o → b ∉ led.map (·.1) → g.get? b = some o) → h₀.StaysIn g → Fr g L' h₁ (fun y => binds.reverse.lookup y) → News g L' h₁ led → K.In g → Top p loose mean mg mb g →
      wpAny (model prog w) (A.deeper (envOf qual scope L' f cdv)) (execs body (envOf qual scope L' f cdv))
        (fun fl s' => R (.ok (.ret (match fl with | .ret v => v | _ => .none))) s')
        (fun e s' => wpAny (model prog w) (A.deeper (envOf qual scope L' f cdv)) (leaving (envOf qual scope L' f cdv) e) (fun _ s'' => R (.error e) s'') (fun e' s'' => R (.error e') s'') s')
        { s with heap := h₁, toks := s.toks + binds.length })
    (hco : scope.isCoroutine = false) (hgen : scope.isGenerator = false) (hk : scope.kind = .function)
    (hcell : ∀ x ∈ scope.names, x.2 ≠ .cell) : codeAny (model prog w) A (.call (.ref f) args) R s := by
  refine codeAny_call_def (fd := fnOf name qual params body scope dV kV doc pm an cdv ct) (body := body) (binds := binds) hroom (keep _ _ (X _ _ ho)) rfl (T.nolimit.keeps keep) (codeRec_of (X.keeps keep) hcd) rfl hbind hcell hloc (fun h₁ hns hk₁ => ?_) hco hgen hk
  have nm : ∀ b o, h₀.get? b = some o → b ∉ led.map (·.1) := fun b o e q => by
    obtain ⟨p, hp, rfl⟩ := List.mem_map.mp q
    rw [(N p hp).2] at e; cases e
  have st : h₀.StaysIn (hideAll s.heap (led.map (·.1))) := fun b o e => hideAll_get _ (keep b o e) (nm b o e)
  exact h _ s.heap.objs.size h₁ (fun b o e hb => hideAll_get _ e hb) st ⟨hns, fun b o e => hk₁ b o (of_hideAll _ e), Nat.le_of_eq (hideAll_size _ _)⟩
    (fun p hp => ⟨hk₁ _ _ (N p hp).1, Nat.ne_of_lt (Heap.lt_size (N p hp).1), hideAll_none _ (List.mem_map_of_mem hp)⟩) (X.keeps st) (T.keeps st)
theorem rl : recursionLimit = 1000 := rfl

/-- the remaining octets behind the wire's place -/
noncomputable def At (D : Array UInt8) (p : Int) (l : List UInt8) : Prop := 0 ≤ p ∧ D.toList.drop p.toNat = l ∧ p.toNat ≤ D.size
namespace At
variable {D : Array UInt8} {p : Int} {l a r : List UInt8} {c : UInt8}
theorem size (h : At D p l) : (D.size : Int) = p + l.length := by
  obtain ⟨h0, h1, h2⟩ := h
  have := congrArg List.length h1
  simp only [List.length_drop, Array.length_toList] at this
  omega
theorem item (h : At D p (c :: r)) : D.toList.getD p.toNat 0 = c := by
  obtain ⟨h0, h1, h2⟩ := h
  have : (D.toList.drop p.toNat)[0]? = some c := by rw [h1]; rfl
  rw [List.getElem?_drop, Nat.add_zero] at this
  rw [List.getD_eq_getElem?_getD, this]; rfl
theorem next (h : At D p (a ++ r)) : At D (p + a.length) r := by
  have hs := h.size
  obtain ⟨h0, h1, h2⟩ := h
  rw [List.length_append] at hs
  refine ⟨by omega, ?_, by omega⟩
  have : (p + (a.length : Int)).toNat = p.toNat + a.length := by omega
  rw [this, ← List.drop_drop, h1, List.drop_left]
theorem one (h : At D p (c :: r)) : At D (p + 1) r := by
  have := At.next (a := [c]) (r := r) h
  simpa using this
theorem start (D : Array UInt8) : At D 0 D.toList := ⟨Int.le_refl _, rfl, Nat.zero_le _⟩
theorem of_take (h : At D p l) (n : Nat) : At D (p + (l.take n).length) (l.drop n) := by
  have : At D p (l.take n ++ l.drop n) := by rw [List.take_append_drop]; exact h
  exact this.next
end At

/-- the wire's parts -/
noncomputable abbrev wEs (H1 H2 : Int) (k1 k2 : Tok) (D : Array UInt8) (td : Tok) (p : Int) (tp : Tok) : List DictEntry :=
  [⟨H1, .str (Str.ofString "data") k1, .bytes D td⟩, ⟨H2, .str (Str.ofString "at") k2, .int p tp⟩]
noncomputable abbrev wOb (H1 H2 : Int) (k1 k2 : Tok) (D : Array UInt8) (td : Tok) (p : Int) (tp : Tok) : Obj := dictOf (wEs H1 H2 k1 k2 D td p tp) 2
noncomputable abbrev wLed (aw ad : Addr) (H1 H2 : Int) (k1 k2 : Tok) (D : Array UInt8) (td : Tok) (p : Int) (tp : Tok) : List (Addr × Obj) :=
  [(aw, instObj 355 ad), (ad, wOb H1 H2 k1 k2 D td p tp)]
noncomputable def Has (h₀ h : Heap) (led : List (Addr × Obj)) : Prop := ∀ q ∈ led, h.get? q.1 = some q.2 ∧ h₀.get? q.1 = none
theorem Has.of {g h : Heap} {L : Addr} {led sub : List (Addr × Obj)} (N : News g L h led) (hs : ∀ q ∈ sub, q ∈ led) : Has g h sub := fun q hq => ⟨(N q (hs q hq)).1, (N q (hs q hq)).2.2⟩
noncomputable def Hid (h : Heap) (led : List (Addr × Obj)) (g : Heap) : Prop := ∀ b o, h.get? b = some o → b ∉ led.map (·.1) → g.get? b = some o

theorem Has.apart {h₀ h : Heap} {led : List (Addr × Obj)} (H : Has h₀ h led) {a b : Addr} {o o' : Obj} (ha : (a, o) ∈ led) (hb : (b, o') ∈ led) (hne : o ≠ o') : a ≠ b := by
  rintro rfl
  have h1 := (H _ ha).1
  rw [(H _ hb).1] at h1
  exact hne (Option.some.inj h1).symm
theorem Has.wne {h₀ h : Heap} {aw ad : Addr} {H1 H2 : Int} {k1 k2 : Tok} {D : Array UInt8} {td : Tok} {p : Int} {tp : Tok} (H : Has h₀ h (wLed aw ad H1 H2 k1 k2 D td p tp)) : aw ≠ ad :=
  H.apart (.head _) (.tail _ (.head _)) (fun e => by cases (congrArg Obj.data e))
/-- room for n calls more -/
noncomputable def Low (A : Around) (n : Nat) : Prop := A.handled = none ∧ A.depth + 10 * n ≤ 900 ∧ A.units + 100 * n ≤ 9000
theorem Low.deeper {A : Around} {n : Nat} {e : Env} (h : Low A (n + 1)) : Low (A.deeper e) n := by
  obtain ⟨h1, h2, h3⟩ := h
  refine ⟨h1, ?_, ?_⟩
  · show A.depth + 1 + _ ≤ _; omega
  · show A.units + 3 + _ ≤ _; omega
theorem Low.mono {A : Around} {n m : Nat} (h : Low A n) (hm : m ≤ n) : Low A m := ⟨h.1, by have := h.2.1; omega, by have := h.2.2; omega⟩
theorem Low.room {A : Around} {n : Nat} (h : Low A n) : A.depth < recursionLimit := by rw [rl]; have := h.2.1; omega

section
variable {M : Model} {A : Around} {α : Type} {t : Sem Value} {Q E : Value → Shared → Prop} {s : Shared} {g h : Heap} {L ad : Addr} {m : Str → Option Value} {led : List (Addr × Obj)} {o : Obj}
noncomputable abbrev PPost (s : Shared) (Q : Value → Shared → Prop) (v : Tok → Value) : Prop := ∀ tv h' tk', s.heap.StaysIn h' → Q (v tv) { s with heap := h', toks := tk' }
noncomputable abbrev WPost (s : Shared) (ad : Addr) (mk : Int → Tok → Obj) (R : Int → Prop) (Q : Value → Shared → Prop) (v : Tok → Value) : Prop := ∀ p' tp' tv h' tk', R p' → Kept ad s.heap h' → h'.get? ad = some (mk p' tp') → Q (v tv) { s with heap := h', toks := tk' }
theorem pcall_r {v : Tok → Value} (F : Fr g L s.heap m) (N : News g L s.heap led) (C : PPost s Q v → wpAny M A t Q E s)
    (k : ∀ tv h' tk', Fr g L h' m → News g L h' led → Q (v tv) { s with heap := h', toks := tk' }) : wpAny M A t Q E s :=
  C fun tv h' tk' st => k tv h' tk' (F.keeps st) fun q hq => ⟨st _ _ (N q hq).1, (N q hq).2⟩
theorem upd_news {o' : Obj} {led' : List (Addr × Obj)} {h' : Heap} (F : Fr g L h m) (N : News g L h led) (U : Upd ad o o' led led') (hk : Kept ad h h') (ho : h'.get? ad = some o') : Fr g L h' m ∧ News g L h' led' := by
  obtain ⟨pre, post, rfl, rfl, a, b⟩ := U.split
  have Dd := N (ad, o) (by simp)
  obtain ⟨oL, es, ep, hL, r⟩ := F.ns
  refine ⟨⟨⟨oL, es, ep, hk _ _ hL (Ne.symm Dd.2.1), r⟩, fun b x q => hk _ _ (F.keep b x q) fun z => ?_, F.above⟩, fun p hp => ?_⟩
  · have := Dd.2.2; rw [← z, q] at this; cases this
  · rcases List.mem_append.mp hp with q | q
    · have P := N p (List.mem_append_left _ q); exact ⟨hk _ _ P.1 (a p q), P.2⟩
    · rcases List.mem_cons.mp q with rfl | q
      · exact ⟨ho, Dd.2⟩
      · have P := N p (List.mem_append_right _ (.tail _ q)); exact ⟨hk _ _ P.1 (b p q), P.2⟩
theorem ppost_r {v : Tok → Value} (F : Fr g L s.heap m) (N : News g L s.heap led) (k : ∀ tv h' tk', Fr g L h' m → News g L h' led → Q (v tv) { s with heap := h', toks := tk' }) : PPost s Q v :=
  fun tv h' tk' st => k tv h' tk' (F.keeps st) fun q hq => ⟨st _ _ (N q hq).1, (N q hq).2⟩
theorem wpost_r {v : Tok → Value} {mk : Int → Tok → Obj} {R : Int → Prop} {led' : Int → Tok → List (Addr × Obj)} (F : Fr g L s.heap m) (N : News g L s.heap led) (U : ∀ p' tp', Upd ad o (mk p' tp') led (led' p' tp'))
    (k : ∀ p' tp' tv h' tk', R p' → Fr g L h' m → News g L h' (led' p' tp') → Q (v tv) { s with heap := h', toks := tk' }) : WPost s ad mk R Q v :=
  fun p' tp' tv h' tk' hR hk ho => k p' tp' tv h' tk' hR (upd_news F N (U p' tp') hk ho).1 (upd_news F N (U p' tp') hk ho).2
end

section
variable {prog : Program} {w : World} {A : Around} {s : Shared} {h₀ : Heap} {K : Frag} {p : Program} {loose : List Str} {mean : ExcName → Option Value} {mg mb : Str → Option Value} {Q E : Value → Shared → Prop}
/-- a call of a def of the text, for what it gives back alone -/
theorem enter0 {name qual : Str} {params : Arguments} {body : List Stmt} {scope : Scope} {dV kV doc pm cdv ct oc : Value} {an od : Option Addr} {osl : Array (Option Value)} {f : Addr} {args : List Value} {binds : List (Str × Value)}
    {led : List (Addr × Obj)} {n : Nat} (hA : Low A (n + 1))
    (X : K.In h₀) (T : Top p loose mean mg mb h₀) (keep : h₀.StaysIn s.heap) (N : Has h₀ s.heap led)
    (ho : K.lookup f = some ⟨oc, od, .func (fnOf name qual params body scope dV kV doc pm an cdv ct), osl⟩) (hcd : codeIn K cdv qual = true)
    (hbind : BindsTo s (fnOf name qual params body scope dV kV doc pm an cdv ct) ⟨args, []⟩ binds) (hloc : ∀ y ∈ binds, scope.names.lookup y.1 = some .local)
    (h : ∀ g L' h₁, Hid s.heap led g → Fr g L' h₁ (fun y => binds.reverse.lookup y) → News g L' h₁ led → K.In g → Top p loose mean mg mb g → Low (A.deeper (envOf qual scope L' f cdv)) n →
      wpAny (model prog w) (A.deeper (envOf qual scope L' f cdv)) (execs body (envOf qual scope L' f cdv))
        (fun fl s' => Q (match fl with | .ret v => v | _ => .none) s') (fun _ _ => False)
        { s with heap := h₁, toks := s.toks + binds.length })
    (hco : scope.isCoroutine = false) (hgen : scope.isGenerator = false) (hk : scope.kind = .function)
    (hcell : ∀ x ∈ scope.names, x.2 ≠ .cell) : wpAny (model prog w) A (call (.ref f) args) Q E s := by
  refine wpAny_call ?_
  refine enter X T keep N ho hcd hA.room hbind hloc (fun g L' h₁ hg st F' N' X' T' => ?_) hco hgen hk hcell
  exact wpAny_mono (h g L' h₁ hg F' N' X' T' hA.deeper) (fun _ _ q => q) fun _ _ q => q.elim
end
/-- what a body's end gives to the caller: all but the hidden addresses is kept -/
theorem kept_all {h h₀ g h' : Heap} {L' : Addr} {m' : Str → Option Value} {led led' : List (Addr × Obj)} (hg : Hid h led g) (F' : Fr g L' h' m') (N' : News g L' h' led') (hN : Has h₀ h led) (hs : ∀ q ∈ led, q ∈ led') : h.StaysIn h' := by
  intro b o e
  by_cases hb : b ∈ led.map (·.1)
  · obtain ⟨q, hq, rfl⟩ := List.mem_map.mp hb
    have := (hN q hq).1
    rw [e] at this
    cases this
    exact (N' q (hs q hq)).1
  · exact F'.keep b o (hg b o e hb)
theorem kept_but {h h₀ g h' : Heap} {L' ad : Addr} {m' : Str → Option Value} {led led' : List (Addr × Obj)} (hg : Hid h led g) (F' : Fr g L' h' m') (N' : News g L' h' led') (hN : Has h₀ h led) (hs : ∀ q ∈ led, q.1 ≠ ad → q ∈ led') : Kept ad h h' := by
  intro b o e hne
  by_cases hb : b ∈ led.map (·.1)
  · obtain ⟨q, hq, rfl⟩ := List.mem_map.mp hb
    have := (hN q hq).1
    rw [e] at this
    cases this
    exact (N' q (hs q hq hne)).1
  · exact F'.keep b o (hg b o e hb)
section
variable {Q : Value → Shared → Prop} {s : Shared} {h₀ g h' : Heap} {L' ad : Addr} {m' : Str → Option Value} {led led' : List (Addr × Obj)} {v : Tok → Value} {v' : Value} {tk' : Nat}
theorem pend (hret : PPost s Q v) (hg : Hid s.heap led g) (hN : Has h₀ s.heap led) (F' : Fr g L' h' m') (N' : News g L' h' led') (hs : ∀ q ∈ led, q ∈ led') (tv : Tok) (e : v tv = v') : Q v' { s with heap := h', toks := tk' } :=
  e ▸ hret tv h' tk' (kept_all hg F' N' hN hs)
theorem wend {mk : Int → Tok → Obj} {R : Int → Prop} {p' : Int} {tp' : Tok} (hret : WPost s ad mk R Q v) (hg : Hid s.heap led g) (hN : Has h₀ s.heap led) (F' : Fr g L' h' m') (N' : News g L' h' led') (hs : ∀ q ∈ led, q.1 ≠ ad → q ∈ led') (hm : (ad, mk p' tp') ∈ led') (hR : R p') (tv : Tok) (e : v tv = v') : Q v' { s with heap := h', toks := tk' } :=
  e ▸ hret p' tp' tv h' tk' hR (kept_but hg F' N' hN hs) (N' _ hm).1
end
section
variable {prog : Program} {w : World} {A : Around} {E : Value → Shared → Prop} {s : Shared} {value slice : PySem.Expr} {D : Array UInt8} {td : Tok} {h₀ : Heap} {L : Addr} {m : PySem.Str → Option Value} {news : List (Addr × Obj)} {Q : Value → Shared → Prop} {i j : Int} {c : UInt8} {r l : List UInt8}
theorem item_r {ui : Tok} (hat : At D i (c :: r)) (hsz : D.size ≤ 1000000) (h : ∀ t' k, Q (.int (c.toNat : Int) t') { s with toks := k })
    (hs : subscripted slice false (.bytes D td) (.int i ui) = operate [.bytes D td, .int i ui] (getItem (.bytes D td) (.int i ui)) := by with_unfolding_all rfl)
    (ht : ∀ r, letTemporaryGo value (.bytes D td) r = pure () := by intro _; with_unfolding_all rfl) :
    wpAny (model prog w) A (subscriptTail value slice (.bytes D td) (.int i ui)) Q E s := by
  have e := hat.item
  have z := hat.size
  have h0 := hat.1
  obtain ⟨x⟩ := D
  rw [List.length_cons] at z
  simp only [List.size_toArray] at z hsz
  refine KBy.item_N (x := x) (by omega) h0 (by omega) ?_ hs ht
  rw [show x.getD i.toNat 0 = c from e]
  exact h _ _
theorem picked_at (hat : At D i l) (n : Nat) (hj : j = i + n) : KBy.picked D (some i) (some j) = (l.take n).toArray := by
  have z := hat.size
  obtain ⟨h0, h1, h2⟩ := hat
  rw [KBc.picked_eq]
  show ((D.toList.drop (clipAt D.size i)).take (clipAt D.size j - clipAt D.size i)).toArray = _
  have e1 : clipAt D.size i = i.toNat := by
    unfold clipAt
    rw [if_neg (by omega)]; omega
  have e2 : clipAt D.size j = min (i.toNat + n) D.size := by
    unfold clipAt
    subst hj
    rw [if_neg (by omega)]; omega
  rw [e1, e2, h1]
  congr 1
  have hl : l.length = D.size - i.toNat := by rw [← h1]; simp
  by_cases hn : i.toNat + n ≤ D.size
  · rw [Nat.min_eq_left hn, Nat.add_sub_cancel_left]
  · rw [Nat.min_eq_right (by omega), List.take_of_length_le (by omega), List.take_of_length_le (by omega)]
theorem slice_r {ti tj : Tok} (F : Fr h₀ L s.heap m) (N : News h₀ L s.heap news) (hat : At D i l) (n : Nat) (hj : j = i + n) (hsz : D.size ≤ 1000000)
    (h : ∀ h' t' k, Fr h₀ L h' m → News h₀ L h' news → Q (.bytes (l.take n).toArray t') { s with heap := h', toks := k })
    (hs : subscripted slice false (.bytes D td) (.ref s.heap.objs.size) = operate [.ref s.heap.objs.size, .bytes D td] (getItem (.bytes D td) (.ref s.heap.objs.size)) := by with_unfolding_all rfl)
    (ht : ∀ r, letTemporaryGo value (.bytes D td) r = pure () := by intro _; with_unfolding_all rfl) :
    wpAny (model prog w) A (subscriptTail value slice (.bytes D td) (.ref s.heap.objs.size)) Q E { s with heap := s.heap.push { cls := .type "slice", data := .fields #[.int i ti, .int j tj, .none] } } := by
  have e := picked_at hat n hj
  refine KBc.slice_K (ks := KBw.bInts D) F N rfl (by constructor) (by constructor) (by rw [KBw.ints_length]; omega) (fun h' t' k F' N' _ => ?_) hs ht
  rw [e]
  exact h h' t' k F' N'
theorem ne_r {b c : Array UInt8} {t u : Tok} (h : Q (.bool (b.toList != c.toList)) s) : wpAny (model prog w) A (compareOp .NotEq (.bytes b t) (.bytes c u)) Q E s := ne_bytes h
open Builtin in
theorem gives_has_int (b : Array UInt8) (i : Int) (t u : Tok) (h0 : 0 ≤ i) (h1 : i < 256) : Gives («bytes.__contains__» ⟨[.bytes b t, .int i u], []⟩) (.val (.bool (b.contains i.toNat.toUInt8))) := by
  refine .of_wp fun M A E s Q hq => ?_
  show wpAny M A (Bytes.containsIn "bytes.__contains__" (.bytes b t) (.int i u) >>= fun r => _) _ E s
  refine wpAny_bind ?_
  unfold Bytes.containsIn
  refine wpAny_bind (wpAny_of_eq (a := Except.ok i) rfl ?_)
  refine wpAny_bind (wpAny_of_eq KBy.buffer_eq ?_)
  show wpAny M A (if (decide (i < 0) || decide (i ≥ 256)) = true then _ else _) _ E s
  rw [if_neg (by simp only [Bool.or_eq_true, decide_eq_true_eq]; omega)]
  exact wpAny_pure (wpAny_pure ⟨_, rfl, hq⟩)
theorem in_int_r {i : Int} {t u : Tok} (h0 : 0 ≤ i) (h1 : i < 256) (h : Q (.bool (D.contains i.toNat.toUInt8)) s) : wpAny (model prog w) A (compareOp .In (.int i u) (.bytes D t)) Q E s :=
  in_gives (typeIs_bytes s D t) FB.slot_bytes_contains FB.entry_bytes_contains (FB.args_bytes_contains_2 _ _) (gives_has_int D i t u h0 h1) h
theorem notIn_int_r {i : Int} {t u : Tok} (h0 : 0 ≤ i) (h1 : i < 256) (h : Q (.bool (!(D.contains i.toNat.toUInt8))) s) : wpAny (model prog w) A (compareOp .NotIn (.int i u) (.bytes D t)) Q E s :=
  notIn_gives (typeIs_bytes s D t) FB.slot_bytes_contains FB.entry_bytes_contains (FB.args_bytes_contains_2 _ _) (gives_has_int D i t u h0 h1) h
end
-- p02
theorem u8_back (c : UInt8) : ((c.toNat : Nat) : Int).toNat.toUInt8 = c := by simp
theorem u8_lo (c : UInt8) : (0 : Int) ≤ (c.toNat : Int) := by omega
theorem u8_hi (c : UInt8) : (c.toNat : Int) < 256 := by have := c.toNat_lt; omega
noncomputable def isPrint (c : UInt8) : Bool := decide (33 ≤ (c.toNat : Int)) && decide ((c.toNat : Int) ≤ 126)
noncomputable def isFig (c : UInt8) : Bool := decide (48 ≤ (c.toNat : Int)) && decide ((c.toNat : Int) ≤ 57)
noncomputable def specials : Array UInt8 := #[40, 41, 123, 37, 42, 34, 92, 93]
noncomputable def isAtom (c : UInt8) : Bool := isPrint c && !(specials.contains c)
theorem vb {a b : Bool} (h : a = b) : Value.bool a = Value.bool b := congrArg _ h
local macro_rules | `(tactic| walk_at "mine sides") => `(tactic| ((case k6 => k_is); (case k7 => k_is); (case k9 => exact BindsTo.of_eq rfl); (case kB => exact locs rfl); (case c2 => exact rfl); (case c3 => exact rfl); (case c4 => exact rfl); (case c5 => decide)))
local macro_rules | `(tactic| walk_at "mine low") => `(tactic| first | assumption | exact Mine.Low.mono (by assumption) (by decide))
local macro_rules | `(tactic| walk_at "mine has") => `(tactic| first | exact Mine.Has.of (by assumption) (fun q hq => hq) | ((refine Mine.Has.of (by assumption) ?_); walk_at "mine sub"))
local macro_rules | `(tactic| walk_at "mine pend") => `(tactic| ((try dsimp only); (try k_unfold); (try dsimp only); (refine Mine.pend (by assumption) (by assumption) (by assumption) (by assumption) (by assumption) ?hs ?tv ?e); (case hs => first | exact (fun q hq => hq) | walk_at "mine sub"); (try (case e => rfl)); (try (case tv => exact (0 : Nat)))))
local macro_rules | `(tactic| walk_at "mine sub") => `(tactic| (repeat' (first | exact List.forall_mem_nil _ | refine' List.forall_mem_cons.mpr (And.intro ?_ ?_) | k_mem)))
local macro_rules | `(tactic| walk_at "mine wend") => `(tactic| ((try dsimp only); (try k_unfold); (try dsimp only); (refine Mine.wend (p' := ?p) (tp' := ?tp) (by assumption) (by assumption) (by assumption) (by assumption) (by assumption) ?hs ?hm ?hR ?tv ?e); (case hm => k_mem); (case hs => (repeat' (first | exact List.forall_mem_nil _ | refine' List.forall_mem_cons.mpr (And.intro ?_ ?_) | exact (fun hn => absurd rfl hn) | exact (fun _ => by k_mem)))); (try (case e => rfl)); (try (case tv => exact (0 : Nat)))))
local macro_rules | `(tactic| walk_at "mine upd") => `(tactic| (intro p' tp'; k_upd))
local macro_rules | `(tactic| walk_at "mine x") => `(tactic| ((with_unfolding_all ((first | (case F => assumption) | (fail_if_success (case' F => skip))); (first | (case N => assumption) | (fail_if_success (case' N => skip))); (case X => assumption); (case T => assumption); (first | (case hat => assumption) | (fail_if_success (case' hat => skip))); (first | (case hsz => assumption) | (fail_if_success (case' hsz => skip))); (first | (case hz => first | assumption | exact Nat.le_of_ble_eq_true rfl | omega) | (fail_if_success (case' hz => skip))); (first | (case hx => assumption) | (fail_if_success (case' hx => skip))); (first | (case hr => assumption) | (fail_if_success (case' hr => skip))); (first | (case hl => assumption) | (fail_if_success (case' hl => skip))); (first | (case hl₂ => assumption) | (fail_if_success (case' hl₂ => skip))); (first | (case hv => assumption) | (fail_if_success (case' hv => skip))); (first | (case hn => assumption) | (fail_if_success (case' hn => skip))); (first | (case hes => assumption) | (fail_if_success (case' hes => skip))); (first | (case hlen => assumption) | (fail_if_success (case' hlen => skip))))); (first | (case keep => exact Fr.keep (by assumption)) | (fail_if_success (case' keep => skip))); (case hA => walk_at "mine low"); (first | (case hw => walk_at "mine has") | (fail_if_success (case' hw => skip))); (first | (case hO => first | exact Nat.le_of_ble_eq_true rfl | omega) | (fail_if_success (case' hO => skip))); (first | (case hne => first | rfl | assumption | (simp; done)) | (fail_if_success (case' hne => skip)))))
local macro_rules | `(tactic| walk_at "mine r") => `(tactic| first | (refine' Mine.ppost_r (by assumption) (by assumption) ?_; intro _ _ _ _ _) | (refine' Mine.wpost_r (by assumption) (by assumption) ?kU ?_; (case kU => walk_at "mine upd"); intro _ _ _ _ _ _ _ _; (try k_sweep)))
local macro_rules | `(tactic| walk_at "mine q") => `(tactic| (walk_at "mine x"; walk_at "mine r"))
local macro_rules | `(tactic| walk_at "subscriptTail") => `(tactic| first | ((k_here; (with_reducible show wpAny _ _ (subscriptTail _ (Expr.Slice _ _ none _) (Value.bytes _ _) (Value.ref _)) _ _ _); (with_reducible rename Fr _ _ _ _ => F'); (with_reducible rename News _ _ _ _ => N'); (first | (refine Mine.slice_r (s := ⟨_, _, _, _, _⟩) F' N' (by assumption) _ rfl (by assumption) ?_) | (refine Mine.slice_r (s := ⟨_, _, _, _, _⟩) F' N' (by assumption) _ (by assumption) (by assumption) ?_)); intro _ _ _ F' N')) | ((k_here; (with_reducible show wpAny _ _ (subscriptTail _ _ (Value.bytes _ _) (Value.int _ _)) _ _ _); (refine Mine.item_r (by assumption) (by assumption) ?_); intro _ _)))
local macro_rules | `(tactic| walk_at "compareOp NotEq bytes bytes") => `(tactic| (k_here; refine Mine.ne_r ?_))
local macro_rules | `(tactic| walk_at "compareOp NotIn int bytes") => `(tactic| (k_here; refine Mine.notIn_int_r (by first | omega | exact Mine.u8_lo _) (by first | omega | exact Mine.u8_hi _) ?_))
local macro_rules | `(tactic| walk_at "compareOp In int bytes") => `(tactic| (k_here; refine Mine.in_int_r (by first | omega | exact Mine.u8_lo _) (by first | omega | exact Mine.u8_hi _) ?_))
local macro_rules | `(tactic| walk_at "call builtin:len") => `(tactic| (k_here; (with_reducible show wpAny _ _ (call (Value.builtin "len") [Value.bytes _ _]) _ _ _); (refine len_bytes (by omega) ?_)))

section
variable {w : World} {pv : Program} {loose : List Str} {mean : ExcName → Option Value} {mg mb : Str → Option Value} {h₀ : Heap} {A : Around} {s : Shared} {Q E : Value → Shared → Prop}
    {aw ad : Addr} {H1 H2 : Int} {k1 k2 : Tok} {D : Array UInt8} {td : Tok} {p : Int} {tp : Tok} {l : List UInt8}
set_option maxHeartbeats 4000000 in
theorem is_print_c (X : (hd.heap_1 w.params).In h₀) (T : Top pv loose mean mg mb h₀) (keep : h₀.StaysIn s.heap) (hA : Low A 1) (c : UInt8) (t : Tok)
    (hret : PPost s Q fun _ => .bool (isPrint c)) : wpAny (model PySem.Challenge.rw_pq0944_01.row.prog w) A (call (.ref 135) [.int (c.toNat : Int) t]) Q E s := by
  have hw : Has h₀ s.heap [] := fun q hq => nomatch hq
  k_dflt (refine' enter0 (binds := [(Str.ofString "code", .int (c.toNat : Int) t)]) hA X T keep hw ?k6 ?k7 ?k9 ?kB ?_ ?c2 ?c3 ?c4 ?c5)
  walk_at "mine sides"
  intro g' L' h' KG' F' N' X' T' A'
  clear X T keep hA
  (try k_fold)
  k_steps
  all_goals walk_at "mine pend"
  all_goals (refine vb ?_; unfold isPrint; first | (simp_all; done) | (simp_all; omega))
end
local macro_rules | `(tactic| walk_at "call ref") => `(tactic| (focus (with_reducible apply Mine.is_print_c); walk_at "mine q"))
section
variable {w : World} {pv : Program} {loose : List Str} {mean : ExcName → Option Value} {mg mb : Str → Option Value} {h₀ : Heap} {A : Around} {s : Shared} {Q E : Value → Shared → Prop}
    {aw ad : Addr} {H1 H2 : Int} {k1 k2 : Tok} {D : Array UInt8} {td : Tok} {p : Int} {tp : Tok} {l : List UInt8}
set_option maxHeartbeats 4000000 in
theorem is_atom_c (X : (hd.heap_1 w.params).In h₀) (T : Top pv loose mean mg mb h₀) (keep : h₀.StaysIn s.heap) (hA : Low A 2) (c : UInt8) (t : Tok)
    (hret : PPost s Q fun _ => .bool (isAtom c)) : wpAny (model PySem.Challenge.rw_pq0944_01.row.prog w) A (call (.ref 142) [.int (c.toNat : Int) t]) Q E s := by
  have hw : Has h₀ s.heap [] := fun q hq => nomatch hq
  k_dflt (refine' enter0 (binds := [(Str.ofString "code", .int (c.toNat : Int) t)]) hA X T keep hw ?k6 ?k7 ?k9 ?kB ?_ ?c2 ?c3 ?c4 ?c5)
  walk_at "mine sides"
  intro g' L' h' KG' F' N' X' T' A'
  clear X T keep hA
  (try k_fold)
  k_steps
  all_goals walk_at "mine pend"
  all_goals (refine vb ?_; unfold isAtom; simp_all [specials, u8_back])
set_option maxHeartbeats 4000000 in
theorem is_fig_c (X : (hd.heap_1 w.params).In h₀) (T : Top pv loose mean mg mb h₀) (keep : h₀.StaysIn s.heap) (hA : Low A 1) (c : UInt8) (t : Tok)
    (hret : PPost s Q fun _ => .bool (isFig c)) : wpAny (model PySem.Challenge.rw_pq0944_01.row.prog w) A (call (.ref 156) [.int (c.toNat : Int) t]) Q E s := by
  have hw : Has h₀ s.heap [] := fun q hq => nomatch hq
  k_dflt (refine' enter0 (binds := [(Str.ofString "code", .int (c.toNat : Int) t)]) hA X T keep hw ?k6 ?k7 ?k9 ?kB ?_ ?c2 ?c3 ?c4 ?c5)
  walk_at "mine sides"
  intro g' L' h' KG' F' N' X' T' A'
  clear X T keep hA
  (try k_fold)
  k_steps
  all_goals walk_at "mine pend"
  all_goals (refine vb ?_; unfold isFig; first | (simp_all; done) | (simp_all; omega))
noncomputable def first (l : List UInt8) : Int := match l with | [] => -1 | c :: _ => (c.toNat : Int)
set_option maxHeartbeats 4000000 in
theorem peek_c (X : (hd.heap_1 w.params).In h₀) (T : Top pv loose mean mg mb h₀) (keep : h₀.StaysIn s.heap) (hA : Low A 1)
    (hw : Has h₀ s.heap (wLed aw ad H1 H2 k1 k2 D td p tp)) (hat : At D p l) (hsz : D.size ≤ 1000000)
    (hret : PPost s Q fun t => .int (first l) t) :
    wpAny (model PySem.Challenge.rw_pq0944_01.row.prog w) A (call (.ref 199) [.ref aw]) Q E s := by
  k_dflt (refine' enter0 (binds := [(Str.ofString "self", .ref aw)]) hA X T keep hw ?k6 ?k7 ?k9 ?kB ?_ ?c2 ?c3 ?c4 ?c5)
  walk_at "mine sides"
  have hz := hat.size
  intro g' L' h' KG' F' N' X' T' A'
  clear X T keep hA
  cases l with
  | nil =>
    rw [List.length_nil] at hz
    (try k_fold)
    k_steps
    all_goals walk_at "mine pend"
  | cons c r =>
    rw [List.length_cons] at hz
    (try k_fold)
    k_steps
    all_goals walk_at "mine pend"
end
local macro_rules | `(tactic| walk_at "call ref") => `(tactic| (focus (with_reducible apply Mine.peek_c); walk_at "mine q"))
-- p03
theorem ne_no {a b : List UInt8} (h : a = b) : (a != b) = false := by subst h; simp
section
variable {w : World} {pv : Program} {loose : List Str} {mean : ExcName → Option Value} {mg mb : Str → Option Value} {h₀ : Heap} {A : Around} {s : Shared} {Q E : Value → Shared → Prop}
    {aw ad : Addr} {H1 H2 : Int} {k1 k2 : Tok} {D : Array UInt8} {td : Tok} {p : Int} {tp : Tok} {l : List UInt8}
set_option maxHeartbeats 4000000 in
theorem skip_yes_c (X : (hd.heap_1 w.params).In h₀) (T : Top pv loose mean mg mb h₀) (keep : h₀.StaysIn s.heap) (hA : Low A 1)
    (hw : Has h₀ s.heap (wLed aw ad H1 H2 k1 k2 D td p tp)) {O : Array UInt8} {to : Tok} {r : List UInt8} (hat : At D p (O.toList ++ r)) (hsz : D.size ≤ 1000000) (hO : O.size ≤ 1000)
    (hret : WPost s ad (wOb H1 H2 k1 k2 D td) (fun p' => At D p' r) Q fun _ => .bool true) :
    wpAny (model PySem.Challenge.rw_pq0944_01.row.prog w) A (call (.ref 206) [.ref aw, .bytes O to]) Q E s := by
  k_dflt (refine' enter0 (binds := [(Str.ofString "self", .ref aw), (Str.ofString "octets", .bytes O to)]) hA X T keep hw ?k6 ?k7 ?k9 ?kB ?_ ?c2 ?c3 ?c4 ?c5)
  walk_at "mine sides"
  have hne : ((List.take O.size (O.toList ++ r)).toArray.toList != O.toList) = false := ne_no (by simp)
  intro g' L' h' KG' F' N' X' T' A'
  clear X T keep hA
  have hq := hw.wne
  (try k_fold)
  k_steps
  all_goals walk_at "mine wend"
  have := hat.next
  rw [Array.length_toList] at this
  exact this
end
local macro_rules | `(tactic| walk_at "call ref") => `(tactic| (focus (with_reducible apply Mine.skip_yes_c); walk_at "mine q"))
section
variable {w : World} {pv : Program} {loose : List Str} {mean : ExcName → Option Value} {mg mb : Str → Option Value} {h₀ : Heap} {A : Around} {s : Shared} {Q E : Value → Shared → Prop}
    {aw ad : Addr} {H1 H2 : Int} {k1 k2 : Tok} {D : Array UInt8} {td : Tok} {p : Int} {tp : Tok} {l : List UInt8}
set_option maxHeartbeats 4000000 in
theorem skip_no_c (X : (hd.heap_1 w.params).In h₀) (T : Top pv loose mean mg mb h₀) (keep : h₀.StaysIn s.heap) (hA : Low A 1)
    (hw : Has h₀ s.heap (wLed aw ad H1 H2 k1 k2 D td p tp)) {O : Array UInt8} {to : Tok} (hat : At D p l) (hsz : D.size ≤ 1000000) (hO : O.size ≤ 1000) (hne : ((l.take O.size).toArray.toList != O.toList) = true)
    (hret : PPost s Q fun _ => .bool false) :
    wpAny (model PySem.Challenge.rw_pq0944_01.row.prog w) A (call (.ref 206) [.ref aw, .bytes O to]) Q E s := by
  k_dflt (refine' enter0 (binds := [(Str.ofString "self", .ref aw), (Str.ofString "octets", .bytes O to)]) hA X T keep hw ?k6 ?k7 ?k9 ?kB ?_ ?c2 ?c3 ?c4 ?c5)
  walk_at "mine sides"
  intro g' L' h' KG' F' N' X' T' A'
  clear X T keep hA
  (try k_fold)
  k_steps
  all_goals walk_at "mine pend"
end
local macro_rules | `(tactic| walk_at "call ref") => `(tactic| (focus (with_reducible apply Mine.skip_no_c); walk_at "mine q"))
section
variable {w : World} {pv : Program} {loose : List Str} {mean : ExcName → Option Value} {mg mb : Str → Option Value} {h₀ : Heap} {A : Around} {s : Shared} {Q E : Value → Shared → Prop}
    {aw ad : Addr} {H1 H2 : Int} {k1 k2 : Tok} {D : Array UInt8} {td : Tok} {p : Int} {tp : Tok} {l : List UInt8}
set_option maxHeartbeats 4000000 in
theorem need_c (X : (hd.heap_1 w.params).In h₀) (T : Top pv loose mean mg mb h₀) (keep : h₀.StaysIn s.heap) (hA : Low A 2)
    (hw : Has h₀ s.heap (wLed aw ad H1 H2 k1 k2 D td p tp)) {O : Array UInt8} {to : Tok} {what : Value} {r : List UInt8} (hat : At D p (O.toList ++ r)) (hsz : D.size ≤ 1000000) (hO : O.size ≤ 1000)
    (hret : WPost s ad (wOb H1 H2 k1 k2 D td) (fun p' => At D p' r) Q fun _ => .none) :
    wpAny (model PySem.Challenge.rw_pq0944_01.row.prog w) A (call (.ref 213) [.ref aw, .bytes O to, what]) Q E s := by
  k_dflt (refine' enter0 (binds := [(Str.ofString "self", .ref aw), (Str.ofString "octets", .bytes O to), (Str.ofString "what", what)]) hA X T keep hw ?k6 ?k7 ?k9 ?kB ?_ ?c2 ?c3 ?c4 ?c5)
  walk_at "mine sides"
  intro g' L' h' KG' F' N' X' T' A'
  clear X T keep hA
  have hq := hw.wne
  (try k_fold)
  k_steps
  all_goals walk_at "mine wend"
  assumption
end
local macro_rules | `(tactic| walk_at "call ref") => `(tactic| (focus (with_reducible apply Mine.need_c); walk_at "mine q"))
section
variable {w : World} {pv : Program} {loose : List Str} {mean : ExcName → Option Value} {mg mb : Str → Option Value} {h₀ : Heap} {A : Around} {s : Shared} {Q E : Value → Shared → Prop}
    {aw ad : Addr} {H1 H2 : Int} {k1 k2 : Tok} {D : Array UInt8} {td : Tok} {p : Int} {tp : Tok} {l : List UInt8}
set_option maxHeartbeats 4000000 in
theorem space_c (X : (hd.heap_1 w.params).In h₀) (T : Top pv loose mean mg mb h₀) (keep : h₀.StaysIn s.heap) (hA : Low A 3)
    (hw : Has h₀ s.heap (wLed aw ad H1 H2 k1 k2 D td p tp)) {r : List UInt8} (hat : At D p (32 :: r)) (hsz : D.size ≤ 1000000)
    (hret : WPost s ad (wOb H1 H2 k1 k2 D td) (fun p' => At D p' r) Q fun _ => .none) :
    wpAny (model PySem.Challenge.rw_pq0944_01.row.prog w) A (call (.ref 220) [.ref aw]) Q E s := by
  k_dflt (refine' enter0 (binds := [(Str.ofString "self", .ref aw)]) hA X T keep hw ?k6 ?k7 ?k9 ?kB ?_ ?c2 ?c3 ?c4 ?c5)
  walk_at "mine sides"
  intro g' L' h' KG' F' N' X' T' A'
  clear X T keep hA
  have hq := hw.wne
  (try k_fold)
  k_steps
  all_goals walk_at "mine wend"
  assumption
end
local macro_rules | `(tactic| walk_at "call ref") => `(tactic| (focus (with_reducible apply Mine.space_c); walk_at "mine q"))
-- p04
section
variable {prog : Program} {w : World} {A : Around} {Q : Flow → Shared → Prop} {s : Shared} {env : Env} {h₀ : Heap} {L : Addr} {m : Str → Option Value}
theorem while_w {σ : Type} {test : Expr} {body : List Stmt} {pos : Pos} (I : σ → Prop) (led : σ → List (Addr × Obj)) (μ : σ → Nat) (c₀ : σ)
    (F : Fr h₀ L s.heap m) (N : News h₀ L s.heap (led c₀)) (h0 : I c₀)
    (turn : ∀ c h tk, I c → Fr h₀ L h m → News h₀ L h (led c) →
      wpAny (model prog w) A (isTrue test env (eval test env)) (fun b s₂ =>
        if b = true then wpAny (model prog w) A (execs body env) (fun f s₃ => match f with | .ret v => Q (.ret v) s₃ | .brk => Q .next s₃ | _ => Turned h₀ L m s I led μ c s₃) (fun _ _ => False) s₂ else Q .next s₂) (fun _ _ => False) { s with heap := h, toks := tk }) :
    wpAny (model prog w) A (exec (.While test body [] pos) env) Q (fun _ _ => False) s := by
  refine While_inv2 (n₀ := μ c₀) (fun n m' nx => m' = m ∧ ∃ c, nx = led c ∧ I c ∧ μ c = n) F N ⟨rfl, c₀, rfl, h0, rfl⟩ ?_ PassesOwn.never
  rintro n m₁ nx h tk F₁ N₁ ⟨rfl, c, rfl, hI, rfl⟩
  refine wpAny_mono (turn c h tk hI F₁ N₁) (fun b s₂ hb => ?_) fun _ _ x => x
  cases b with
  | false => simpa using hb
  | true =>
    simp only [if_true] at hb ⊢
    refine wpAny_mono hb (fun f s₃ hf => ?_) fun _ _ x => x
    cases f with
    | ret v => exact hf
    | brk => exact hf
    | next =>
      obtain ⟨c', h', tk', led', e, F', N', hs, hI', hm'⟩ := hf
      exact ⟨h', tk', m₁, led c', μ c', e, F', fun q hq => N' q (hs q hq), hm', rfl, c', rfl, hI', rfl⟩
    | cont =>
      obtain ⟨c', h', tk', led', e, F', N', hs, hI', hm'⟩ := hf
      exact ⟨h', tk', m₁, led c', μ c', e, F', fun q hq => N' q (hs q hq), hm', rfl, c', rfl, hI', rfl⟩
end
local macro_rules | `(tactic| walk_at "call ref") => `(tactic| first | ((focus (with_reducible apply Mine.is_fig_c); walk_at "mine q")) | ((focus (with_reducible apply Mine.is_atom_c); walk_at "mine q")))
noncomputable def Stop (P : Prop) : Prop := P
theorem stop {P : Prop} (h : Stop P) : P := h
theorem go {P : Prop} (h : P) : Stop P := h
local macro_rules | `(tactic| walk_at "exec While BoolOp cons nil") => `(tactic| (k_here; refine Mine.stop ?_))
local macro_rules | `(tactic| walk_at "exec While UnaryOp cons nil") => `(tactic| (k_here; refine Mine.stop ?_))
local macro_rules | `(tactic| walk_at "exec While Compare cons nil") => `(tactic| (k_here; refine Mine.stop ?_))
section
variable {w : World} {pv : Program} {loose : List Str} {mean : ExcName → Option Value} {mg mb : Str → Option Value} {h₀ : Heap} {A : Around} {s : Shared} {Q E : Value → Shared → Prop}
    {aw ad : Addr} {H1 H2 : Int} {k1 k2 : Tok} {D : Array UInt8} {td : Tok} {p : Int} {tp : Tok} {l l₂ : List UInt8}
set_option maxHeartbeats 4000000 in
theorem run_atom_c (X : (hd.heap_1 w.params).In h₀) (T : Top pv loose mean mg mb h₀) (keep : h₀.StaysIn s.heap) (hA : Low A 3)
    (hw : Has h₀ s.heap (wLed aw ad H1 H2 k1 k2 D td p tp)) (hat : At D p (l ++ l₂)) (hsz : D.size ≤ 1000000) (hl : ∀ c ∈ l, isAtom c = true) (hl₂ : ∀ c r, l₂ = c :: r → isAtom c = false)
    (hret : WPost s ad (wOb H1 H2 k1 k2 D td) (fun p' => At D p' l₂) Q fun t => .bytes l.toArray t) :
    wpAny (model PySem.Challenge.rw_pq0944_01.row.prog w) A (call (.ref 234) [.ref aw, .ref 142]) Q E s := by
  k_dflt (refine' enter0 (binds := [(Str.ofString "self", .ref aw), (Str.ofString "fits", .ref 142)]) hA X T keep hw ?k6 ?k7 ?k9 ?kB ?_ ?c2 ?c3 ?c4 ?c5)
  walk_at "mine sides"
  intro g' L' h' KG' F' N' X' T' A'
  clear X T keep hA
  have hq := hw.wne
  (try k_fold)
  k_steps
  refine go ?_
  refine while_w (σ := Int × Tok × List UInt8 × List UInt8) (fun c => l = c.2.2.1 ++ c.2.2.2 ∧ At D c.1 (c.2.2.2 ++ l₂) ∧ c.1 = p + (c.2.2.1.length : Nat)) (fun c => wLed aw ad H1 H2 k1 k2 D td c.1 c.2.1) (fun c => c.2.2.2.length) (p, tp, [], l) (by assumption) (by assumption) ⟨rfl, hat, by simp⟩ ?_
  rintro ⟨p', tp', a, b⟩ h₁ tk₁ ⟨e1, hat', hj⟩ F₁ N₁
  dsimp only at e1 hat' hj N₁ ⊢
  have hz := hat'.size
  cases b with
  | nil =>
    rw [List.append_nil] at e1
    subst e1
    rw [List.nil_append] at hat' hz
    cases l₂ with
    | nil =>
      rw [List.length_nil] at hz
      (try k_fold)
      k_steps
      have et : List.take l.length (l ++ []) = l := List.take_left ..
      rw [et]
      walk_at "mine wend"
      assumption
    | cons c r =>
      have hc := hl₂ c r rfl
      rw [List.length_cons] at hz
      (try k_fold)
      k_steps
      have et : List.take l.length (l ++ c :: r) = l := List.take_left ..
      rw [et]
      walk_at "mine wend"
      assumption
  | cons c b =>
    have hc := hl c (by rw [e1]; simp)
    rw [List.cons_append] at hat' hz
    rw [List.length_cons] at hz
    (try k_fold)
    k_steps
    dsimp only
    refine' turned (c' := (?p1, ?t1, a ++ [c], b)) (by assumption) (by assumption) ?hs ?hI ?hm
    case hs => walk_at "mine sub"
    case hI => exact ⟨by rw [e1]; simp, hat'.one, by dsimp only; simp only [List.length_append, List.length_cons, List.length_nil]; omega⟩
    case hm => exact Nat.lt_succ_self _
set_option maxHeartbeats 4000000 in
theorem run_fig_c (X : (hd.heap_1 w.params).In h₀) (T : Top pv loose mean mg mb h₀) (keep : h₀.StaysIn s.heap) (hA : Low A 3)
    (hw : Has h₀ s.heap (wLed aw ad H1 H2 k1 k2 D td p tp)) (hat : At D p (l ++ l₂)) (hsz : D.size ≤ 1000000) (hl : ∀ c ∈ l, isFig c = true) (hl₂ : ∀ c r, l₂ = c :: r → isFig c = false)
    (hret : WPost s ad (wOb H1 H2 k1 k2 D td) (fun p' => At D p' l₂) Q fun t => .bytes l.toArray t) :
    wpAny (model PySem.Challenge.rw_pq0944_01.row.prog w) A (call (.ref 234) [.ref aw, .ref 156]) Q E s := by
  k_dflt (refine' enter0 (binds := [(Str.ofString "self", .ref aw), (Str.ofString "fits", .ref 156)]) hA X T keep hw ?k6 ?k7 ?k9 ?kB ?_ ?c2 ?c3 ?c4 ?c5)
  walk_at "mine sides"
  intro g' L' h' KG' F' N' X' T' A'
  clear X T keep hA
  have hq := hw.wne
  (try k_fold)
  k_steps
  refine go ?_
  refine while_w (σ := Int × Tok × List UInt8 × List UInt8) (fun c => l = c.2.2.1 ++ c.2.2.2 ∧ At D c.1 (c.2.2.2 ++ l₂) ∧ c.1 = p + (c.2.2.1.length : Nat)) (fun c => wLed aw ad H1 H2 k1 k2 D td c.1 c.2.1) (fun c => c.2.2.2.length) (p, tp, [], l) (by assumption) (by assumption) ⟨rfl, hat, by simp⟩ ?_
  rintro ⟨p', tp', a, b⟩ h₁ tk₁ ⟨e1, hat', hj⟩ F₁ N₁
  dsimp only at e1 hat' hj N₁ ⊢
  have hz := hat'.size
  cases b with
  | nil =>
    rw [List.append_nil] at e1
    subst e1
    rw [List.nil_append] at hat' hz
    cases l₂ with
    | nil =>
      rw [List.length_nil] at hz
      (try k_fold)
      k_steps
      have et : List.take l.length (l ++ []) = l := List.take_left ..
      rw [et]
      walk_at "mine wend"
      assumption
    | cons c r =>
      have hc := hl₂ c r rfl
      rw [List.length_cons] at hz
      (try k_fold)
      k_steps
      have et : List.take l.length (l ++ c :: r) = l := List.take_left ..
      rw [et]
      walk_at "mine wend"
      assumption
  | cons c b =>
    have hc := hl c (by rw [e1]; simp)
    rw [List.cons_append] at hat' hz
    rw [List.length_cons] at hz
    (try k_fold)
    k_steps
    dsimp only
    refine' turned (c' := (?p1, ?t1, a ++ [c], b)) (by assumption) (by assumption) ?hs ?hI ?hm
    case hs => walk_at "mine sub"
    case hI => exact ⟨by rw [e1]; simp, hat'.one, by dsimp only; simp only [List.length_append, List.length_cons, List.length_nil]; omega⟩
    case hm => exact Nat.lt_succ_self _
end
local macro_rules | `(tactic| walk_at "call ref") => `(tactic| first | ((focus (with_reducible apply Mine.run_fig_c); walk_at "mine q")) | ((focus (with_reducible apply Mine.run_atom_c); walk_at "mine q")))
-- p05
section
variable {prog : Program} {w : World} {A : Around} {s : Shared} {h₀ : Heap} {K : Frag} {p : Program} {loose : List Str} {mean : ExcName → Option Value} {mg mb : Str → Option Value}
theorem enterC {R : Result → Shared → Prop} {name qual : Str} {params : Arguments} {body : List Stmt} {scope : Scope} {dV kV doc pm cdv ct oc : Value} {an od : Option Addr} {osl : Array (Option Value)} {f : Addr} {args : Args} {binds : List (Str × Value)}
    {led : List (Addr × Obj)}
    (X : K.In h₀) (T : Top p loose mean mg mb h₀) (keep : h₀.StaysIn s.heap) (N : ∀ q ∈ led, s.heap.get? q.1 = some q.2 ∧ h₀.get? q.1 = none)
    (ho : K.lookup f = some ⟨oc, od, .func (fnOf name qual params body scope dV kV doc pm an cdv ct), osl⟩) (hcd : codeIn K cdv qual = true) (hroom : A.depth < recursionLimit)
    (hbind : BindsTo s (fnOf name qual params body scope dV kV doc pm an cdv ct) args binds) (hloc : ∀ y ∈ binds, scope.names.lookup y.1 = some .local)
    (h : ∀ g L' h₁, (∀ b o, s.heap.get? b = some o → b ∉ led.map (·.1) → g.get? b = some o) → h₀.StaysIn g → Fr g L' h₁ (fun y => binds.reverse.lookup y) → News g L' h₁ led → K.In g → Top p loose mean mg mb g →
      wpC (model prog w) (A.deeper (envOf qual scope L' f cdv)) (execs body (envOf qual scope L' f cdv))
        (fun fl s' => R (.ok (.ret (match fl with | .ret v => v | _ => .none))) s')
        (fun e s' => wpAny (model prog w) (A.deeper (envOf qual scope L' f cdv)) (leaving (envOf qual scope L' f cdv) e) (fun _ s'' => R (.error e) s'') (fun e' s'' => R (.error e') s'') s')
        { s with heap := h₁, toks := s.toks + binds.length })
    (hco : scope.isCoroutine = false) (hgen : scope.isGenerator = false) (hk : scope.kind = .function)
    (hcell : ∀ x ∈ scope.names, x.2 ≠ .cell) : codeC (model prog w) A (.call (.ref f) args) R s := by
  refine codeC_call_def (fd := fnOf name qual params body scope dV kV doc pm an cdv ct) (body := body) (binds := binds) hroom (keep _ _ (X _ _ ho)) rfl (T.nolimit.keeps keep) (codeRec_of (X.keeps keep) hcd) rfl hbind hcell hloc (fun h₁ hns hk₁ => ?_) hco hgen hk
  have nm : ∀ b o, h₀.get? b = some o → b ∉ led.map (·.1) := fun b o e q => by
    obtain ⟨p, hp, rfl⟩ := List.mem_map.mp q
    rw [(N p hp).2] at e; cases e
  have st : h₀.StaysIn (hideAll s.heap (led.map (·.1))) := fun b o e => hideAll_get _ (keep b o e) (nm b o e)
  exact h _ s.heap.objs.size h₁ (fun b o e hb => hideAll_get _ e hb) st ⟨hns, fun b o e => hk₁ b o (of_hideAll _ e), Nat.le_of_eq (hideAll_size _ _)⟩
    (fun p hp => ⟨hk₁ _ _ (N p hp).1, Nat.ne_of_lt (Heap.lt_size (N p hp).1), hideAll_none _ (List.mem_map_of_mem hp)⟩) (X.keeps st) (T.keeps st)
/-- a call of a def of the text over clean stacks, for what it gives back alone -/
theorem enterC0 {Q E : Value → Shared → Prop} {name qual : Str} {params : Arguments} {body : List Stmt} {scope : Scope} {dV kV doc pm cdv ct oc : Value} {an od : Option Addr} {osl : Array (Option Value)} {f : Addr} {args : List Value} {binds : List (Str × Value)}
    {led : List (Addr × Obj)} {n : Nat} (hA : Low A (n + 1))
    (X : K.In h₀) (T : Top p loose mean mg mb h₀) (keep : h₀.StaysIn s.heap) (N : Has h₀ s.heap led)
    (ho : K.lookup f = some ⟨oc, od, .func (fnOf name qual params body scope dV kV doc pm an cdv ct), osl⟩) (hcd : codeIn K cdv qual = true)
    (hbind : BindsTo s (fnOf name qual params body scope dV kV doc pm an cdv ct) ⟨args, []⟩ binds) (hloc : ∀ y ∈ binds, scope.names.lookup y.1 = some .local)
    (h : ∀ g L' h₁, Hid s.heap led g → Fr g L' h₁ (fun y => binds.reverse.lookup y) → News g L' h₁ led → K.In g → Top p loose mean mg mb g → Low (A.deeper (envOf qual scope L' f cdv)) n →
      wpC (model prog w) (A.deeper (envOf qual scope L' f cdv)) (execs body (envOf qual scope L' f cdv))
        (fun fl s' => Q (match fl with | .ret v => v | _ => .none) s') (fun _ _ => False)
        { s with heap := h₁, toks := s.toks + binds.length })
    (hco : scope.isCoroutine = false) (hgen : scope.isGenerator = false) (hk : scope.kind = .function)
    (hcell : ∀ x ∈ scope.names, x.2 ≠ .cell) : wpC (model prog w) A (call (.ref f) args) Q E s := by
  refine wpC_call ?_
  refine enterC X T keep N ho hcd hA.room hbind hloc (fun g L' h₁ hg st F' N' X' T' => ?_) hco hgen hk hcell
  exact wpC_mono (h g L' h₁ hg F' N' X' T' hA.deeper) (fun _ _ q => q) fun _ _ q => q.elim
end
section
variable {prog : Program} {w : World} {A : Around} {E : Value → Shared → Prop} {s : Shared} {g : Heap} {L : Addr} {m : Str → Option Value} {led : List (Addr × Obj)} {Q : Value → Shared → Prop}
theorem ba1_r {x : Array UInt8} {t : Tok} (F : Fr g L s.heap m) (N : News g L s.heap led) (hz : x.size ≤ 1000000) (k : ∀ a h', Fr g L h' m → News g L h' ((a, baOb x) :: led) → (∀ q ∈ led, q.1 < a) → Q (.ref a) { s with heap := h' }) :
    wpC (model prog w) A (call (.type "bytearray") [.bytes x t]) Q E s := by
  refine call_ba1 hz fun h' st ho => k _ h' (F.keeps st) ?_ fun q hq => Heap.lt_size (N q hq).1
  intro q hq
  rcases List.mem_cons.mp hq with rfl | hq
  · exact ⟨ho, Nat.ne_of_gt F.ns.lt, fresh_none F⟩
  · exact ⟨st _ _ (N q hq).1, (N q hq).2⟩
theorem ba0_r (F : Fr g L s.heap m) (N : News g L s.heap led) (k : ∀ a h', Fr g L h' m → News g L h' ((a, baOb #[]) :: led) → (∀ q ∈ led, q.1 < a) → Q (.ref a) { s with heap := h' }) :
    wpC (model prog w) A (call (.type "bytearray") []) Q E s := by
  refine call_ba0 fun h' st ho => k _ h' (F.keeps st) ?_ fun q hq => Heap.lt_size (N q hq).1
  intro q hq
  rcases List.mem_cons.mp hq with rfl | hq
  · exact ⟨ho, Nat.ne_of_gt F.ns.lt, fresh_none F⟩
  · exact ⟨st _ _ (N q hq).1, (N q hq).2⟩
theorem append_r {a : Addr} {b : Array UInt8} {c : UInt8} {t : Tok} {i : Int} {led' : List (Addr × Obj)} (F : Fr g L s.heap m) (N : News g L s.heap led) (hm : (a, baOb b) ∈ led) (U : Upd a (baOb b) (baOb (b.push c)) led led') (hi : i = (c.toNat : Int)) (hz : b.size ≤ 100000)
    (k : ∀ h', Fr g L h' m → News g L h' led' → Q .none { s with heap := h' }) : wpC (model prog w) A (call (.builtin "bytearray.append") [.ref a, .int i t]) Q E s := by
  subst hi
  refine append_C (N _ hm).1 hz fun h' hk ho => ?_
  have := upd_news F N U hk ho
  exact k h' this.1 this.2
end
local macro_rules | `(tactic| walk_at "getMethod ref") => `(tactic| (k_here; (with_reducible show wpAny _ _ (getMethod (Value.ref _) (PySem.Str.ofString "append") _) _ _ _); k_dflt ((refine' Mine.getM_append ?hg ?_); (case hg => exact (News.get (by assumption) (by k_mem))))))
local macro_rules | `(tactic| walk_at "call type:bytes") => `(tactic| (k_here; (with_reducible show wpAny _ _ (call (Value.type "bytes") [Value.ref _]) _ _ _); k_dflt ((refine' Mine.call_bytes_ba ?hg ?hz ?_); (case hg => exact (News.get (by assumption) (by k_mem))); (case hz => first | assumption | omega | (simp only [List.size_toArray, List.length_cons, Array.size_push]; omega)); intro _ _)))
theorem lit92 : (92 : Int) = ((92 : UInt8).toNat : Int) := rfl
theorem lit34 : (34 : Int) = ((34 : UInt8).toNat : Int) := rfl
local macro_rules | `(tactic| walk_at "mine cc") => `(tactic| first | (((with_reducible show Mine.wpC _ _ (call (Value.builtin "bytearray.append") _ _) _ _ _); (refine' Mine.append_r (by assumption) (by assumption) ?hm ?hU ?hi ?hz ?_); (case hm => k_mem); (case hU => k_upd); (case hi => first | exact Mine.lit92 | exact Mine.lit34 | rfl | assumption); (case hz => first | assumption | omega | (simp only [List.size_toArray, List.length_cons, Array.size_push]; omega)); (try clear F' N'); intro h' F' N'; (try k_sweep))) | (((with_reducible show Mine.wpC _ _ (call (Value.type "bytearray") _ _) _ _ _); (first | refine Mine.ba1_r (by assumption) (by assumption) ?hz ?_ | refine Mine.ba0_r (by assumption) (by assumption) ?_); (try (case hz => first | assumption | omega | (simp; done))); (try clear F' N'); intro a' h' F' N' l1; (try k_lt l1); (try k_sweep))))
noncomputable def esc (l : List UInt8) : List UInt8 := l.flatMap fun c => if c = 34 ∨ c = 92 then [92, c] else [c]
theorem u34 {c : UInt8} (h : (c.toNat : Int) = 34) : c = 34 := UInt8.toNat_inj.mp (show c.toNat = 34 by omega)
theorem u92 {c : UInt8} (h : (c.toNat : Int) = 92) : c = 92 := UInt8.toNat_inj.mp (show c.toNat = 92 by omega)
theorem un {c : UInt8} (h : (c.toNat : Int) ≠ 34) (h' : (c.toNat : Int) ≠ 92) : ¬ (c = 34 ∨ c = 92) := by
  rintro (rfl | rfl)
  · exact h rfl
  · exact h' rfl
theorem esc_snoc (l : List UInt8) (c : UInt8) : esc (l ++ [c]) = esc l ++ (if c = 34 ∨ c = 92 then [92, c] else [c]) := by simp [esc]
theorem esc_take {b : Array UInt8} {i : Nat} {c : UInt8} (h : b[i]? = some c) : (34 :: esc (b.toList.take (i + 1))).toArray = if c = 34 ∨ c = 92 then ((34 :: esc (b.toList.take i)).toArray.push 92).push c else (34 :: esc (b.toList.take i)).toArray.push c := by
  have h' : b.toList[i]? = some c := by simpa using h
  rw [List.take_add_one, h']
  simp only [Option.toList_some, esc_snoc]
  split <;> simp
theorem esc_len (l : List UInt8) : (esc l).length ≤ 2 * l.length := by
  induction l with
  | nil => simp [esc]
  | cons c r ih =>
    have : esc (c :: r) = (if c = 34 ∨ c = 92 then [92, c] else [c]) ++ esc r := by simp [esc]
    rw [this, List.length_append, List.length_cons]
    split <;> simp <;> omega
section
variable {w : World} {pv : Program} {loose : List Str} {mean : ExcName → Option Value} {mg mb : Str → Option Value} {h₀ : Heap} {A : Around} {s : Shared} {Q E : Value → Shared → Prop}
set_option maxHeartbeats 4000000 in
theorem quoted_octets_c (X : (hd.heap_1 w.params).In h₀) (T : Top pv loose mean mg mb h₀) (keep : h₀.StaysIn s.heap) (hA : Low A 1) {b : Array UInt8} {tb : Tok} (hz : b.size ≤ 1000)
    (hret : PPost s Q fun t => .bytes (34 :: (esc b.toList ++ [34])).toArray t) : wpC (model PySem.Challenge.rw_pq0944_01.row.prog w) A (call (.ref 371) [.bytes b tb]) Q E s := by
  have hw : Has h₀ s.heap [] := fun q hq => nomatch hq
  k_dflt (refine' enterC0 (binds := [(Str.ofString "octets", .bytes b tb)]) hA X T keep hw ?k6 ?k7 ?k9 ?kB ?_ ?c2 ?c3 ?c4 ?c5)
  walk_at "mine sides"
  intro g' L' h' KG' F' N' X' T' A'
  clear X T keep hA
  walk_at "mine go"
  rename_i a hx l1 h2 F N
  refine c_for_bytes (L := L') (E' := fun _ _ => False) (b := b) (tb := tb) (fun i => [(a, baOb (34 :: esc (b.toList.take i)).toArray)]) rfl rfl A'.1 rfl (fun _ _ x => x.elim) F (by simpa [esc] using N) ?hi ?turn ?done (fun _ => rfl)
  case hi =>
    intro Q' hQ
    k_steps
    exact hQ
  case turn =>
    intro I oI i c t h tk hbi hlt F' N'
    have hne : @LT.lt Nat _ a I := hlt (a, _) (.head _)
    have hlen : (esc (b.toList.take i)).length ≤ 2000 := by have h1 := esc_len (b.toList.take i); have h2 : b.toList.length = b.size := Array.length_toList; rw [List.length_take] at h1; omega
    clear hlt F N
    dsimp only [List.cons_append, List.nil_append] at N'
    walk_at "mine go"
    all_goals dsimp only
    all_goals refine turnedF (by assumption) (by assumption) ?_
    all_goals rw [esc_take hbi]
    all_goals first | rw [if_pos (Or.inl (u34 (by assumption)))] | rw [if_pos (Or.inr (u92 (by assumption)))] | rw [if_neg (un (by assumption) (by assumption))]
    all_goals exact fun q hq => hq
  case done =>
    intro u h tk F' N'
    have : b.toList.take b.size = b.toList := by rw [← Array.length_toList, List.take_length]
    rw [this] at N'
    clear F N this
    have hlen : (esc b.toList).length ≤ 2000 := by have h1 := esc_len b.toList; have h2 : b.toList.length = b.size := Array.length_toList; omega
    walk_at "mine go"
    have e : (34 :: (esc b.toList ++ [34])).toArray = (34 :: esc b.toList).toArray.push 34 := by simp
    rw [e] at hret
    walk_at "mine pend"
end
-- p06
section
variable {prog : Program} {w : World} {A : Around} {E : Value → Shared → Prop} {s₁ : Shared} {h₀ : Heap} {L : Addr} {m : Str → Option Value} {news : List (Addr × Obj)}
theorem carried_paired {b : Array UInt8} {d : UInt8 → PyData} {vs : List Value} {ys : List Value} (hlen : vs.length = b.size) (hP : ∀ (j : Nat) (v : Value), vs[j]? = some v → ∃ c u, b[j]? = some c ∧ v = Value.int (c.toNat : Int) u)
    (hF : Paired (fun v r => ∀ c u, v = Value.int ((c : UInt8).toNat : Int) u → Carried r (d c)) (vs.filter fun _ => true) ys) : CarriedAll ys (b.toList.map d) := by
  rw [show vs.filter (fun _ => true) = vs from List.filter_eq_self.mpr fun _ _ => rfl] at hF
  obtain ⟨l⟩ := b
  simp only [List.size_toArray, List.getElem?_toArray] at hlen hP ⊢
  induction vs generalizing l ys with
  | nil =>
    cases l with
    | nil => cases hF; exact .nil
    | cons a l => simp at hlen
  | cons v vs ih =>
    cases l with
    | nil => simp at hlen
    | cons a l =>
      cases hF with
      | cons h1 h2 =>
        obtain ⟨c, u, hc, rfl⟩ := hP 0 v rfl
        simp only [List.getElem?_cons_zero, Option.some.injEq] at hc
        subst hc
        refine .cons (h1 _ _ rfl) (ih h2 l (by simpa using hlen) fun j v' hv' => ?_)
        have := hP (j + 1) v' (by simpa using hv')
        simpa using this
theorem srcC_b {env : Env} {elt : Expr} {x : Str} {scope : Scope} {Q : Value → Shared → Prop} {b : Array UInt8} {t : Tok} {d : UInt8 → PyData}
    (hh : A.handled = none) (F : Fr h₀ L s₁.heap m) (N : News h₀ L s₁.heap news) (hz : b.size ≤ 1000000)
    (g2 : ∀ C c u s₂ m₂ E', s₂.heap.Ns (compEnv scope C env).locals m₂ → m₂ x = some (.int ((c : UInt8).toNat : Int) u) → (∀ b o, s₁.heap.get? b = some o → s₂.heap.get? b = some o) → wpAny (model prog w) A (eval elt (compEnv scope C env)) (fun r s₃ => Carried r (d c) ∧ Keeps s₂ s₃) E' s₂)
    (g3 : ∀ D (ys : List Value) h' tk, Fr h₀ L h' m → News h₀ L h' news → h₀.get? D = none → h'.IsList D ys.toArray → CarriedAll ys (b.toList.map d) → Q (.ref D) { s₁ with heap := h', toks := tk }) :
    wpAny (model prog w) A (pyIter (.bytes b t)) (CompPost prog w A env scope x [] elt Q) E s₁ := by
  unfold CompPost
  refine KBw.pyIter_bytes ?_
  have up : ∀ (h' : Heap) o, (∀ b o', b ∉ [s₁.heap.objs.size] → (s₁.heap.push o).get? b = some o' → h'.get? b = some o') → ∀ b o', s₁.heap.get? b = some o' → h'.get? b = some o' :=
    fun h' o hk b o' e => hk b o' (old_not_new e) (Heap.get?_push_of_some _ e)
  refine ⟨fun _ => true, fun v r => ∀ c u, v = Value.int ((c : UInt8).toNat : Int) u → Carried r (d c), s₁.heap.objs.size, [s₁.heap.objs.size], [s₁.heap.objs.size], b.size, _, _, rfl, KBw.walks hh _ b t, by rw [sizeLine_eq]; omega, ⟨_, Heap.get?_push_size _ rfl, rfl, rfl⟩, ?_, ⟨?_, ?_⟩, ?_⟩
  · intro b hb
    show b < (s₁.heap.push _).objs.size
    rw [Heap.size_push, List.mem_singleton.mp hb]
    exact Nat.lt_succ_self _
  · intro C i v s₃ m₃ E' hP hn hm hk htk
    exact wpAny_pure ⟨rfl, s₃.heap, s₃.toks, rfl, fun _ _ e => e⟩
  · intro C i v s₃ m₃ E' hP hp hn hm hk htk
    obtain ⟨c, u, hc, rfl⟩ := hP
    refine wpAny_mono (g2 C c u s₃ m₃ E' hn hm (up _ _ hk)) (fun r s₄ h₄ => ⟨fun c' u' e => ?_, h₄.2⟩) fun _ _ e => e
    have : c = c' := by
      injection e with e _
      exact UInt8.toNat_inj.mp (by omega)
    exact this ▸ h₄.1
  · intro D h' tk ys vs hnew hlD hplD hlen hP hF hk
    refine g3 D ys.toList h' tk (F.keeps (up h' _ hk)) (N.grown (up h' _ hk)) ?_ (by rw [Array.toArray_toList]; exact hlD) (carried_paired hlen hP hF)
    cases e : h₀.get? D with
    | none => rfl
    | some o' => rw [Heap.get?_push_of_some _ (F.keep _ _ e)] at hnew; cases hnew
end
noncomputable def quotable (b : Array UInt8) : Bool := decide ((b.size : Int) ≤ 72) && b.toList.all fun c => decide (32 ≤ (c.toNat : Int)) && decide ((c.toNat : Int) ≤ 126)
section
variable {w : World} {pv : Program} {loose : List Str} {mean : ExcName → Option Value} {mg mb : Str → Option Value} {h₀ : Heap} {A : Around} {s : Shared} {Q E : Value → Shared → Prop}
end
local macro_rules | `(tactic| walk_at "pyIter bytes") => `(tactic| ((with_reducible show wpAny _ _ (pyIter (Value.bytes _ _)) (CompPost _ _ _ _ _ _ _ _ _) _ _); (refine Mine.srcC_b (d := fun c => PyData.bool (decide (32 ≤ (c.toNat : Int)) && decide ((c.toNat : Int) ≤ 126))) (by assumption) (by assumption) (by assumption) (by assumption) ?g2 ?g3)))
local macro_rules | `(tactic| walk_at "call builtin:all") => `(tactic| (k_here; (with_reducible show wpAny _ _ (call (Value.builtin "all") [Value.ref _]) _ _ _); k_dflt (refine LSm.all_bools (by assumption) (by assumption) (by assumption) (by assumption) (LSm.BoolsAre.of_carried (by assumption)) ?_); intro h' tk' F' N'))
section
variable {w : World} {pv : Program} {loose : List Str} {mean : ExcName → Option Value} {mg mb : Str → Option Value} {h₀ : Heap} {A : Around} {s : Shared} {Q E : Value → Shared → Prop}
theorem carried_bool {a b : Bool} (h : a = b) : Carried (.bool a) (.bool b) := h ▸ .bool a
theorem carried_int {a b : Int} {t : Tok} (h : a = b) : Carried (.int a t) (.int b) := h ▸ .int a t
theorem keeps_here {s s' : Shared} {h' : Heap} {tk : Nat} (e : s' = { s with heap := h', toks := tk }) (k : s.heap.StaysIn h') : Keeps s s' := ⟨h', tk, e, k⟩
set_option maxHeartbeats 4000000 in
theorem is_quotable_c (X : (hd.heap_1 w.params).In h₀) (T : Top pv loose mean mg mb h₀) (keep : h₀.StaysIn s.heap) (hA : Low A 1) {b : Array UInt8} {tb : Tok} (hz : b.size ≤ 1000000)
    (hret : PPost s Q fun _ => .bool (quotable b)) : wpAny (model PySem.Challenge.rw_pq0944_01.row.prog w) A (call (.ref 364) [.bytes b tb]) Q E s := by
  have hw : Has h₀ s.heap [] := fun q hq => nomatch hq
  k_dflt (refine' enter0 (binds := [(Str.ofString "octets", .bytes b tb)]) hA X T keep hw ?k6 ?k7 ?k9 ?kB ?_ ?c2 ?c3 ?c4 ?c5)
  walk_at "mine sides"
  intro g' L' h' KG' F' N' X' T' A'
  clear X T keep hA
  have hh := A'.1
  (try k_fold)
  k_steps
  all_goals try exact keeps_here rfl (fun _ _ e => e)
  all_goals try (refine carried_bool ?_; simp_all; done)
  all_goals try (refine carried_bool ?_; rw [decide_eq_false (p := (32 : Int) ≤ _) (by assumption)]; rfl)
  all_goals walk_at "mine pend"
  all_goals (refine vb ?_; unfold quotable; first | (rw [decide_eq_true (by assumption), List.all_map]; rfl) | (rw [decide_eq_false (by assumption)]; rfl))
end
-- p07
noncomputable def lowI (c : UInt8) : Int := if 65 ≤ (c.toNat : Int) ∧ (c.toNat : Int) ≤ 90 then (c.toNat : Int) + 32 else (c.toNat : Int)
noncomputable def low (c : UInt8) : UInt8 := if 65 ≤ (c.toNat : Int) ∧ (c.toNat : Int) ≤ 90 then c + 32 else c
theorem lowI_range : ∀ c : UInt8, 0 ≤ lowI c ∧ lowI c < 256 := by
  intro c
  have := c.toNat_lt
  unfold lowI
  split <;> omega
theorem lowI_low (c : UInt8) : (lowI c).toNat.toUInt8 = low c := by
  have := c.toNat_lt
  unfold lowI low
  split
  · apply UInt8.toNat_inj.mp
    rw [UInt8.toNat_add]
    show ((c.toNat : Int) + 32).toNat % 256 = (c.toNat + 32) % 256
    omega
  · simp
section
variable {prog : Program} {w : World} {A : Around} {E : Value → Shared → Prop} {s s₁ : Shared} {h₀ : Heap} {L : Addr} {m : Str → Option Value} {news : List (Addr × Obj)}
theorem carriedS_paired {y : Str} {d : Nat → PyData} {vs : List Value} {ys : List Value} (hlen : vs.length = y.cps.size) (hP : ∀ (j : Nat) (v : Value), vs[j]? = some v → SignAt y j v)
    (hF : Paired (fun v r => ∀ c u, v = Value.str ⟨#[c]⟩ u → Carried r (d c)) (vs.filter fun _ => true) ys) : CarriedAll ys (y.cps.toList.map d) := by
  rw [show vs.filter (fun _ => true) = vs from List.filter_eq_self.mpr fun _ _ => rfl] at hF
  obtain ⟨⟨l⟩⟩ := y
  simp only [List.size_toArray, SignAt, List.getElem?_toArray] at hlen hP ⊢
  induction vs generalizing l ys with
  | nil =>
    cases l with
    | nil => cases hF; exact .nil
    | cons a l => simp at hlen
  | cons v vs ih =>
    cases l with
    | nil => simp at hlen
    | cons a l =>
      cases hF with
      | cons h1 h2 =>
        obtain ⟨c, u, hc, rfl⟩ := hP 0 v rfl
        simp only [List.getElem?_cons_zero, Option.some.injEq] at hc
        subst hc
        refine .cons (h1 _ _ rfl) (ih h2 l (by simpa using hlen) fun j v' hv' => ?_)
        have := hP (j + 1) v' (by simpa using hv')
        simpa using this
theorem srcC_s {env : Env} {elt : Expr} {x : Str} {scope : Scope} {Q : Value → Shared → Prop} {y : Str} {t : Tok} {d : Nat → PyData}
    (hh : A.handled = none) (F : Fr h₀ L s₁.heap m) (N : News h₀ L s₁.heap news) (hz : y.cps.size ≤ 1000000)
    (g2 : ∀ C c u s₂ m₂ E', s₂.heap.Ns (compEnv scope C env).locals m₂ → m₂ x = some (.str ⟨#[c]⟩ u) → (∀ b o, s₁.heap.get? b = some o → s₂.heap.get? b = some o) → wpAny (model prog w) A (eval elt (compEnv scope C env)) (fun r s₃ => Carried r (d c) ∧ Keeps s₂ s₃) E' s₂)
    (g3 : ∀ D (ys : List Value) h' tk, Fr h₀ L h' m → News h₀ L h' news → h₀.get? D = none → h'.IsList D ys.toArray → CarriedAll ys (y.cps.toList.map d) → Q (.ref D) { s₁ with heap := h', toks := tk }) :
    wpAny (model prog w) A (pyIter (.str y t)) (CompPost prog w A env scope x [] elt Q) E s₁ := by
  unfold CompPost
  refine wpAny_pyIter_str fun o St W hst => ?_
  have up : ∀ (h' : Heap) o, (∀ b o', b ∉ [s₁.heap.objs.size] → (s₁.heap.push o).get? b = some o' → h'.get? b = some o') → ∀ b o', s₁.heap.get? b = some o' → h'.get? b = some o' :=
    fun h' o hk b o' e => hk b o' (old_not_new e) (Heap.get?_push_of_some _ e)
  refine ⟨fun _ => true, fun v r => ∀ c u, v = Value.str ⟨#[c]⟩ u → Carried r (d c), s₁.heap.objs.size, [s₁.heap.objs.size], [s₁.heap.objs.size], y.cps.size, _, _, rfl, W A hh, by rw [sizeLine_eq]; omega, hst, ?_, ⟨?_, ?_⟩, ?_⟩
  · intro b hb
    show b < (s₁.heap.push _).objs.size
    rw [Heap.size_push, List.mem_singleton.mp hb]
    exact Nat.lt_succ_self _
  · intro C i v s₃ m₃ E' hP hn hm hk htk
    exact wpAny_pure ⟨rfl, s₃.heap, s₃.toks, rfl, fun _ _ e => e⟩
  · intro C i v s₃ m₃ E' hP hp hn hm hk htk
    obtain ⟨c, u, hc, rfl⟩ := hP
    refine wpAny_mono (g2 C c u s₃ m₃ E' hn hm (up _ _ hk)) (fun r s₄ h₄ => ⟨fun c' u' e => ?_, h₄.2⟩) fun _ _ e => e
    have : c = c' := by
      injection e with e _
      injection e with e
      simpa using e
    exact this ▸ h₄.1
  · intro D h' tk ys vs hnew hlD hplD hlen hP hF hk
    refine g3 D ys.toList h' tk (F.keeps (up h' _ hk)) (N.grown (up h' _ hk)) ?_ (by rw [Array.toArray_toList]; exact hlD) (carriedS_paired hlen hP hF)
    cases e : h₀.get? D with
    | none => rfl
    | some o' => rw [Heap.get?_push_of_some _ (F.keep _ _ e)] at hnew; cases hnew
theorem bytes_list_r {α : Type} {D : Addr} {ys : List Value} {as : List α} {f : α → Int} {Q : Value → Shared → Prop} (F : Fr h₀ L s.heap m) (N : News h₀ L s.heap news) (hh : A.handled = none) (hl : s.heap.IsList D ys.toArray)
    (hc : CarriedAll ys (as.map fun a => PyData.int (f a))) (hr : ∀ a ∈ as, 0 ≤ f a ∧ f a < 256) (hz : as.length ≤ 1000000)
    (h : ∀ h' t k, Fr h₀ L h' m → News h₀ L h' news → Q (.bytes (as.map fun a => (f a).toNat.toUInt8).toArray t) { s with heap := h', toks := k }) : wpAny (model prog w) A (call (.type "bytes") [.ref D]) Q E s := by
  refine call_bytes_ints hl hc.intsOf (fun n hn => ?_) ?_ hh fun h' t k hk => ?_
  · obtain ⟨a, ha, rfl⟩ := List.mem_map.mp hn
    exact hr a ha
  · rw [hc.length_eq, List.length_map, sizeLine_eq]; omega
  · have := h h' t k (F.keeps hk) (fun q hq => ⟨hk _ _ (N q hq).1, (N q hq).2⟩)
    unfold byteArr
    rw [List.map_map]
    exact this
end
section
variable {w : World} {pv : Program} {loose : List Str} {mean : ExcName → Option Value} {mg mb : Str → Option Value} {h₀ : Heap} {A : Around} {s : Shared} {Q E : Value → Shared → Prop}
set_option maxHeartbeats 4000000 in
theorem lower_code_c (X : (hd.heap_1 w.params).In h₀) (T : Top pv loose mean mg mb h₀) (keep : h₀.StaysIn s.heap) (hA : Low A 1) {c : UInt8} {tb : Tok}
    (hret : ∀ h' tk' t, s.heap.StaysIn h' → Q (.int (lowI c) t) { s with heap := h', toks := tk' }) : wpAny (model PySem.Challenge.rw_pq0944_01.row.prog w) A (call (.ref 80) [.int (c.toNat : Int) tb]) Q E s := by
  replace hret : PPost s Q fun t => .int (lowI c) t := fun t h' tk' k => hret h' tk' t k
  have hw : Has h₀ s.heap [] := fun q hq => nomatch hq
  k_dflt (refine' enter0 (binds := [(Str.ofString "code", .int (c.toNat : Int) tb)]) hA X T keep hw ?k6 ?k7 ?k9 ?kB ?_ ?c2 ?c3 ?c4 ?c5)
  walk_at "mine sides"
  intro g' L' h' KG' F' N' X' T' A'
  clear X T keep hA
  (try k_fold)
  k_steps
  all_goals (unfold lowI at hret)
  all_goals first | rw [if_pos (by omega)] at hret | rw [if_neg (by omega)] at hret
  all_goals (try dsimp only)
  all_goals (try k_unfold)
  all_goals (try dsimp only)
  all_goals exact hret _ _ _ (kept_all (by assumption) (by assumption) (by assumption) (by assumption) (fun q hq => hq))
end
local macro_rules | `(tactic| walk_at "pyIter bytes") => `(tactic| ((with_reducible show wpAny _ _ (pyIter (Value.bytes _ _)) (CompPost _ _ _ _ _ _ _ (Expr.Call (Expr.Name (PySem.Str.ofString "lower_code") _) _ _ _) _) _ _); (refine Mine.srcC_b (d := fun c => PyData.int (Mine.lowI c)) (by first | rfl | assumption) (by assumption) (by assumption) (by assumption) ?g2 ?g3)))
local macro_rules | `(tactic| walk_at "pyIter str") => `(tactic| ((with_reducible show wpAny _ _ (pyIter (Value.str _ _)) (CompPost _ _ _ _ _ _ _ (Expr.Call (Expr.Name (PySem.Str.ofString "ord") _) _ _ _) _) _ _); k_dflt (refine Mine.srcC_s (d := fun c => PyData.int (c : Int)) (by first | rfl | assumption) (by assumption) (by assumption) (by first | assumption | decide) ?g2 ?g3)))
local macro_rules | `(tactic| walk_at "eval ListComp") => `(tactic| ((with_reducible show wpAny _ _ (eval (Expr.ListComp (Expr.Call (Expr.Name (PySem.Str.ofString "ord") _) _ _ _) _ _ _) _) _ _ _); k_dflt (refine' ListComp_rowsP ?a ?b ?c ?d ?e ?_ ?f; (case a => decide); (case b => decide); (case c => rfl); (case d => decide); (case e => decide); (case f => intro _; rfl))))
local macro_rules | `(tactic| walk_at "call type:bytes") => `(tactic| (k_here; (with_reducible show wpAny _ _ (call (Value.type "bytes") [Value.ref _]) _ _ _); k_dflt ((refine' Mine.bytes_list_r (by assumption) (by assumption) (by first | rfl | assumption) (by assumption) (by assumption) ?hr ?hz ?_); (case hr => first | exact (fun a _ => Mine.lowI_range a) | decide); (case hz => first | assumption | decide); intro h' _ _ F' N')))
section
variable {w : World} {pv : Program} {loose : List Str} {mean : ExcName → Option Value} {mg mb : Str → Option Value} {h₀ : Heap} {A : Around} {s : Shared} {Q E : Value → Shared → Prop}
set_option maxHeartbeats 4000000 in
theorem lower_c (X : (hd.heap_1 w.params).In h₀) (T : Top pv loose mean mg mb h₀) (keep : h₀.StaysIn s.heap) (hA : Low A 2) {b : Array UInt8} {tb : Tok} (hz : b.size ≤ 1000000)
    (hret : PPost s Q fun t => .bytes (b.toList.map low).toArray t) : wpAny (model PySem.Challenge.rw_pq0944_01.row.prog w) A (call (.ref 85) [.bytes b tb]) Q E s := by
  have hz' : b.toList.length ≤ 1000000 := hz
  rw [show b.toList.map low = b.toList.map fun a => (lowI a).toNat.toUInt8 from List.map_congr_left fun a _ => (lowI_low a).symm] at hret
  have hw : Has h₀ s.heap [] := fun q hq => nomatch hq
  k_dflt (refine' enter0 (binds := [(Str.ofString "octets", .bytes b tb)]) hA X T keep hw ?k6 ?k7 ?k9 ?kB ?_ ?c2 ?c3 ?c4 ?c5)
  walk_at "mine sides"
  intro g' L' h' KG' F' N' X' T' A'
  clear X T keep hA
  have hh := A'.1
  (try k_fold)
  k_steps
  case g3 => (walk_at "mine pend")
  all_goals exact lower_code_c X' T' (Fr.keep (by assumption)) A' (fun h' tk' t st => ⟨carried_int rfl, keeps_here rfl st⟩)
theorem nameG_B {prog : Program} {K : Frag} {p : Program} {L : Addr} {m : Str → Option Value} {env : Env} {x : Str} {pos : Pos} {v : Value} (F : Fr h₀ L s.heap m) (X : K.In h₀) (T : Top p loose mean mg mb h₀) (e : nsIn K mainGlobals x = some none) (hv : bootBuiltins x = some v) (hn : x ≠ "__name__") (h : Q v s)
    (hg : env.globals = mainGlobals) (hb : env.builtins = builtinsNs) (hk : env.scope.kind = .function) (hx : env.kindOf x = some .globalImplicit) (hd : (x == ("__debug__" : Str)) = false) : wpAny (model prog w) A (eval (.Name x pos) env) Q E s :=
  Name_function_global hk hx (loadGlobal_builtin (env := env) (by rw [hg]; exact T.g.keeps F.keep) (mg_none_of X T.g e) (by rw [hb]; exact T.b.keeps F.keep) ((T.builtins x hn).trans hv) h) hd
theorem boot_ord : bootBuiltins (Str.ofString "ord") = some (.builtin "ord") := by first | rfl | decide +kernel | kernel_rfl
end
local macro_rules | `(tactic| walk_at "eval Name") => `(tactic| (k_here; (with_reducible show wpAny _ _ (eval (Expr.Name (PySem.Str.ofString "ord") _) (compEnv _ _ _)) _ _ _); k_dflt (refine' Mine.nameG_B (by assumption) (by assumption) (by assumption) ?e Mine.boot_ord ?n ?_ ?g ?b ?k ?x ?d; (case e => k_is); (case n => decide); (case g => rfl); (case b => rfl); (case k => rfl); (case x => rfl); (case d => decide))))
section
variable {w : World} {pv : Program} {loose : List Str} {mean : ExcName → Option Value} {mg mb : Str → Option Value} {h₀ : Heap} {A : Around} {s : Shared} {Q E : Value → Shared → Prop}
theorem len_1 {prog : Program} {t : Tok} {Q : Value → Shared → Prop} (h : Q (.int 1 (s.toks + 1)) { s with toks := s.toks + 1 + 1 }) : wpAny (model prog w) A (call (.builtin "len") [.str (Str.ofString "1") t]) Q E s :=
  PySem.P.len_str (by decide) (by rw [show (((Str.ofString "1").length : Nat) : Int) = 1 from by decide]; exact h)
theorem len_3 {prog : Program} {t : Tok} {Q : Value → Shared → Prop} (h : Q (.int 1 (s.toks + 1)) { s with toks := s.toks + 1 + 1 }) : wpAny (model prog w) A (call (.builtin "len") [.str (Str.ofString "3") t]) Q E s :=
  PySem.P.len_str (by decide) (by rw [show (((Str.ofString "3").length : Nat) : Int) = 1 from by decide]; exact h)
end
local macro_rules | `(tactic| walk_at "call builtin:len") => `(tactic| (k_here; first | with_reducible refine Mine.len_1 ?_ | with_reducible refine Mine.len_3 ?_))
local macro_rules | `(tactic| walk_at "call builtin:ord") => `(tactic| (k_here; with_reducible refine PySem.P.ord_of_char ?_))
section
variable {w : World} {pv : Program} {loose : List Str} {mean : ExcName → Option Value} {mg mb : Str → Option Value} {h₀ : Heap} {A : Around} {s : Shared} {Q E : Value → Shared → Prop}
theorem octs_1 : (List.map (fun a : Nat => ((a : Int)).toNat.toUInt8) (Str.ofString "1").cps.toList).toArray = #[49] := by decide +kernel
set_option maxHeartbeats 4000000 in
theorem text_octets_1 (X : (hd.heap_1 w.params).In h₀) (T : Top pv loose mean mg mb h₀) (keep : h₀.StaysIn s.heap) (hA : Low A 1) {tb : Tok}
    (hret : PPost s Q fun t => .bytes #[49] t) : wpAny (model PySem.Challenge.rw_pq0944_01.row.prog w) A (call (.ref 100) [.str (Str.ofString "1") tb]) Q E s := by
  obtain ⟨ah, ad, af, ag, au⟩ := A
  obtain rfl : ah = none := hA.1
  have hw : Has h₀ s.heap [] := fun q hq => nomatch hq
  k_dflt (refine' enter0 (binds := [(Str.ofString "text", .str (Str.ofString "1") tb)]) hA X T keep hw ?k6 ?k7 ?k9 ?kB ?_ ?c2 ?c3 ?c4 ?c5)
  walk_at "mine sides"
  intro g' L' h' KG' F' N' X' T' A'
  clear X T keep hA
  (try k_fold)
  k_steps
  all_goals try exact keeps_here rfl (fun _ _ e => e)
  all_goals try exact carried_int rfl
  rw [octs_1]
  walk_at "mine pend"
set_option maxHeartbeats 4000000 in
theorem figures_of_1 (X : (hd.heap_1 w.params).In h₀) (T : Top pv loose mean mg mb h₀) (keep : h₀.StaysIn s.heap) (hA : Low A 2) {tb : Tok}
    (hret : PPost s Q fun t => .bytes #[49] t) : wpAny (model PySem.Challenge.rw_pq0944_01.row.prog w) A (call (.ref 170) [.int 1 tb]) Q E s := by
  obtain ⟨ah, ad, af, ag, au⟩ := A
  obtain rfl : ah = none := hA.1
  have hw : Has h₀ s.heap [] := fun q hq => nomatch hq
  k_dflt (refine' enter0 (binds := [(Str.ofString "number", .int 1 tb)]) hA X T keep hw ?k6 ?k7 ?k9 ?kB ?_ ?c2 ?c3 ?c4 ?c5)
  walk_at "mine sides"
  intro g' L' h' KG' F' N' X' T' A'
  clear X T keep hA
  (try k_fold)
  k_steps
  rw [show Str.ofString (toString (1 : Int)) = Str.ofString "1" from by decide +kernel]
  refine' pcall_r (by assumption) (by assumption) (text_octets_1 X' T' ?kS A') ?_
  case kS => exact Fr.keep (by assumption)
  intro _ h' tk' F' N'
  walk_at "mine pend"
theorem octs_3 : (List.map (fun a : Nat => ((a : Int)).toNat.toUInt8) (Str.ofString "3").cps.toList).toArray = #[51] := by decide +kernel
set_option maxHeartbeats 4000000 in
theorem text_octets_3 (X : (hd.heap_1 w.params).In h₀) (T : Top pv loose mean mg mb h₀) (keep : h₀.StaysIn s.heap) (hA : Low A 1) {tb : Tok}
    (hret : PPost s Q fun t => .bytes #[51] t) : wpAny (model PySem.Challenge.rw_pq0944_01.row.prog w) A (call (.ref 100) [.str (Str.ofString "3") tb]) Q E s := by
  obtain ⟨ah, ad, af, ag, au⟩ := A
  obtain rfl : ah = none := hA.1
  have hw : Has h₀ s.heap [] := fun q hq => nomatch hq
  k_dflt (refine' enter0 (binds := [(Str.ofString "text", .str (Str.ofString "3") tb)]) hA X T keep hw ?k6 ?k7 ?k9 ?kB ?_ ?c2 ?c3 ?c4 ?c5)
  walk_at "mine sides"
  intro g' L' h' KG' F' N' X' T' A'
  clear X T keep hA
  (try k_fold)
  k_steps
  all_goals try exact keeps_here rfl (fun _ _ e => e)
  all_goals try exact carried_int rfl
  rw [octs_3]
  walk_at "mine pend"
set_option maxHeartbeats 4000000 in
theorem figures_of_3 (X : (hd.heap_1 w.params).In h₀) (T : Top pv loose mean mg mb h₀) (keep : h₀.StaysIn s.heap) (hA : Low A 2) {tb : Tok}
    (hret : PPost s Q fun t => .bytes #[51] t) : wpAny (model PySem.Challenge.rw_pq0944_01.row.prog w) A (call (.ref 170) [.int 3 tb]) Q E s := by
  obtain ⟨ah, ad, af, ag, au⟩ := A
  obtain rfl : ah = none := hA.1
  have hw : Has h₀ s.heap [] := fun q hq => nomatch hq
  k_dflt (refine' enter0 (binds := [(Str.ofString "number", .int 3 tb)]) hA X T keep hw ?k6 ?k7 ?k9 ?kB ?_ ?c2 ?c3 ?c4 ?c5)
  walk_at "mine sides"
  intro g' L' h' KG' F' N' X' T' A'
  clear X T keep hA
  (try k_fold)
  k_steps
  rw [show Str.ofString (toString (3 : Int)) = Str.ofString "3" from by decide +kernel]
  refine' pcall_r (by assumption) (by assumption) (text_octets_3 X' T' ?kS A') ?_
  case kS => exact Fr.keep (by assumption)
  intro _ h' tk' F' N'
  walk_at "mine pend"
end
-- p08
section
variable {w : World} {pv : Program} {loose : List Str} {mean : ExcName → Option Value} {mg mb : Str → Option Value} {h₀ : Heap} {A : Around} {s : Shared} {Q E : Value → Shared → Prop}
end
local macro_rules | `(tactic| walk_at "call ref") => `(tactic| first | ((focus (with_reducible apply Mine.figures_of_3); walk_at "mine q")) | ((focus (with_reducible apply Mine.figures_of_1); walk_at "mine q")))
section
variable {w : World} {pv : Program} {loose : List Str} {mean : ExcName → Option Value} {mg mb : Str → Option Value} {h₀ : Heap} {A : Around} {s : Shared} {Q E : Value → Shared → Prop}
theorem def_at {K : Frag} {h₀ h : Heap} {a : Addr} {o : Obj} (keep : h₀.StaysIn h) (X : K.In h₀) (e : K.lookup a = some o) : h.get? a = some o := keep _ _ (X _ _ e)
end
local macro_rules | `(tactic| walk_at "call type:bytes") => `(tactic| (k_here; (with_reducible show wpAny _ _ (call (Value.type "bytes") [Value.bytes _ _]) _ _ _); refine Mine.call_bytes_bytes ?_))
local macro_rules | `(tactic| walk_at "mine sides d") => `(tactic| ((case k6 => k_is); (case k7 => k_is); (case k9 => exact BindsTo.of_defaults rfl (Mine.def_at (by assumption) (by assumption) (by k_is)) rfl rfl rfl); (case kB => exact locs rfl); (case c2 => exact rfl); (case c3 => exact rfl); (case c4 => exact rfl); (case c5 => decide)))
section
variable {w : World} {pv : Program} {loose : List Str} {mean : ExcName → Option Value} {mg mb : Str → Option Value} {h₀ : Heap} {A : Around} {s : Shared} {Q E : Value → Shared → Prop}
set_option maxHeartbeats 4000000 in
theorem literal_octets_1 (X : (hd.heap_1 w.params).In h₀) (T : Top pv loose mean mg mb h₀) (keep : h₀.StaysIn s.heap) (hA : Low A 3) {tb : Tok}
    (hret : PPost s Q fun t => .bytes #[123, 49, 43, 125, 13, 10, 0] t) : wpAny (model PySem.Challenge.rw_pq0944_01.row.prog w) A (call (.ref 379) [.bytes #[0] tb, .bool true]) Q E s := by
  obtain ⟨ah, ad, af, ag, au⟩ := A
  obtain rfl : ah = none := hA.1
  have hw : Has h₀ s.heap [] := fun q hq => nomatch hq
  k_dflt (refine' enter0 (binds := [(Str.ofString "octets", .bytes #[0] tb), (Str.ofString "is_plus", .bool true)]) hA X T keep hw ?k6 ?k7 ?k9 ?kB ?_ ?c2 ?c3 ?c4 ?c5)
  walk_at "mine sides d"
  intro g' L' h' KG' F' N' X' T' A'
  clear X T keep hA
  (try k_fold)
  k_steps
  rw [show ((#[0] : Array UInt8).size : Int) = 1 from rfl]
  k_steps
  walk_at "mine pend"
set_option maxHeartbeats 4000000 in
theorem literal_octets_3 (X : (hd.heap_1 w.params).In h₀) (T : Top pv loose mean mg mb h₀) (keep : h₀.StaysIn s.heap) (hA : Low A 3) {tb : Tok}
    (hret : PPost s Q fun t => .bytes #[123, 51, 43, 125, 13, 10, 228, 13, 10] t) : wpAny (model PySem.Challenge.rw_pq0944_01.row.prog w) A (call (.ref 379) [.bytes #[228, 13, 10] tb, .bool true]) Q E s := by
  obtain ⟨ah, ad, af, ag, au⟩ := A
  obtain rfl : ah = none := hA.1
  have hw : Has h₀ s.heap [] := fun q hq => nomatch hq
  k_dflt (refine' enter0 (binds := [(Str.ofString "octets", .bytes #[228, 13, 10] tb), (Str.ofString "is_plus", .bool true)]) hA X T keep hw ?k6 ?k7 ?k9 ?kB ?_ ?c2 ?c3 ?c4 ?c5)
  walk_at "mine sides d"
  intro g' L' h' KG' F' N' X' T' A'
  clear X T keep hA
  (try k_fold)
  k_steps
  rw [show ((#[228, 13, 10] : Array UInt8).size : Int) = 3 from rfl]
  k_steps
  walk_at "mine pend"
end
-- p09
noncomputable def Wr (b r : Array UInt8) : Prop := (quotable b = true ∧ r = (34 :: (esc b.toList ++ [34])).toArray) ∨ (b = #[0] ∧ r = #[123, 49, 43, 125, 13, 10, 0]) ∨ (b = #[228, 13, 10] ∧ r = #[123, 51, 43, 125, 13, 10, 228, 13, 10])
section
variable {w : World} {pv : Program} {loose : List Str} {mean : ExcName → Option Value} {mg mb : Str → Option Value} {h₀ : Heap} {A : Around} {s : Shared} {Q E : Value → Shared → Prop}
theorem is_quotable_v (X : (hd.heap_1 w.params).In h₀) (T : Top pv loose mean mg mb h₀) (keep : h₀.StaysIn s.heap) (hA : Low A 1) {b : Array UInt8} {tb : Tok} (hz : b.size ≤ 1000000) {v : Bool} (hv : quotable b = v)
    (hret : PPost s Q fun _ => .bool v) : wpAny (model PySem.Challenge.rw_pq0944_01.row.prog w) A (call (.ref 364) [.bytes b tb]) Q E s := by
  subst hv
  exact is_quotable_c X T keep hA hz hret
end
local macro_rules | `(tactic| walk_at "call ref") => `(tactic| first | ((focus (with_reducible apply Mine.literal_octets_3); walk_at "mine q")) | ((focus (with_reducible apply Mine.literal_octets_1); walk_at "mine q")) | ((focus (with_reducible apply Mine.is_quotable_v); walk_at "mine q")))
local macro_rules | `(tactic| walk_at "mine cc") => `(tactic| (focus (with_reducible apply Mine.quoted_octets_c); walk_at "mine q"))
section
variable {w : World} {pv : Program} {loose : List Str} {mean : ExcName → Option Value} {mg mb : Str → Option Value} {h₀ : Heap} {A : Around} {s : Shared} {Q E : Value → Shared → Prop}
set_option maxHeartbeats 4000000 in
theorem string_octets_c (X : (hd.heap_1 w.params).In h₀) (T : Top pv loose mean mg mb h₀) (keep : h₀.StaysIn s.heap) (hA : Low A 4) {b r : Array UInt8} {tb : Tok} (hz : b.size ≤ 1000) (hr : Wr b r)
    (hret : PPost s Q fun t => .bytes r t) : wpC (model PySem.Challenge.rw_pq0944_01.row.prog w) A (call (.ref 387) [.bytes b tb, .bool true]) Q E s := by
  obtain ⟨ah, ad, af, ag, au⟩ := A
  obtain rfl : ah = none := hA.1
  have hw : Has h₀ s.heap [] := fun q hq => nomatch hq
  k_dflt (refine' enterC0 (binds := [(Str.ofString "octets", .bytes b tb), (Str.ofString "is_plus", .bool true)]) hA X T keep hw ?k6 ?k7 ?k9 ?kB ?_ ?c2 ?c3 ?c4 ?c5)
  walk_at "mine sides d"
  intro g' L' h' KG' F' N' X' T' A'
  clear X T keep hA
  rcases hr with ⟨hq, rfl⟩ | ⟨rfl, rfl⟩ | ⟨rfl, rfl⟩
  · walk_at "mine go"
    walk_at "mine pend"
  · have hq : quotable #[0] = false := by decide +kernel
    walk_at "mine go"
    walk_at "mine pend"
  · have hq : quotable #[228, 13, 10] = false := by decide +kernel
    walk_at "mine go"
    walk_at "mine pend"
end
-- p10
noncomputable def WrN (v : Value) (r : Array UInt8) : Prop := (v = .none ∧ r = #[78, 73, 76]) ∨ ∃ b t, v = .bytes b t ∧ Wr b r ∧ b.size ≤ 1000
section
variable {w : World} {pv : Program} {loose : List Str} {mean : ExcName → Option Value} {mg mb : Str → Option Value} {h₀ : Heap} {A : Around} {s : Shared} {Q E : Value → Shared → Prop}
end
local macro_rules | `(tactic| walk_at "mine cc") => `(tactic| (focus (with_reducible apply Mine.string_octets_c); walk_at "mine q"))
section
variable {w : World} {pv : Program} {loose : List Str} {mean : ExcName → Option Value} {mg mb : Str → Option Value} {h₀ : Heap} {A : Around} {s : Shared} {Q E : Value → Shared → Prop}
set_option maxHeartbeats 4000000 in
theorem nstring_octets_c (X : (hd.heap_1 w.params).In h₀) (T : Top pv loose mean mg mb h₀) (keep : h₀.StaysIn s.heap) (hA : Low A 5) {v : Value} {r : Array UInt8} (hr : WrN v r)
    (hret : PPost s Q fun t => .bytes r t) : wpC (model PySem.Challenge.rw_pq0944_01.row.prog w) A (call (.ref 394) [v]) Q E s := by
  obtain ⟨ah, ad, af, ag, au⟩ := A
  obtain rfl : ah = none := hA.1
  have hw : Has h₀ s.heap [] := fun q hq => nomatch hq
  k_dflt (refine' enterC0 (binds := [(Str.ofString "octets", v)]) hA X T keep hw ?k6 ?k7 ?k9 ?kB ?_ ?c2 ?c3 ?c4 ?c5)
  walk_at "mine sides"
  intro g' L' h' KG' F' N' X' T' A'
  clear X T keep hA
  rcases hr with ⟨rfl, rfl⟩ | ⟨b, t, rfl, hr, hz⟩
  · walk_at "mine go"
    walk_at "mine pend"
  · walk_at "mine go"
    walk_at "mine pend"
end
-- p11
section
variable {prog : Program} {w : World} {A : Around} {E : Value → Shared → Prop} {s : Shared} {g : Heap} {L : Addr} {m : Str → Option Value} {led : List (Addr × Obj)}
theorem IsTuple_keeps {h h' : Heap} {a : Addr} {items : Array Value} (x : h.IsTuple a items) (k : h.StaysIn h') : h'.IsTuple a items := let ⟨o, ho, r⟩ := x; ⟨o, k _ _ ho, r⟩
theorem item_tup {value slice : Expr} {t : Addr} {l : List Value} {k : Int} {u : Tok} {x : Value} {Q : Value → Shared → Prop} (F : Fr g L s.heap m) (ht : g.IsTuple t l.toArray)
    (h0 : 0 ≤ k) (hx : l[k.toNat]? = some x) (hk : k < 2 ^ 63) (h : Q x s)
    (hs : subscripted slice false (.ref t) (.int k u) = operate [.ref t, .int k u] (getItem (.ref t) (.int k u)) := by with_unfolding_all rfl) :
    wpAny (model prog w) A (subscriptTail value slice (.ref t) (.int k u)) Q E s := by
  refine item_tupleT (j := k.toNat) (l := l) ?_ (by omega) hk ?_ hx h hs
  · obtain ⟨o, ho, hc, n, hd⟩ := IsTuple_keeps ht F.keep
    exact ⟨o, ho, hc, n, hd⟩
  · have hlt : k.toNat < l.length := by
      rcases Nat.lt_or_ge k.toNat l.length with h | h
      · exact h
      · rw [List.getElem?_eq_none h] at hx; cases hx
    have h1 : ¬ k < 0 := by omega
    unfold seqIndex?
    simp only [h1, if_false]
    rw [if_pos (by simp only [Bool.and_eq_true, decide_eq_true_eq]; omega)]
end
local macro_rules | `(tactic| walk_at "subscriptTail") => `(tactic| (k_here; (with_reducible show wpAny _ _ (subscriptTail _ _ (Value.ref _) (Value.int _ _)) _ _ _); k_dflt (refine' Mine.item_tup (by assumption) (by assumption) ?h0 ?hx ?hk ?_; (case h0 => decide); (case hx => rfl); (case hk => decide))))
local macro_rules | `(tactic| walk_at "getMethod bytes") => `(tactic| (k_here; first | with_reducible refine Mine.getM_join ?_ | with_reducible refine Mine.getM_replace ?_))
section
variable {w : World} {pv : Program} {loose : List Str} {mean : ExcName → Option Value} {mg mb : Str → Option Value} {h₀ : Heap} {A : Around} {s : Shared} {Q E : Value → Shared → Prop}
theorem blk_local {prog : Program} {scope : Scope} {C : Addr} {env : Env} {x : Str} {pos : Pos} {m : Str → Option Value} {v : Value} (hk : scope.kind = .function) (hl : (compEnv scope C env).kindOf x = some .local) (hn : s.heap.Ns C m) (hv : m x = some v) (h : Q v s) (hd : (x == ("__debug__" : Str)) = false) :
    wpAny (model prog w) A (eval (.Name x pos) (compEnv scope C env)) Q E s :=
  wpAny_Name (wpAny_loadName_local hk hl hn hv h) hd
theorem foldl_size_le (l : List (Array UInt8)) (c : Nat) (k : Nat) (h : ∀ p ∈ l, p.size ≤ k) : l.foldl (· + ·.size) c ≤ c + k * l.length := by
  induction l generalizing c with
  | nil => simp
  | cons p l ih =>
    have h1 := h p (.head _)
    have h2 := ih (c + p.size) fun q hq => h q (.tail _ hq)
    rw [List.foldl_cons, List.length_cons]
    have : k * (l.length + 1) = k * l.length + k := by rw [Nat.mul_add, Nat.mul_one]
    omega
theorem joined_size_le (sep : Array UInt8) (l : List (Array UInt8)) (k : Nat) (h : ∀ p ∈ l, p.size ≤ k) : (Builtin.Bytes.joined sep l).size ≤ (k + sep.size) * l.length := by
  unfold Builtin.Bytes.joined
  have key : ∀ (l : List (Array UInt8)) (n : Nat) (out : Array UInt8), (∀ p ∈ l, p.size ≤ k) → ((l.zipIdx n).foldl (fun out (x : Array UInt8 × Nat) => (if x.2 > 0 then out ++ sep else out) ++ x.1) out).size ≤ out.size + (k + sep.size) * l.length := by
    intro l
    induction l with
    | nil => intro n out _; simp
    | cons p l ih =>
      intro n out h
      have h1 := h p (.head _)
      rw [List.zipIdx_cons, List.foldl_cons, List.length_cons]
      refine Nat.le_trans (ih (n + 1) _ fun q hq => h q (.tail _ hq)) ?_
      have e : (k + sep.size) * (l.length + 1) = (k + sep.size) * l.length + (k + sep.size) := by rw [Nat.mul_add, Nat.mul_one]
      have : ((if n > 0 then out ++ sep else out) ++ p).size ≤ out.size + (k + sep.size) := by
        split <;> simp only [Array.size_append] <;> omega
      dsimp only
      omega
  have := key l 0 #[] h
  simpa using this
theorem bytesAre_of {ys : List Value} {n : Nat} {f : Nat → Array UInt8} (hlen : ys.length = n) (h : ∀ j y, ys[j]? = some y → ∃ t, y = Value.bytes (f j) t) : BytesAre ys ((List.range n).map f) := by
  subst hlen
  induction ys generalizing f with
  | nil => exact .nil
  | cons y ys ih =>
    obtain ⟨t, rfl⟩ := h 0 y rfl
    rw [List.length_cons, List.range_succ_eq_map, List.map_cons, List.map_map]
    exact .cons _ _ (ih fun j y hy => h (j + 1) y (by simpa using hy))
end
local macro_rules | `(tactic| walk_at "binaryOp Add bytes bytes") => `(tactic| (k_here; (with_reducible show wpAny _ _ (binaryOp Operator.Add (Value.bytes _ _) (Value.bytes _ _)) _ _ _); (refine KBy.add_bytes ?hadd ?_); (case hadd => (simp only [Array.size_append, List.size_toArray, List.length_cons, List.length_nil]; omega)); intro _ _))
local macro_rules | `(tactic| walk_at "call builtin:bytes.join") => `(tactic| (k_here; (refine Mine.call_join (by assumption) (by assumption) (by assumption) (by assumption) ?_); intro _ _))
section
variable {w : World} {pv : Program} {loose : List Str} {mean : ExcName → Option Value} {mg mb : Str → Option Value} {h₀ : Heap} {A : Around} {s : Shared} {Q E : Value → Shared → Prop}
set_option maxHeartbeats 4000000 in
theorem write_id_none_c (X : (hd.heap_1 w.params).In h₀) (T : Top pv loose mean mg mb h₀) (keep : h₀.StaysIn s.heap) (hA : Low A 6) {a : Addr} (hT : s.heap.IsTuple a [Value.none].toArray)
    (hret : PPost s Q fun t => .bytes #[32, 78, 73, 76] t) : wpC (model PySem.Challenge.rw_pq0944_01.row.prog w) A (call (.ref 399) [.ref a]) Q E s := by
  obtain ⟨ah, ad, af, ag, au⟩ := A
  obtain rfl : ah = none := hA.1
  have hw : Has h₀ s.heap [] := fun q hq => nomatch hq
  k_dflt (refine' enterC0 (binds := [(Str.ofString "args", .ref a)]) hA X T keep hw ?k6 ?k7 ?k9 ?kB ?_ ?c2 ?c3 ?c4 ?c5)
  walk_at "mine sides"
  intro g' L' h' KG' F' N' X' T' A'
  clear X T keep hA
  have hT' := IsTuple_keeps hT (fun b o e => KG' b o e (by simp))
  walk_at "mine go"
  walk_at "mine pend"
set_option maxHeartbeats 4000000 in
theorem write_id_c (X : (hd.heap_1 w.params).In h₀) (T : Top pv loose mean mg mb h₀) (keep : h₀.StaysIn s.heap) (hA : Low A 7) {a P : Addr} {items : List Value} {key worth : Nat → Value} {kr wr : Nat → Array UInt8} (hT : s.heap.IsTuple a [Value.ref P].toArray)
    (hP : s.heap.IsTuple P items.toArray) (hi : ∀ i v, items[i]? = some v → ∃ Ti kb kt, v = .ref Ti ∧ s.heap.IsTuple Ti #[key i, worth i] ∧ key i = .bytes kb kt ∧ Wr kb (kr i) ∧ kb.size ≤ 1000 ∧ WrN (worth i) (wr i))
    (hn : items.length ≤ 100) (hs : ∀ i, (kr i).size ≤ 100 ∧ (wr i).size ≤ 100)
    (hret : PPost s Q fun t => .bytes (#[32, 40] ++ Builtin.Bytes.joined #[32] ((List.range items.length).map fun i => kr i ++ #[32] ++ wr i) ++ #[41]) t) : wpC (model PySem.Challenge.rw_pq0944_01.row.prog w) A (call (.ref 399) [.ref a]) Q E s := by
  obtain ⟨ah, ad, af, ag, au⟩ := A
  obtain rfl : ah = none := hA.1
  have hw : Has h₀ s.heap [] := fun q hq => nomatch hq
  k_dflt (refine' enterC0 (binds := [(Str.ofString "args", .ref a)]) hA X T keep hw ?k6 ?k7 ?k9 ?kB ?_ ?c2 ?c3 ?c4 ?c5)
  walk_at "mine sides"
  intro g' L' h' KG' F' N' X' T' A'
  clear X T keep hA
  have KG : s.heap.StaysIn g' := fun b o e => KG' b o e (by simp)
  have hT' := IsTuple_keeps hT KG
  have hPg := IsTuple_keeps hP KG
  walk_at "mine go"
  refine c_Assign_comp (g := g') (L := L') (m := fun y => List.lookup y [(Str.ofString "args", Value.ref a)].reverse) (by rfl) (by decide) (by decide) rfl (by decide) rfl rfl rfl ?_
  iterate 4 walk1
  have hPh := IsTuple_keeps hPg F'.keep
  refine c_src_pairs (key := key) (worth := worth) (F := fun i y => ∃ t, y = Value.bytes (kr i ++ #[32] ++ wr i) t) (Fin := fun s₂ => FinA g' L' (fun y => List.lookup y [(Str.ofString "args", Value.ref a)].reverse) (Str.ofString "pairs") h' _ s₂) rfl hPh (by simp; omega) ?hit ?ha ?hb ?hkd ?hab ?helt ?hfin (fun I s₂ hs₂ S => ⟨_, I, _, true, _, rfl, F', S⟩)
  case ha => rfl
  case hb => rfl
  case hkd => rfl
  case hab => decide
  case hit =>
    intro i v hv
    obtain ⟨Ti, kb, kt, h1, h2, _⟩ := hi i v (by simpa using hv)
    exact ⟨Ti, h1, IsTuple_keeps (IsTuple_keeps h2 KG) F'.keep⟩
  case helt =>
    intro C i h tk m hlt hB hn hma hmb
    obtain ⟨Ti, kb, kt, h1, h2, hk, hWk, hkz, hWw⟩ := hi i (items[i]'(by simpa using hlt)) (by simp)
    have FC := F'.keeps hB
    rw [hk] at hma
    have KB : (hd.heap_1 w.params).In h := X'.keeps FC.keep
    have TB := T'.keeps FC.keep
    have hsi := hs i
    refine c_BinOp (c_BinOp (c_Call (nameG_K FC X' (topRead_of T') (by k_is) ?_ rfl rfl rfl (by decide))))
    refine c_callWith (c_spliced_more (ofAny (blk_local rfl rfl hn hma ?_ (by decide))))
    refine c_spliced_more (ofAny ?_)
    walk1
    refine c_spliced_none ⟨Kpt.ofK (by k_is) KB, ?_⟩
    refine string_octets_c KB TB (fun _ _ e => e) (A'.mono (by decide)) hkz hWk fun t1 hA tA stA => ?_
    have hB2 : h'.StaysIn hA := fun b o e => stA b o (hB b o e)
    have FD := F'.keeps hB2
    have KD : (hd.heap_1 w.params).In hA := X'.keeps FD.keep
    have TD := T'.keeps FD.keep
    refine ofAny ?_
    walk1
    dsimp only
    walk1
    refine c_Call (nameG_K FD X' (topRead_of T') (by k_is) ?_ rfl rfl rfl (by decide))
    refine c_callWith (c_spliced_more (ofAny (blk_local rfl rfl (hn.keeps stA) hmb ?_ (by decide))))
    refine c_spliced_none ⟨Kpt.ofK (by k_is) KD, ?_⟩
    refine nstring_octets_c KD TD (fun _ _ e => e) (A'.mono (by decide)) hWw fun t2 hC tC stC => ?_
    dsimp only
    walk1
    exact ⟨⟨_, rfl⟩, _, _, rfl, fun b o e => stC b o (stA b o e)⟩
  case hfin =>
    rintro s₂ ⟨h, tk, rfl⟩ D ys h₁ tk₁ hlen hF hpl hB hDB
    intro h'' tk' F'' hpl'' hgD hDL hk''
    have hBA := bytesAre_of hlen hF
    have hsz : (items.toArray).size = items.length := by simp
    rw [hsz] at hBA
    have hl'' := hpl''.isList
    have hp : ∀ p ∈ (List.range items.length).map (fun i => kr i ++ #[32] ++ wr i), p.size ≤ 201 := by
      intro p hp
      obtain ⟨i, _, rfl⟩ := List.mem_map.mp hp
      have := hs i
      simp only [Array.size_append, List.size_toArray, List.length_cons, List.length_nil]
      omega
    have hlm : ((List.range items.length).map (fun i => kr i ++ #[32] ++ wr i)).length = items.length := by simp
    have hz1 : ((List.range items.length).map (fun i => kr i ++ #[32] ++ wr i)).foldl (· + ·.size) ((#[32] : Array UInt8).size * (((List.range items.length).map (fun i => kr i ++ #[32] ++ wr i)).length - 1)) ≤ 1000000 := by
      refine Nat.le_trans (foldl_size_le _ _ 201 hp) ?_
      rw [hlm]
      show 1 * _ + _ ≤ _
      omega
    have hz3 := joined_size_le #[32] _ 201 hp
    rw [hlm] at hz3
    have hz2 : (Builtin.Bytes.joined #[32] ((List.range items.length).map (fun i => kr i ++ #[32] ++ wr i))).size ≤ 1000000 := by
      refine Nat.le_trans hz3 ?_
      show (201 + 1) * _ ≤ _
      omega
    have N'' : News g' L' h'' [] := fun q hq => nomatch hq
    walk_at "mine go"
    walk_at "mine pend"
end
-- p12
/-- an octet that a quoted string may hold -/
noncomputable def Qc (c : UInt8) : Prop := 1 ≤ (c.toNat : Int) ∧ (c.toNat : Int) ≤ 127 ∧ (#[13, 10] : Array UInt8).contains c = false
theorem esc_ge (l : List UInt8) : l.length ≤ (esc l).length := by
  induction l with
  | nil => simp
  | cons c r ih =>
    have : esc (c :: r) = (if c = 34 ∨ c = 92 then [92, c] else [c]) ++ esc r := by simp [esc]
    rw [this, List.length_append, List.length_cons]
    split <;> simp <;> omega
theorem esc_cons (c : UInt8) (l : List UInt8) : esc (c :: l) = (if c = 34 ∨ c = 92 then [92, c] else [c]) ++ esc l := by simp [esc]
section
variable {w : World} {pv : Program} {loose : List Str} {mean : ExcName → Option Value} {mg mb : Str → Option Value} {h₀ : Heap} {A : Around} {s : Shared} {Q E : Value → Shared → Prop}
    {aw ad : Addr} {H1 H2 : Int} {k1 k2 : Tok} {D : Array UInt8} {td : Tok} {p : Int} {tp : Tok} {l l₂ : List UInt8}
theorem peek_v (X : (hd.heap_1 w.params).In h₀) (T : Top pv loose mean mg mb h₀) (keep : h₀.StaysIn s.heap) (hA : Low A 1)
    (hw : Has h₀ s.heap (wLed aw ad H1 H2 k1 k2 D td p tp)) (hat : At D p l) (hsz : D.size ≤ 1000000) {v : Int} (hv : first l = v)
    (hret : PPost s Q fun t => .int v t) : wpAny (model PySem.Challenge.rw_pq0944_01.row.prog w) A (call (.ref 199) [.ref aw]) Q E s := by
  subst hv
  exact peek_c X T keep hA hw hat hsz hret
end
local macro_rules | `(tactic| walk_at "call ref") => `(tactic| (focus (with_reducible apply Mine.peek_v); (case hw => walk_at "mine has"); walk_at "mine q"))
section
variable {w : World} {pv : Program} {loose : List Str} {mean : ExcName → Option Value} {mg mb : Str → Option Value} {h₀ : Heap} {A : Around} {s : Shared} {Q E : Value → Shared → Prop}
    {aw ad : Addr} {H1 H2 : Int} {k1 k2 : Tok} {D : Array UInt8} {td : Tok} {p : Int} {tp : Tok} {l l₂ : List UInt8}
theorem in_int_f {prog : Program} {b : Array UInt8} {i : Int} {t u : Tok} (hc : b.contains i.toNat.toUInt8 = false) (h0 : 0 ≤ i) (h1 : i < 256) (h : Q (.bool false) s) : wpAny (model prog w) A (compareOp .In (.int i u) (.bytes b t)) Q E s :=
  in_int_r h0 h1 (by rw [hc]; exact h)
end
local macro_rules | `(tactic| walk_at "compareOp In int bytes") => `(tactic| (k_here; refine Mine.in_int_f (by assumption) (by first | omega | exact Mine.u8_lo _) (by first | omega | exact Mine.u8_hi _) ?_))
section
variable {w : World} {pv : Program} {loose : List Str} {mean : ExcName → Option Value} {mg mb : Str → Option Value} {h₀ : Heap} {A : Around} {s : Shared} {Q E : Value → Shared → Prop}
    {aw ad : Addr} {H1 H2 : Int} {k1 k2 : Tok} {D : Array UInt8} {td : Tok} {p : Int} {tp : Tok} {l l₂ : List UInt8}
set_option maxHeartbeats 8000000 in
theorem quoted_c (X : (hd.heap_1 w.params).In h₀) (T : Top pv loose mean mg mb h₀) (keep : h₀.StaysIn s.heap) (hA : Low A 4)
    (hw : Has h₀ s.heap (wLed aw ad H1 H2 k1 k2 D td p tp)) {xs r : List UInt8} (hat : At D p (34 :: (esc xs ++ 34 :: r))) (hsz : D.size ≤ 100000) (hx : ∀ c ∈ xs, Qc c)
    (hret : WPost s ad (wOb H1 H2 k1 k2 D td) (fun p' => At D p' r) Q fun t => .bytes xs.toArray t) :
    wpC (model PySem.Challenge.rw_pq0944_01.row.prog w) A (call (.ref 290) [.ref aw]) Q E s := by
  obtain ⟨ah, ad', af, ag, au⟩ := A
  obtain rfl : ah = none := hA.1
  have hne := hw.wne
  k_dflt (refine' enterC0 (binds := [(Str.ofString "self", .ref aw)]) hA X T keep hw ?k6 ?k7 ?k9 ?kB ?_ ?c2 ?c3 ?c4 ?c5)
  walk_at "mine sides"
  intro g' L' h' KG' F' N' X' T' A'
  clear X T keep hA
  have hsz' : D.size ≤ 1000000 := by omega
  have hat0 : At D p ((#[34] : Array UInt8).toList ++ (esc xs ++ 34 :: r)) := hat
  walk_at "mine go"
  rename_i p1 tp1 tv1 ha tk1 hat1 f hb l1 hc F1 N1
  have hxl : xs.length ≤ 100000 := by
    have h1 := hat1.size
    have h2 := hat1.1
    have h3 := esc_ge xs
    rw [List.length_append] at h1
    omega
  refine c_while_w (E' := NoE) (σ := Int × Tok × List UInt8 × List UInt8) (fun c => xs = c.2.2.1 ++ c.2.2.2 ∧ At D c.1 (esc c.2.2.2 ++ 34 :: r)) (fun c => [(f, baOb c.2.2.1.toArray), (aw, instObj 355 ad), (ad, wOb H1 H2 k1 k2 D td c.1 c.2.1)]) (fun c => c.2.2.2.length) (p1, tp1, [], xs) (fun _ _ x => x.elim) F1 N1 ⟨rfl, hat1⟩ ?_
  rintro ⟨p2, tp2, a, b⟩ h2 tk2 ⟨e1, hat2⟩ F2 N2
  dsimp only at e1 hat2 N2 ⊢
  clear F1 N1 hat1 hat hat0
  have hal : a.length ≤ 100000 := by rw [e1, List.length_append] at hxl; omega
  have hal' : a.toArray.size ≤ 100000 := by simpa using hal
  cases b with
  | nil =>
    rw [List.append_nil] at e1
    subst e1
    replace hat2 : At D p2 (34 :: r) := hat2
    have hf : first (34 :: r) = 34 := rfl
    walk_at "mine go"
    walk_at "mine wend"
    exact hat2.one
  | cons c b =>
    obtain ⟨hq1, hq2, hq3⟩ := hx c (by rw [e1]; simp)
    rw [esc_cons] at hat2
    by_cases h34 : c = 34 ∨ c = 92
    · rw [if_pos h34] at hat2
      rcases h34 with rfl | rfl
      · have hat3 : At D (p2 + 1) (34 :: (esc b ++ 34 :: r)) := At.one (c := 92) hat2
        replace hat2 : At D p2 (92 :: 34 :: (esc b ++ 34 :: r)) := hat2
        have hf : first (92 :: 34 :: (esc b ++ 34 :: r)) = 92 := rfl
        have hf' : first (34 :: (esc b ++ 34 :: r)) = 34 := rfl
        have hcr : (#[13, 10] : Array UInt8).contains ((34 : Int)).toNat.toUInt8 = false := by decide +kernel
        have ea : (a ++ [34]).toArray = a.toArray.push 34 := by simp
        walk_at "mine go"
        refine' turned (c' := (?p1, ?t1, a ++ [34], b)) (by assumption) (by assumption) ?hs1 ?hI1 ?hm1
        case hs1 => (dsimp only; rw [ea]; walk_at "mine sub")
        case hI1 => exact ⟨by rw [e1]; simp, hat3.one⟩
        case hm1 => exact Nat.lt_succ_self _
      · have hat3 : At D (p2 + 1) (92 :: (esc b ++ 34 :: r)) := At.one (c := 92) hat2
        replace hat2 : At D p2 (92 :: 92 :: (esc b ++ 34 :: r)) := hat2
        have hf : first (92 :: 92 :: (esc b ++ 34 :: r)) = 92 := rfl
        have hf' : first (92 :: (esc b ++ 34 :: r)) = 92 := rfl
        have hcr : (#[13, 10] : Array UInt8).contains ((92 : Int)).toNat.toUInt8 = false := by decide +kernel
        have ea : (a ++ [92]).toArray = a.toArray.push 92 := by simp
        walk_at "mine go"
        refine' turned (c' := (?p5, ?t5, a ++ [92], b)) (by assumption) (by assumption) ?hs5 ?hI5 ?hm5
        case hs5 => (dsimp only; rw [ea]; walk_at "mine sub")
        case hI5 => exact ⟨by rw [e1]; simp, hat3.one⟩
        case hm5 => exact Nat.lt_succ_self _
    · rw [if_neg h34] at hat2
      replace hat2 : At D p2 (c :: (esc b ++ 34 :: r)) := hat2
      have hf : first (c :: (esc b ++ 34 :: r)) = (c.toNat : Int) := rfl
      have hn1 : (c.toNat : Int) ≠ 34 := fun e => h34 (.inl (u34 e))
      have hn2 : (c.toNat : Int) ≠ 92 := fun e => h34 (.inr (u92 e))
      have hcr : (#[13, 10] : Array UInt8).contains ((c.toNat : Int)).toNat.toUInt8 = false := by rw [u8_back]; exact hq3
      walk_at "mine go"
      all_goals try (exfalso; omega)
      have ea : (a ++ [c]).toArray = a.toArray.push c := by simp
      refine' turned (c' := (?p3, ?t3, a ++ [c], b)) (by assumption) (by assumption) ?hs2 ?hI2 ?hm2
      case hs2 => (dsimp only; rw [ea]; walk_at "mine sub")
      case hI2 => exact ⟨by rw [e1]; simp, hat2.one⟩
      case hm2 => exact Nat.lt_succ_self _
end
-- p13
section
variable {w : World} {pv : Program} {loose : List Str} {mean : ExcName → Option Value} {mg mb : Str → Option Value} {h₀ : Heap} {A : Around} {s : Shared} {Q E : Value → Shared → Prop}
    {aw ad : Addr} {H1 H2 : Int} {k1 k2 : Tok} {D : Array UInt8} {td : Tok} {p : Int} {tp : Tok} {l l₂ : List UInt8}
set_option maxHeartbeats 4000000 in
theorem number_1 (X : (hd.heap_1 w.params).In h₀) (T : Top pv loose mean mg mb h₀) (keep : h₀.StaysIn s.heap) (hA : Low A 1) {tb : Tok}
    (hret : PPost s Q fun t => .int 1 t) : wpAny (model PySem.Challenge.rw_pq0944_01.row.prog w) A (call (.ref 163) [.bytes #[49] tb]) Q E s := by
  obtain ⟨ah, ad, af, ag, au⟩ := A
  obtain rfl : ah = none := hA.1
  have hw : Has h₀ s.heap [] := fun q hq => nomatch hq
  k_dflt (refine' enter0 (binds := [(Str.ofString "octets", .bytes #[49] tb)]) hA X T keep hw ?k6 ?k7 ?k9 ?kB ?_ ?c2 ?c3 ?c4 ?c5)
  walk_at "mine sides"
  intro g' L' h' KG' F' N' X' T' A'
  clear X T keep hA
  (try k_fold)
  k_steps
  all_goals walk_at "mine pend"
set_option maxHeartbeats 4000000 in
theorem number_3 (X : (hd.heap_1 w.params).In h₀) (T : Top pv loose mean mg mb h₀) (keep : h₀.StaysIn s.heap) (hA : Low A 1) {tb : Tok}
    (hret : PPost s Q fun t => .int 3 t) : wpAny (model PySem.Challenge.rw_pq0944_01.row.prog w) A (call (.ref 163) [.bytes #[51] tb]) Q E s := by
  obtain ⟨ah, ad, af, ag, au⟩ := A
  obtain rfl : ah = none := hA.1
  have hw : Has h₀ s.heap [] := fun q hq => nomatch hq
  k_dflt (refine' enter0 (binds := [(Str.ofString "octets", .bytes #[51] tb)]) hA X T keep hw ?k6 ?k7 ?k9 ?kB ?_ ?c2 ?c3 ?c4 ?c5)
  walk_at "mine sides"
  intro g' L' h' KG' F' N' X' T' A'
  clear X T keep hA
  (try k_fold)
  k_steps
  all_goals walk_at "mine pend"
end
local macro_rules | `(tactic| walk_at "call ref") => `(tactic| first | ((focus (with_reducible apply Mine.number_3); walk_at "mine q")) | ((focus (with_reducible apply Mine.number_1); walk_at "mine q")))
section
variable {w : World} {pv : Program} {loose : List Str} {mean : ExcName → Option Value} {mg mb : Str → Option Value} {h₀ : Heap} {A : Around} {s : Shared} {Q E : Value → Shared → Prop}
    {aw ad : Addr} {H1 H2 : Int} {k1 k2 : Tok} {D : Array UInt8} {td : Tok} {p : Int} {tp : Tok} {l l₂ : List UInt8}
set_option maxHeartbeats 8000000 in
theorem literal_1_c (X : (hd.heap_1 w.params).In h₀) (T : Top pv loose mean mg mb h₀) (keep : h₀.StaysIn s.heap) (hA : Low A 4)
    (hw : Has h₀ s.heap (wLed aw ad H1 H2 k1 k2 D td p tp)) {plus : Bool} {x : UInt8} {r : List UInt8} (hat : At D p (123 :: 49 :: ((if plus then [43] else []) ++ (125 :: 13 :: 10 :: x :: r)))) (hsz : D.size ≤ 100000)
    (hret : WPost s ad (wOb H1 H2 k1 k2 D td) (fun p' => At D p' r) Q fun t => .bytes #[x] t) :
    wpAny (model PySem.Challenge.rw_pq0944_01.row.prog w) A (call (.ref 297) [.ref aw]) Q E s := by
  obtain ⟨ah, ad', af, ag, au⟩ := A
  obtain rfl : ah = none := hA.1
  have hne := hw.wne
  k_dflt (refine' enter0 (binds := [(Str.ofString "self", .ref aw)]) hA X T keep hw ?k6 ?k7 ?k9 ?kB ?_ ?c2 ?c3 ?c4 ?c5)
  walk_at "mine sides"
  intro g' L' h' KG' F' N' X' T' A'
  clear X T keep hA
  have hsz' : D.size ≤ 1000000 := by omega
  have hat0 : At D p ((#[123] : Array UInt8).toList ++ ([49] ++ ((if plus then [43] else []) ++ (125 :: 13 :: 10 :: x :: r)))) := hat
  have hfig : ∀ c ∈ ([49] : List UInt8), isFig c = true := by decide
  cases plus with
  | true =>
    simp only [if_true] at hat0
    have hstop : ∀ c r', ([43] ++ (125 :: 13 :: 10 :: x :: r) : List UInt8) = c :: r' → isFig c = false := by
      rintro c r' e
      cases e
      decide
    (try k_fold)
    k_steps
    all_goals rename At D _ (x :: r) => ha
    all_goals have hz := ha.size
    all_goals have hz0 := ha.1
    all_goals simp only [List.length_cons] at hz
    all_goals first | (exfalso; omega) | skip
    all_goals walk_at "mine wend"
    exact ha.next (a := [x])
  | false =>
    simp only [if_false, Bool.false_eq_true, List.nil_append] at hat0
    have hstop : ∀ c r', (125 :: 13 :: 10 :: x :: r : List UInt8) = c :: r' → isFig c = false := by
      rintro c r' e
      cases e
      decide
    (try k_fold)
    k_steps
    all_goals rename At D _ (x :: r) => ha
    all_goals have hz := ha.size
    all_goals have hz0 := ha.1
    all_goals simp only [List.length_cons] at hz
    all_goals first | (exfalso; omega) | skip
    all_goals walk_at "mine wend"
    exact ha.next (a := [x])
set_option maxHeartbeats 8000000 in
theorem literal_3_c (X : (hd.heap_1 w.params).In h₀) (T : Top pv loose mean mg mb h₀) (keep : h₀.StaysIn s.heap) (hA : Low A 4)
    (hw : Has h₀ s.heap (wLed aw ad H1 H2 k1 k2 D td p tp)) {plus : Bool} {x y z : UInt8} {r : List UInt8} (hat : At D p (123 :: 51 :: ((if plus then [43] else []) ++ (125 :: 13 :: 10 :: x :: y :: z :: r)))) (hsz : D.size ≤ 100000)
    (hret : WPost s ad (wOb H1 H2 k1 k2 D td) (fun p' => At D p' r) Q fun t => .bytes #[x, y, z] t) :
    wpAny (model PySem.Challenge.rw_pq0944_01.row.prog w) A (call (.ref 297) [.ref aw]) Q E s := by
  obtain ⟨ah, ad', af, ag, au⟩ := A
  obtain rfl : ah = none := hA.1
  have hne := hw.wne
  k_dflt (refine' enter0 (binds := [(Str.ofString "self", .ref aw)]) hA X T keep hw ?k6 ?k7 ?k9 ?kB ?_ ?c2 ?c3 ?c4 ?c5)
  walk_at "mine sides"
  intro g' L' h' KG' F' N' X' T' A'
  clear X T keep hA
  have hsz' : D.size ≤ 1000000 := by omega
  have hat0 : At D p ((#[123] : Array UInt8).toList ++ ([51] ++ ((if plus then [43] else []) ++ (125 :: 13 :: 10 :: x :: y :: z :: r)))) := hat
  have hfig : ∀ c ∈ ([51] : List UInt8), isFig c = true := by decide
  cases plus with
  | true =>
    simp only [if_true] at hat0
    have hstop : ∀ c r', ([43] ++ (125 :: 13 :: 10 :: x :: y :: z :: r) : List UInt8) = c :: r' → isFig c = false := by
      rintro c r' e
      cases e
      decide
    (try k_fold)
    k_steps
    all_goals rename At D _ (x :: y :: z :: r) => ha
    all_goals have hz := ha.size
    all_goals have hz0 := ha.1
    all_goals simp only [List.length_cons] at hz
    all_goals first | (exfalso; omega) | skip
    all_goals walk_at "mine wend"
    exact ha.next (a := [x, y, z])
  | false =>
    simp only [if_false, Bool.false_eq_true, List.nil_append] at hat0
    have hstop : ∀ c r', (125 :: 13 :: 10 :: x :: y :: z :: r : List UInt8) = c :: r' → isFig c = false := by
      rintro c r' e
      cases e
      decide
    (try k_fold)
    k_steps
    all_goals rename At D _ (x :: y :: z :: r) => ha
    all_goals have hz := ha.size
    all_goals have hz0 := ha.1
    all_goals simp only [List.length_cons] at hz
    all_goals first | (exfalso; omega) | skip
    all_goals walk_at "mine wend"
    exact ha.next (a := [x, y, z])
end
-- p14
/-- what a string told is: its octets `t` tell the value `v` -/
noncomputable def Str1 (t v : List UInt8) : Prop := (t = 34 :: (esc v ++ [34]) ∧ ∀ c ∈ v, Qc c)
  ∨ (∃ (plus : Bool) (x : UInt8), v = [x] ∧ t = 123 :: 49 :: ((if plus then [43] else []) ++ [125, 13, 10, x]))
  ∨ (∃ (plus : Bool) (x y z : UInt8), v = [x, y, z] ∧ t = 123 :: 51 :: ((if plus then [43] else []) ++ [125, 13, 10, x, y, z]))
section
variable {w : World} {pv : Program} {loose : List Str} {mean : ExcName → Option Value} {mg mb : Str → Option Value} {h₀ : Heap} {A : Around} {s : Shared} {Q E : Value → Shared → Prop}
    {aw ad : Addr} {H1 H2 : Int} {k1 k2 : Tok} {D : Array UInt8} {td : Tok} {p : Int} {tp : Tok} {l l₂ : List UInt8}
end
local macro_rules | `(tactic| walk_at "call ref") => `(tactic| first | ((focus (with_reducible apply Mine.literal_3_c); walk_at "mine q")) | ((focus (with_reducible apply Mine.literal_1_c); walk_at "mine q")))
local macro_rules | `(tactic| walk_at "mine cc") => `(tactic| (focus (with_reducible apply Mine.quoted_c); walk_at "mine q"))
section
variable {w : World} {pv : Program} {loose : List Str} {mean : ExcName → Option Value} {mg mb : Str → Option Value} {h₀ : Heap} {A : Around} {s : Shared} {Q E : Value → Shared → Prop}
    {aw ad : Addr} {H1 H2 : Int} {k1 k2 : Tok} {D : Array UInt8} {td : Tok} {p : Int} {tp : Tok} {l l₂ : List UInt8}
set_option maxHeartbeats 8000000 in
theorem string_c (X : (hd.heap_1 w.params).In h₀) (T : Top pv loose mean mg mb h₀) (keep : h₀.StaysIn s.heap) (hA : Low A 5)
    (hw : Has h₀ s.heap (wLed aw ad H1 H2 k1 k2 D td p tp)) {t v r : List UInt8} (hat : At D p (t ++ r)) (hsz : D.size ≤ 100000) (hx : Str1 t v)
    (hret : WPost s ad (wOb H1 H2 k1 k2 D td) (fun p' => At D p' r) Q fun u => .bytes v.toArray u) :
    wpC (model PySem.Challenge.rw_pq0944_01.row.prog w) A (call (.ref 304) [.ref aw]) Q E s := by
  obtain ⟨ah, ad', af, ag, au⟩ := A
  obtain rfl : ah = none := hA.1
  have hne := hw.wne
  k_dflt (refine' enterC0 (binds := [(Str.ofString "self", .ref aw)]) hA X T keep hw ?k6 ?k7 ?k9 ?kB ?_ ?c2 ?c3 ?c4 ?c5)
  walk_at "mine sides"
  intro g' L' h' KG' F' N' X' T' A'
  clear X T keep hA
  have hsz' : D.size ≤ 1000000 := by omega
  rcases hx with ⟨rfl, hx⟩ | ⟨plus, x, rfl, rfl⟩ | ⟨plus, x, y, z, rfl, rfl⟩
  · have hat0 : At D p (34 :: (esc v ++ 34 :: r)) := by simpa using hat
    clear hat
    have hf : first (34 :: (esc v ++ 34 :: r)) = 34 := rfl
    walk_at "mine go"
    walk_at "mine wend"
    assumption
  · have hat0 : At D p (123 :: 49 :: ((if plus then [43] else []) ++ (125 :: 13 :: 10 :: x :: r))) := by simpa using hat
    clear hat
    have hf : first (123 :: 49 :: ((if plus then [43] else []) ++ (125 :: 13 :: 10 :: x :: r))) = 123 := rfl
    walk_at "mine go"
    walk_at "mine wend"
    assumption
  · have hat0 : At D p (123 :: 51 :: ((if plus then [43] else []) ++ (125 :: 13 :: 10 :: x :: y :: z :: r))) := by simpa using hat
    clear hat
    have hf : first (123 :: 51 :: ((if plus then [43] else []) ++ (125 :: 13 :: 10 :: x :: y :: z :: r))) = 123 := rfl
    walk_at "mine go"
    walk_at "mine wend"
    assumption
end
-- p15
/-- what a string or NIL told is: its octets `t` tell the value -/
noncomputable def StrN (t : List UInt8) : Option (List UInt8) → Prop
  | some v => Str1 t v
  | none => t = [78, 73, 76] ∨ t = [110, 73, 108]
noncomputable def nval : Option (List UInt8) → Tok → Value
  | some v, u => .bytes v.toArray u
  | none, _ => .none
theorem Str1.first {t v r : List UInt8} (h : Str1 t v) : first (t ++ r) = 34 ∨ first (t ++ r) = 123 := by
  rcases h with ⟨rfl, _⟩ | ⟨plus, x, rfl, rfl⟩ | ⟨plus, x, y, z, rfl, rfl⟩
  · exact .inl rfl
  · exact .inr rfl
  · exact .inr rfl
section
variable {w : World} {pv : Program} {loose : List Str} {mean : ExcName → Option Value} {mg mb : Str → Option Value} {h₀ : Heap} {A : Around} {s : Shared} {Q E : Value → Shared → Prop}
    {aw ad : Addr} {H1 H2 : Int} {k1 k2 : Tok} {D : Array UInt8} {td : Tok} {p : Int} {tp : Tok} {l l₂ : List UInt8}
end
local macro_rules | `(tactic| walk_at "mine cc") => `(tactic| (focus (with_reducible apply Mine.string_c); walk_at "mine q"))
local macro_rules | `(tactic| walk_at "call ref") => `(tactic| (focus (with_reducible apply Mine.lower_c); walk_at "mine q"))
section
variable {w : World} {pv : Program} {loose : List Str} {mean : ExcName → Option Value} {mg mb : Str → Option Value} {h₀ : Heap} {A : Around} {s : Shared} {Q E : Value → Shared → Prop}
    {aw ad : Addr} {H1 H2 : Int} {k1 k2 : Tok} {D : Array UInt8} {td : Tok} {p : Int} {tp : Tok} {l l₂ : List UInt8}
set_option maxHeartbeats 8000000 in
theorem nstring_c (X : (hd.heap_1 w.params).In h₀) (T : Top pv loose mean mg mb h₀) (keep : h₀.StaysIn s.heap) (hA : Low A 6)
    (hw : Has h₀ s.heap (wLed aw ad H1 H2 k1 k2 D td p tp)) {t r : List UInt8} {ov : Option (List UInt8)} (hat : At D p (t ++ r)) (hsz : D.size ≤ 100000) (hx : StrN t ov) (hr : ∀ c r', r = c :: r' → isAtom c = false)
    (hret : WPost s ad (wOb H1 H2 k1 k2 D td) (fun p' => At D p' r) Q fun u => nval ov u) :
    wpC (model PySem.Challenge.rw_pq0944_01.row.prog w) A (call (.ref 332) [.ref aw]) Q E s := by
  obtain ⟨ah, ad', af, ag, au⟩ := A
  obtain rfl : ah = none := hA.1
  have hne := hw.wne
  k_dflt (refine' enterC0 (binds := [(Str.ofString "self", .ref aw)]) hA X T keep hw ?k6 ?k7 ?k9 ?kB ?_ ?c2 ?c3 ?c4 ?c5)
  walk_at "mine sides"
  intro g' L' h' KG' F' N' X' T' A'
  clear X T keep hA
  have hsz' : D.size ≤ 1000000 := by omega
  cases ov with
  | some v =>
    replace hx : Str1 t v := hx
    rcases hx.first (r := r) with hf | hf
    · walk_at "mine go"
      all_goals walk_at "mine wend"
      all_goals assumption
    · walk_at "mine go"
      all_goals walk_at "mine wend"
      all_goals assumption
  | none =>
    rcases hx with rfl | rfl
    · have hf : first ([78, 73, 76] ++ r) = 78 := rfl
      have hl : ∀ c ∈ ([78, 73, 76] : List UInt8), isAtom c = true := by decide +kernel
      walk_at "mine go"
      all_goals walk_at "mine wend"
      all_goals assumption
    · have hf : first ([110, 73, 108] ++ r) = 110 := rfl
      have hl : ∀ c ∈ ([110, 73, 108] : List UInt8), isAtom c = true := by decide +kernel
      walk_at "mine go"
      all_goals walk_at "mine wend"
      all_goals assumption
end
-- p16
/-- what a pair told is -/
noncomputable def Pair1 (t : List UInt8) (z : List UInt8 × Option (List UInt8)) : Prop := ∃ tk tw, t = tk ++ (32 :: tw) ∧ Str1 tk z.1 ∧ StrN tw z.2
section
variable {w : World} {pv : Program} {loose : List Str} {mean : ExcName → Option Value} {mg mb : Str → Option Value} {h₀ : Heap} {A : Around} {s : Shared} {Q E : Value → Shared → Prop}
    {aw ad : Addr} {H1 H2 : Int} {k1 k2 : Tok} {D : Array UInt8} {td : Tok} {p : Int} {tp : Tok} {l l₂ : List UInt8}
end
local macro_rules | `(tactic| walk_at "mine cc") => `(tactic| (focus (with_reducible apply Mine.nstring_c); walk_at "mine q"))
section
variable {w : World} {pv : Program} {loose : List Str} {mean : ExcName → Option Value} {mg mb : Str → Option Value} {h₀ : Heap} {A : Around} {s : Shared} {Q E : Value → Shared → Prop}
    {aw ad : Addr} {H1 H2 : Int} {k1 k2 : Tok} {D : Array UInt8} {td : Tok} {p : Int} {tp : Tok} {l l₂ : List UInt8}
noncomputable abbrev tupO (z : List UInt8 × Option (List UInt8)) (u1 u2 : Tok) : Obj := { cls := .type "tuple", data := .seq #[.bytes z.1.toArray u1, nval z.2 u2] }
noncomputable def Kept2 (ad f : Addr) (h h' : Heap) : Prop := ∀ b o, h.get? b = some o → b ≠ ad → b ≠ f → h'.get? b = some o
noncomputable abbrev WPost2 (s : Shared) (ad f : Addr) (mk : Int → Tok → Obj) (its : Array Value) (n : Nat) (z : List UInt8 × Option (List UInt8)) (R : Int → Prop) (Q : Value → Shared → Prop) : Prop :=
  ∀ p' tp' T u1 u2 h' tk', R p' → Kept2 ad f s.heap h' → h'.get? ad = some (mk p' tp') → h'.get? f = some (listOf (its.push (.ref T)) (n + 1)) → h'.get? T = some (tupO z u1 u2) → s.heap.get? T = none → Q .none { s with heap := h', toks := tk' }
theorem wend2 {g h' : Heap} {L' f : Addr} {m' : Str → Option Value} {led led' : List (Addr × Obj)} {tk' : Nat} {mk : Int → Tok → Obj} {its : Array Value} {n : Nat} {z : List UInt8 × Option (List UInt8)} {R : Int → Prop} {p' : Int} {tp' u1 u2 : Tok} {Tt : Addr} (hret : WPost2 s ad f mk its n z R Q)
    (hg : Hid s.heap led g) (hN : Has h₀ s.heap led) (F' : Fr g L' h' m') (N' : News g L' h' led') (hR : R p') (hs : ∀ q ∈ led, q.1 ≠ ad → q.1 ≠ f → q ∈ led') (hm : (ad, mk p' tp') ∈ led') (hmf : (f, listOf (its.push (.ref Tt)) (n + 1)) ∈ led') (hmt : (Tt, tupO z u1 u2) ∈ led') (hT : ∀ q ∈ led, q.1 < Tt) :
    Q .none { s with heap := h', toks := tk' } := by
  have hT' : Tt ∉ led.map (·.1) := by
    intro hx
    obtain ⟨q, hq, e⟩ := List.mem_map.mp hx
    have := hT q hq
    rw [e] at this
    exact Nat.lt_irrefl _ this
  refine hret p' tp' Tt u1 u2 h' tk' hR ?_ (N' _ hm).1 (N' _ hmf).1 (N' _ hmt).1 ?_
  · intro b o e h1 h2
    by_cases hb : b ∈ led.map (·.1)
    · obtain ⟨q, hq, rfl⟩ := List.mem_map.mp hb
      have := (hN q hq).1
      rw [e] at this
      cases this
      exact (N' q (hs q hq h1 h2)).1
    · exact F'.keep b o (hg b o e hb)
  · cases e : s.heap.get? Tt with
    | none => rfl
    | some o =>
      have := hg Tt o e hT'
      rw [(N' _ hmt).2.2] at this
      cases this
set_option maxHeartbeats 8000000 in
theorem pair_here_c (X : (hd.heap_1 w.params).In h₀) (T : Top pv loose mean mg mb h₀) (keep : h₀.StaysIn s.heap) (hA : Low A 7)
    {f : Addr} {n : Nat} {its : Array Value} (hw : Has h₀ s.heap ((f, listOf its n) :: wLed aw ad H1 H2 k1 k2 D td p tp)) {lead tk tw r : List UInt8} {z : List UInt8 × Option (List UInt8)}
    (hat : At D p (lead ++ (tk ++ (32 :: (tw ++ r))))) (hsz : D.size ≤ 100000) (hl : (its = #[] ∧ lead = []) ∨ (0 < its.size ∧ lead = [32])) (hi : its.size ≤ 1000) (hx : Str1 tk z.1) (hy : StrN tw z.2) (hr : ∀ c r', r = c :: r' → isAtom c = false)
    (hret : WPost2 s ad f (wOb H1 H2 k1 k2 D td) its n z (fun p' => At D p' r) Q) :
    wpC (model PySem.Challenge.rw_pq0944_01.row.prog w) A (call (.ref 406) [.ref aw, .ref f]) Q E s := by
  obtain ⟨ah, ad', af, ag, au⟩ := A
  obtain rfl : ah = none := hA.1
  have hne : @Ne Nat aw ad := Has.wne (fun q hq => hw q (.tail _ hq))
  have hf1 : @Ne Nat f aw := hw.apart (.head _) (.tail _ (.head _)) (fun e => nomatch (congrArg Obj.data e))
  have hf2 : @Ne Nat f ad := hw.apart (.head _) (.tail _ (.tail _ (.head _))) (fun e => nomatch (congrArg Obj.data e))
  k_dflt (refine' enterC0 (binds := [(Str.ofString "wire", .ref aw), (Str.ofString "found", .ref f)]) hA X T keep hw ?k6 ?k7 ?k9 ?kB ?_ ?c2 ?c3 ?c4 ?c5)
  walk_at "mine sides"
  intro g' L' h' KG' F' N' X' T' A'
  clear X T keep hA
  have hsz' : D.size ≤ 1000000 := by omega
  rcases hl with ⟨rfl, rfl⟩ | ⟨hpos, rfl⟩
  · have hat0 : At D p (tk ++ (32 :: (tw ++ r))) := hat
    walk_at "mine go"
    (try dsimp only)
    (try k_unfold)
    (try dsimp only)
    rename (_ < _) ∧ (_ < _) ∧ (_ < _) => l1
    refine' wend2 hret KG' hw (by assumption) (by assumption) ?hR ?hs ?hm ?hmf ?hmt ?hT
    case hm => k_mem
    case hmf => k_mem
    case hmt => k_mem
    case hR => assumption
    case hs => (repeat' (first | exact List.forall_mem_nil _ | refine' List.forall_mem_cons.mpr (And.intro ?_ ?_) | exact (fun hn _ => absurd rfl hn) | exact (fun _ hn => absurd rfl hn) | exact (fun _ _ => by k_mem)))
    case hT => (repeat' (first | exact List.forall_mem_nil _ | refine' List.forall_mem_cons.mpr (And.intro ?_ ?_))) <;> (first | exact l1.1 | exact l1.2.1 | exact l1.2.2)
  · have hat0 : At D p (32 :: (tk ++ (32 :: (tw ++ r)))) := hat
    clear hat
    walk_at "mine go"
    (try dsimp only)
    (try k_unfold)
    (try dsimp only)
    rename (_ < _) ∧ (_ < _) ∧ (_ < _) => l1
    refine' wend2 hret KG' hw (by assumption) (by assumption) ?hR ?hs ?hm ?hmf ?hmt ?hT
    case hm => k_mem
    case hmf => k_mem
    case hmt => k_mem
    case hR => assumption
    case hs => (repeat' (first | exact List.forall_mem_nil _ | refine' List.forall_mem_cons.mpr (And.intro ?_ ?_) | exact (fun hn _ => absurd rfl hn) | exact (fun _ hn => absurd rfl hn) | exact (fun _ _ => by k_mem)))
    case hT => (repeat' (first | exact List.forall_mem_nil _ | refine' List.forall_mem_cons.mpr (And.intro ?_ ?_))) <;> (first | exact l1.1 | exact l1.2.1 | exact l1.2.2)
end
-- p17
noncomputable abbrev PairV := List UInt8 × Option (List UInt8)
/-- the pairs told in a row, `b` ahead of the first, a blank ahead of each of the others -/
noncomputable def pbody (b : List UInt8) : List (List UInt8 × PairV) → List UInt8
  | [] => []
  | e :: es => b ++ (e.1 ++ pbody [32] es)
inductive TupsAre : List (Addr × Obj) → List PairV → Prop
  | nil : TupsAre [] []
  | cons {q : Addr × Obj} {z : PairV} {tups : List (Addr × Obj)} {zs : List PairV} : (∃ u1 u2, q.2 = tupO z u1 u2) → TupsAre tups zs → TupsAre (q :: tups) (z :: zs)
theorem TupsAre.snoc {tups : List (Addr × Obj)} {zs : List PairV} (h : TupsAre tups zs) {T : Addr} {z : PairV} {u1 u2 : Tok} : TupsAre (tups ++ [(T, tupO z u1 u2)]) (zs ++ [z]) := by
  induction h with
  | nil => exact .cons ⟨u1, u2, rfl⟩ .nil
  | cons h _ ih => exact .cons h ih
theorem TupsAre.length {tups : List (Addr × Obj)} {zs : List PairV} (h : TupsAre tups zs) : tups.length = zs.length := by
  induction h with
  | nil => rfl
  | cons _ _ ih => simp [ih]
section
variable {M : Model} {A : Around} {t : Sem Value} {Q E : Value → Shared → Prop} {s : Shared} {g : Heap} {L ad f aw : Addr} {m : Str → Option Value}
theorem c_pair_r {mk : Int → Tok → Obj} {R : Int → Prop} {its : Array Value} {n : Nat} {z : PairV} {ow ow1 ow2 : Obj} {tups : List (Addr × Obj)} (F : Fr g L s.heap m) (N : News g L s.heap ((f, ow1) :: (aw, ow) :: (ad, ow2) :: tups))
    (h1 : @Ne Nat aw ad) (h2 : @Ne Nat f aw) (ht1 : ∀ q ∈ tups, q.1 ≠ ad) (ht2 : ∀ q ∈ tups, q.1 ≠ f) (C : WPost2 s ad f mk its n z R Q → wpC M A t Q E s)
    (k : ∀ p' tp' T u1 u2 h' tk', R p' → Fr g L h' m → News g L h' ((f, listOf (its.push (.ref T)) (n + 1)) :: (aw, ow) :: (ad, mk p' tp') :: (tups ++ [(T, tupO z u1 u2)])) → T ≠ ad → T ≠ f → Q .none { s with heap := h', toks := tk' }) : wpC M A t Q E s := by
  refine C fun p' tp' T u1 u2 h' tk' hR hk hd hf hT hfr => ?_
  have Nf := N _ (.head _)
  have Na := N _ (.tail _ (.head _))
  have Nd := N _ (.tail _ (.tail _ (.head _)))
  obtain ⟨oL, es, ep, hL, r⟩ := F.ns
  have hTd : T ≠ ad := fun e => by rw [e, Nd.1] at hfr; cases hfr
  have hTf : T ≠ f := fun e => by rw [e, Nf.1] at hfr; cases hfr
  have hTL : T ≠ L := fun e => by rw [e, hL] at hfr; cases hfr
  refine k p' tp' T u1 u2 h' tk' hR ⟨⟨oL, es, ep, hk _ _ hL (Ne.symm Nd.2.1) (Ne.symm Nf.2.1), r⟩, fun b x q => hk _ _ (F.keep b x q) (fun z => ?_) fun z => ?_, F.above⟩ ?_ hTd hTf
  · have := Nd.2.2; rw [← z, q] at this; cases this
  · have := Nf.2.2; rw [← z, q] at this; cases this
  · intro q hq
    rcases List.mem_cons.mp hq with rfl | hq
    · exact ⟨hf, Nf.2⟩
    rcases List.mem_cons.mp hq with rfl | hq
    · exact ⟨hk _ _ Na.1 h1 (Ne.symm h2), Na.2⟩
    rcases List.mem_cons.mp hq with rfl | hq
    · exact ⟨hd, Nd.2⟩
    rcases List.mem_append.mp hq with hq | hq
    · have P := N q (.tail _ (.tail _ (.tail _ hq)))
      exact ⟨hk _ _ P.1 (ht1 q hq) (ht2 q hq), P.2⟩
    · rcases List.mem_singleton.mp hq with rfl
      refine ⟨hT, hTL, ?_⟩
      cases e : g.get? T with
      | none => rfl
      | some o => have := F.keep _ _ e; rw [hfr] at this; cases this
end
theorem pbody_atom {es : List (List UInt8 × PairV)} {r : List UInt8} : ∀ c r', pbody [32] es ++ 41 :: r = c :: r' → isAtom c = false := by
  intro c r' e
  cases es with
  | nil => cases e; decide +kernel
  | cons a es => cases e; decide +kernel
theorem Pair1.head {t : List UInt8} {z : PairV} (h : Pair1 t z) : ∃ c t', t = c :: t' ∧ c ≠ 41 := by
  obtain ⟨tk, tw, rfl, h, _⟩ := h
  rcases h with ⟨rfl, _⟩ | ⟨plus, x, _, rfl⟩ | ⟨plus, x, y, z, _, rfl⟩
  · exact ⟨34, _, rfl, by decide⟩
  · exact ⟨123, _, rfl, by decide⟩
  · exact ⟨123, _, rfl, by decide⟩
theorem not_close {c : UInt8} {l : List UInt8} (h : c ≠ 41) : ((List.take (#[41] : Array UInt8).size (c :: l)).toArray.toList != (#[41] : Array UInt8).toList) = true := by
  simp [h]
noncomputable def PairsAt (h : Heap) (P : Addr) (zs : List PairV) : Prop := ∃ tups, h.IsTuple P (tups.map fun q : Addr × Obj => Value.ref q.1).toArray ∧ (∀ q ∈ tups, h.get? q.1 = some q.2) ∧ TupsAre tups zs
noncomputable abbrev RPost (s : Shared) (ad : Addr) (mk : Int → Tok → Obj) (R : Int → Prop) (Q : Value → Shared → Prop) (zs : List PairV) : Prop := ∀ p' tp' a P h' tk', R p' → Kept ad s.heap h' → h'.get? ad = some (mk p' tp') → h'.IsTuple a #[Value.ref P] → PairsAt h' P zs → Q (.ref a) { s with heap := h', toks := tk' }
section
variable {w : World} {pv : Program} {loose : List Str} {mean : ExcName → Option Value} {mg mb : Str → Option Value} {h₀ : Heap} {A : Around} {s : Shared} {Q E : Value → Shared → Prop}
    {aw ad : Addr} {H1 H2 : Int} {k1 k2 : Tok} {D : Array UInt8} {td : Tok} {p : Int} {tp : Tok} {l l₂ : List UInt8}
noncomputable def StopC (P : Prop) : Prop := P
theorem stopC {P : Prop} (h : StopC P) : P := h
theorem goC {P : Prop} (h : P) : StopC P := h
/-- a mark: the walk stops at calls of that function -/
inductive StopAt (_ : Nat) : Prop
  | mk
theorem stopAt {M : Model} {A : Around} {n : Nat} {as : List Value} {kw : List (Str × Value)} {Q E : Value → Shared → Prop} {s : Shared} (_ : StopAt n) (k : StopC (wpC M A (call (.ref n) as kw) Q E s)) : wpC M A (call (.ref n) as kw) Q E s := k
theorem stop406 {M : Model} {A : Around} {as : List Value} {kw : List (Str × Value)} {Q E : Value → Shared → Prop} {s : Shared} (k : StopC (wpC M A (call (.ref 406) as kw) Q E s)) : wpC M A (call (.ref 406) as kw) Q E s := k
theorem stopLC {M : Model} {A : Around} {e : Expr} {gs : List Comprehension} {b : Scope} {pos : Pos} {env : Env} {Q E : Value → Shared → Prop} {s : Shared} (k : StopC (wpC M A (eval (.ListComp e gs b pos) env) Q E s)) : wpC M A (eval (.ListComp e gs b pos) env) Q E s := k
theorem rend {g h' : Heap} {L' : Addr} {m' : Str → Option Value} {led led' tups : List (Addr × Obj)} {tk' : Nat} {mk : Int → Tok → Obj} {zs : List PairV} {R : Int → Prop} {p' : Int} {tp' : Tok} {a P : Addr} (hret : RPost s ad mk R Q zs) (hg : Hid s.heap led g) (hN : Has h₀ s.heap led) (F' : Fr g L' h' m') (N' : News g L' h' led') (hR : R p') (hs : ∀ q ∈ led, q.1 ≠ ad → q ∈ led') (hm : (ad, mk p' tp') ∈ led')
    (ha : (a, { cls := .type "tuple", data := .seq #[Value.ref P] }) ∈ led') (hP : (P, { cls := .type "tuple", data := .seq (tups.map fun q : Addr × Obj => Value.ref q.1).toArray }) ∈ led') (ht : ∀ q ∈ tups, q ∈ led') (hz : TupsAre tups zs) : Q (.ref a) { s with heap := h', toks := tk' } :=
  hret p' tp' a P h' tk' hR (kept_but hg F' N' hN hs) (N' _ hm).1 ⟨_, (N' _ ha).1, rfl, _, rfl⟩ ⟨tups, ⟨_, (N' _ hP).1, rfl, _, rfl⟩, fun q hq => (N' q (ht q hq)).1, hz⟩
end
local macro_rules | `(tactic| walk_at "mine cc") => `(tactic| (with_reducible refine Mine.stop406 ?_))
local macro_rules | `(tactic| walk_at "mine upd") => `(tactic| (intro p' tp'; refine' Upd.tail ?uA (Upd.tail ?uB (Upd.head ?uC)); (case uA => assumption); (case uB => assumption); (case uC => assumption)))
section
variable {w : World} {pv : Program} {loose : List Str} {mean : ExcName → Option Value} {mg mb : Str → Option Value} {h₀ : Heap} {A : Around} {s : Shared} {Q E : Value → Shared → Prop}
    {aw ad : Addr} {H1 H2 : Int} {k1 k2 : Tok} {D : Array UInt8} {td : Tok} {p : Int} {tp : Tok} {l l₂ : List UInt8}
set_option maxHeartbeats 8000000 in
theorem read_id_c (X : (hd.heap_1 w.params).In h₀) (T : Top pv loose mean mg mb h₀) (keep : h₀.StaysIn s.heap) (hA : Low A 8)
    (hw : Has h₀ s.heap (wLed aw ad H1 H2 k1 k2 D td p tp)) {r : List UInt8} {es : List (List UInt8 × PairV)} (hat : At D p (32 :: 40 :: (pbody [] es ++ 41 :: r))) (hsz : D.size ≤ 100000) (hes : ∀ e ∈ es, Pair1 e.1 e.2) (hlen : es.length ≤ 1000)
    (hret : RPost s ad (wOb H1 H2 k1 k2 D td) (fun p' => At D p' r) Q (es.map (·.2))) :
    wpC (model PySem.Challenge.rw_pq0944_01.row.prog w) A (call (.ref 413) [.ref aw]) Q E s := by
  obtain ⟨ah, ad', af, ag, au⟩ := A
  obtain rfl : ah = none := hA.1
  have hne : @Ne Nat aw ad := hw.wne
  k_dflt (refine' enterC0 (binds := [(Str.ofString "wire", .ref aw)]) hA X T keep hw ?k6 ?k7 ?k9 ?kB ?_ ?c2 ?c3 ?c4 ?c5)
  walk_at "mine sides"
  intro g' L' h' KG' F' N' X' T' A'
  clear X T keep hA
  have hsz' : D.size ≤ 1000000 := by omega
  have hat0 : At D p (32 :: ((#[40] : Array UInt8).toList ++ (pbody [] es ++ 41 :: r))) := hat
  clear hat
  walk_at "mine go"
  rename_i p1 tp1 tv1 ha tk1 hat1 f hb l1 hc F1 N1
  have hf1 : @Ne Nat f aw := by omega
  have hf2 : @Ne Nat f ad := by omega
  refine c_while_w (E' := NoE) (σ := Int × Tok × Nat × List (Addr × Obj) × List (List UInt8 × PairV) × List (List UInt8 × PairV)) (fun c => es = c.2.2.2.2.1 ++ c.2.2.2.2.2 ∧ (∃ lead, ((c.2.2.2.1 = [] ∧ lead = []) ∨ (0 < c.2.2.2.1.length ∧ lead = [32])) ∧ At D c.1 (pbody lead c.2.2.2.2.2 ++ 41 :: r)) ∧ TupsAre c.2.2.2.1 (c.2.2.2.2.1.map (·.2)) ∧ (∀ q ∈ c.2.2.2.1, q.1 ≠ ad) ∧ (∀ q ∈ c.2.2.2.1, q.1 ≠ f))
    (fun c => (f, listOf (c.2.2.2.1.map fun q : Addr × Obj => Value.ref q.1).toArray c.2.2.1) :: (aw, instObj 355 ad) :: (ad, wOb H1 H2 k1 k2 D td c.1 c.2.1) :: c.2.2.2.1) (fun c => c.2.2.2.2.2.length) (p1, tp1, 0, [], [], es) (fun _ _ x => x.elim) F1 N1 ⟨rfl, ⟨[], .inl ⟨rfl, rfl⟩, hat1⟩, .nil, (fun _ hq => nomatch hq), (fun _ hq => nomatch hq)⟩ ?_
  rintro ⟨p2, tp2, n, tups, done, todo⟩ h2 tk2 ⟨e1, ⟨lead, hlead, hat2⟩, hT, ht1, ht2⟩ F2 N2
  dsimp only at e1 hlead hat2 hT ht1 ht2 N2 ⊢
  clear F1 N1 hat1 hat0
  have hn : tups.length ≤ 1000 := by
    have := hT.length
    rw [List.length_map] at this
    rw [e1, List.length_append] at hlen
    omega
  cases todo with
  | nil =>
    rw [List.append_nil] at e1
    subst e1
    replace hat2 : At D p2 ((#[41] : Array UInt8).toList ++ r) := hat2
    walk_at "mine go"
    (try dsimp only)
    (try k_unfold)
    (try dsimp only)
    refine' rend hret KG' hw (by assumption) (by assumption) ?hR ?hs ?hm ?ha ?hP ?ht hT
    case hm => k_mem
    case ha => k_mem
    case hP => k_mem
    case hR => assumption
    case ht => exact fun q hq => .tail _ (.tail _ (.tail _ (.tail _ (.tail _ hq))))
    case hs => (repeat' (first | exact List.forall_mem_nil _ | refine' List.forall_mem_cons.mpr (And.intro ?_ ?_) | exact (fun hn => absurd rfl hn) | exact (fun _ => by k_mem)))
  | cons e todo =>
    obtain ⟨t, z⟩ := e
    have hp := hes (t, z) (by rw [e1]; simp)
    obtain ⟨c, t', et, hc41⟩ := hp.head
    have hno : ((List.take (#[41] : Array UInt8).size (pbody lead ((t, z) :: todo) ++ 41 :: r)).toArray.toList != (#[41] : Array UInt8).toList) = true := by
      rcases hlead with ⟨_, rfl⟩ | ⟨_, rfl⟩
      · dsimp only at et
        subst et
        exact not_close hc41
      · exact not_close (by decide)
    obtain ⟨tk, tw, et', hx, hy⟩ := hp
    dsimp only at et' hx hy
    have e2 : pbody lead ((t, z) :: todo) ++ 41 :: r = lead ++ (tk ++ (32 :: (tw ++ (pbody [32] todo ++ 41 :: r)))) := by
      subst et'
      simp [pbody]
    rw [e2] at hat2 hno
    walk_at "mine go"
    refine goC ?_
    refine' c_pair_r (by assumption) (by assumption) hne hf1 ht1 ht2 (pair_here_c (z := z) (by assumption) (by assumption) ?kS ?kL ?kH hat2 hsz ?kE ?kI hx hy pbody_atom) ?_
    case kS => exact Fr.keep (by assumption)
    case kL => walk_at "mine low"
    case kH => walk_at "mine has"
    case kI => simpa using hn
    case kE =>
      rcases hlead with ⟨h1, h2⟩ | ⟨h1, h2⟩
      · exact .inl ⟨by rw [h1]; rfl, h2⟩
      · exact .inr ⟨by simpa using h1, h2⟩
    · intro p4 tp4 T4 u1 u2 h4 tk4 hat4 F4 N4 hTd hTf
      walk_at "mine go"
      dsimp only
      have eL : (tups.map fun q : Addr × Obj => Value.ref q.1).toArray.push (Value.ref T4) = ((tups ++ [(T4, tupO z u1 u2)]).map fun q : Addr × Obj => Value.ref q.1).toArray := by simp
      rw [eL] at N4
      refine' turned (c' := (p4, tp4, n + 1, tups ++ [(T4, tupO z u1 u2)], done ++ [(t, z)], todo)) F4 N4 (fun q hq => hq) ⟨by rw [e1]; simp, ⟨[32], .inr ⟨?hI1, rfl⟩, hat4⟩, ?hI2, ?hI3, ?hI4⟩ (Nat.lt_succ_self _)
      case hI1 => simp
      case hI2 => rw [List.map_append]; exact hT.snoc
      case hI3 =>
        intro q hq
        rcases List.mem_append.mp hq with hq | hq
        · exact ht1 q hq
        · rcases List.mem_singleton.mp hq with rfl
          exact hTd
      case hI4 =>
        intro q hq
        rcases List.mem_append.mp hq with hq | hq
        · exact ht2 q hq
        · rcases List.mem_singleton.mp hq with rfl
          exact hTf
end
-- p18
section
variable {w : World} {pv : Program} {loose : List Str} {mean : ExcName → Option Value} {mg mb : Str → Option Value} {h₀ : Heap} {A : Around} {s : Shared} {Q E : Value → Shared → Prop}
    {aw ad : Addr} {H1 H2 : Int} {k1 k2 : Tok} {D : Array UInt8} {td : Tok} {p : Int} {tp : Tok} {l l₂ : List UInt8}
noncomputable abbrev RPost0 (s : Shared) (ad : Addr) (mk : Int → Tok → Obj) (R : Int → Prop) (Q : Value → Shared → Prop) : Prop := ∀ p' tp' a h' tk', R p' → Kept ad s.heap h' → h'.get? ad = some (mk p' tp') → h'.IsTuple a #[Value.none] → Q (.ref a) { s with heap := h', toks := tk' }
theorem rend0 {g h' : Heap} {L' : Addr} {m' : Str → Option Value} {led led' : List (Addr × Obj)} {tk' : Nat} {mk : Int → Tok → Obj} {R : Int → Prop} {p' : Int} {tp' : Tok} {a : Addr} (hret : RPost0 s ad mk R Q) (hg : Hid s.heap led g) (hN : Has h₀ s.heap led) (F' : Fr g L' h' m') (N' : News g L' h' led') (hR : R p') (hs : ∀ q ∈ led, q.1 ≠ ad → q ∈ led') (hm : (ad, mk p' tp') ∈ led')
    (ha : (a, { cls := .type "tuple", data := .seq #[Value.none] }) ∈ led') : Q (.ref a) { s with heap := h', toks := tk' } :=
  hret p' tp' a h' tk' hR (kept_but hg F' N' hN hs) (N' _ hm).1 ⟨_, (N' _ ha).1, rfl, _, rfl⟩
theorem nstring_none_c (X : (hd.heap_1 w.params).In h₀) (T : Top pv loose mean mg mb h₀) (keep : h₀.StaysIn s.heap) (hA : Low A 6)
    (hw : Has h₀ s.heap (wLed aw ad H1 H2 k1 k2 D td p tp)) {t r : List UInt8} (hat : At D p (t ++ r)) (hsz : D.size ≤ 100000) (hx : StrN t none) (hr : ∀ c r', r = c :: r' → isAtom c = false)
    (hret : WPost s ad (wOb H1 H2 k1 k2 D td) (fun p' => At D p' r) Q fun _ => .none) :
    wpC (model PySem.Challenge.rw_pq0944_01.row.prog w) A (call (.ref 332) [.ref aw]) Q E s := nstring_c (ov := none) X T keep hA hw hat hsz hx hr hret
end
local macro_rules | `(tactic| walk_at "mine cc") => `(tactic| (focus (with_reducible apply Mine.nstring_none_c); walk_at "mine q"))
section
variable {w : World} {pv : Program} {loose : List Str} {mean : ExcName → Option Value} {mg mb : Str → Option Value} {h₀ : Heap} {A : Around} {s : Shared} {Q E : Value → Shared → Prop}
    {aw ad : Addr} {H1 H2 : Int} {k1 k2 : Tok} {D : Array UInt8} {td : Tok} {p : Int} {tp : Tok} {l l₂ : List UInt8}
set_option maxHeartbeats 8000000 in
theorem read_id_none_c (X : (hd.heap_1 w.params).In h₀) (T : Top pv loose mean mg mb h₀) (keep : h₀.StaysIn s.heap) (hA : Low A 8)
    (hw : Has h₀ s.heap (wLed aw ad H1 H2 k1 k2 D td p tp)) {t r : List UInt8} (hat : At D p (32 :: (t ++ r))) (hsz : D.size ≤ 100000) (hx : StrN t none) (hr : ∀ c r', r = c :: r' → isAtom c = false)
    (hret : RPost0 s ad (wOb H1 H2 k1 k2 D td) (fun p' => At D p' r) Q) :
    wpC (model PySem.Challenge.rw_pq0944_01.row.prog w) A (call (.ref 413) [.ref aw]) Q E s := by
  obtain ⟨ah, ad', af, ag, au⟩ := A
  obtain rfl : ah = none := hA.1
  have hne : @Ne Nat aw ad := hw.wne
  k_dflt (refine' enterC0 (binds := [(Str.ofString "wire", .ref aw)]) hA X T keep hw ?k6 ?k7 ?k9 ?kB ?_ ?c2 ?c3 ?c4 ?c5)
  walk_at "mine sides"
  intro g' L' h' KG' F' N' X' T' A'
  clear X T keep hA
  have hsz' : D.size ≤ 1000000 := by omega
  have hno : ((List.take (#[40] : Array UInt8).size (t ++ r)).toArray.toList != (#[40] : Array UInt8).toList) = true := by
    rcases hx with rfl | rfl <;> simp
  walk_at "mine go"
  (try dsimp only)
  (try k_unfold)
  (try dsimp only)
  refine' rend0 hret KG' hw (by assumption) (by assumption) ?hR ?hs ?hm ?ha
  case hm => k_mem
  case ha => k_mem
  case hR => assumption
  case hs => (repeat' (first | exact List.forall_mem_nil _ | refine' List.forall_mem_cons.mpr (And.intro ?_ ?_) | exact (fun hn => absurd rfl hn) | exact (fun _ => by k_mem)))
end
-- p19
section
open PySem.SeqAt
theorem EqAt_bytes {A : Around} {s : Shared} (b : Array UInt8) (t u : Tok) : EqAt A s (.bytes b t) (.bytes b u) true := fun prog w E Q h => by
  unfold eqBool
  refine wpAny_holding ?_
  refine wpAny_ite_split (fun _ => wpAny_bind (wpAny_rule (wpAny_pure h))) (fun _ => ?_)
  refine wpAny_bind ?_
  refine eq_bytes ?_
  exact wpAny_truthy_bool (by simpa using h)
theorem EqAt_nval {A : Around} {s : Shared} (o : Option (List UInt8)) (t u : Tok) : EqAt A s (nval o t) (nval o u) true := by
  cases o with
  | none => exact EqAt.same _
  | some v => exact EqAt_bytes _ _ _
theorem all_true {n m : Nat} (h : n = m) : ((List.range (min n m)).all (fun _ => true) && n == m) = true := by
  subst h
  simp
theorem RcAt_tup {A : Around} {s : Shared} {x y : Addr} {z : PairV} {u1 u2 u3 u4 : Tok} (hx : s.heap.get? x = some (tupO z u1 u2)) (hy : s.heap.get? y = some (tupO z u3 u4)) (hu : A.units + 1 < cLine) : RcAt A s (.ref x) (.ref y) true := by
  have := RcAt.tuples (e := fun _ => true) (A := A) (s := s) (l := x) (b := y) (items := #[.bytes z.1.toArray u1, nval z.2 u2]) (items2 := #[.bytes z.1.toArray u3, nval z.2 u4]) ⟨_, hx, rfl, _, rfl⟩ ⟨_, hy, rfl, _, rfl⟩ (by omega) (fun j h1 h2 => by
    match j, h1, h2 with
    | 0, _, _ => exact EqAt_bytes _ _ _
    | 1, _, _ => exact EqAt_nval _ _ _
    | j + 2, h1, _ => exact absurd h1 (by simp))
  exact this
theorem EqAt_tup {A : Around} {s : Shared} {x y : Addr} {z : PairV} {u1 u2 u3 u4 : Tok} (hx : s.heap.get? x = some (tupO z u1 u2)) (hy : s.heap.get? y = some (tupO z u3 u4)) (hu : A.units + 1 < cLine) : EqAt A s (.ref x) (.ref y) true := by
  by_cases e : x = y
  · subst e; exact EqAt.same _
  · exact EqAt.of_refs e (RcAt_tup hx hy hu)
theorem TupsAre.get {tups : List (Addr × Obj)} {zs : List PairV} (h : TupsAre tups zs) (j : Nat) (hj : j < tups.length) (hz : j < zs.length) : ∃ u1 u2, (tups[j]).2 = tupO zs[j] u1 u2 := by
  induction h generalizing j with
  | nil => exact absurd hj (Nat.not_lt_zero _)
  | cons h _ ih =>
    cases j with
    | zero => exact h
    | succ j => exact ih j (by simpa using hj) (by simpa using hz)
theorem EqAt_pairs {A : Around} {s : Shared} {P P' : Addr} {zs : List PairV} (hP : PairsAt s.heap P zs) (hP' : PairsAt s.heap P' zs) (hu : A.units + 2 < cLine) : EqAt A s (.ref P) (.ref P') true := by
  by_cases e : P = P'
  · subst e; exact EqAt.same _
  · refine EqAt.of_refs e ?_
    obtain ⟨tups, hT, hg, hz⟩ := hP
    obtain ⟨tups', hT', hg', hz'⟩ := hP'
    have l1 := hz.length
    have l2 := hz'.length
    have := RcAt.tuples (e := fun _ => true) (A := A) (s := s) hT hT' (by omega) (fun j h1 h2 => by
      simp only [List.size_toArray, List.length_map] at h1 h2
      obtain ⟨u1, u2, e1⟩ := hz.get j h1 (by omega)
      obtain ⟨u3, u4, e2⟩ := hz'.get j h2 (by omega)
      have g1 := hg _ (List.getElem_mem h1)
      have g2 := hg' _ (List.getElem_mem h2)
      rw [e1] at g1
      rw [e2] at g2
      simp only [List.getElem_toArray, List.getElem_map]
      exact EqAt_tup g1 g2 (by show A.units + 1 + 1 < cLine; omega))
    rwa [all_true (by simp; omega)] at this
theorem eq_pairs {prog : Program} {w : World} {A : Around} {E : Value → Shared → Prop} {s : Shared} {a a' P P' : Addr} {zs : List PairV} {Q : Value → Shared → Prop} (ha : s.heap.IsTuple a #[Value.ref P]) (ha' : s.heap.IsTuple a' #[Value.ref P']) (hP : PairsAt s.heap P zs) (hP' : PairsAt s.heap P' zs) (hu : A.units + 3 < cLine)
    (h : Q (.bool true) s) : wpAny (model prog w) A (compareOp .Eq (.ref a) (.ref a')) Q E s :=
  eq_tupleAt (e := fun _ => true) ha ha' (by omega) (fun j h1 h2 => by
    match j, h1, h2 with
    | 0, _, _ => exact EqAt_pairs hP hP' (by show A.units + 1 + 2 < cLine; omega)
    | j + 1, h1, _ => exact absurd h1 (by simp)) h
theorem eq_none {prog : Program} {w : World} {A : Around} {E : Value → Shared → Prop} {s : Shared} {a a' : Addr} {Q : Value → Shared → Prop} (ha : s.heap.IsTuple a #[Value.none]) (ha' : s.heap.IsTuple a' #[Value.none]) (hu : A.units + 3 < cLine)
    (h : Q (.bool true) s) : wpAny (model prog w) A (compareOp .Eq (.ref a) (.ref a')) Q E s :=
  eq_tupleAt (e := fun _ => true) ha ha' (by omega) (fun j h1 h2 => by
    match j, h1, h2 with
    | 0, _, _ => exact EqAt.same _
    | j + 1, h1, _ => exact absurd h1 (by simp)) h
end
-- p20
section
variable {w : World} {pv : Program} {loose : List Str} {mean : ExcName → Option Value} {mg mb : Str → Option Value} {h₀ : Heap} {A : Around} {s : Shared} {Q E : Value → Shared → Prop} {L : Addr} {m : Str → Option Value}
set_option maxHeartbeats 8000000 in
theorem wire_c (F : Fr h₀ L s.heap m) (N : News h₀ L s.heap []) (X : (hd.heap_1 w.params).In h₀) (T : Top pv loose mean mg mb h₀) (hA : Low A 3) {D : Array UInt8} {td : Tok}
    (hret : ∀ x dx H1 H2 k1 k2 tp h' tk', Fr h₀ L h' m → News h₀ L h' [(x, instObj 355 dx), (dx, wOb H1 H2 k1 k2 D td 0 tp)] → @LT.lt Nat _ dx x → Q (.ref x) { s with heap := h', toks := tk' }) :
    wpAny (model PySem.Challenge.rw_pq0944_01.row.prog w) A (call (.ref 355) [.bytes D td]) Q E s := by
  obtain ⟨ah, ad', af, ag, au⟩ := A
  obtain rfl : ah = none := hA.1
  k_dflt (refine' call_cls F X N ?k4 ?k5 ?k6 ?_; (case k4 => k_is); (case k5 => k_is); (case k6 => k_is))
  intro x dx h1 F1 N1 l1 l2
  have hne : @Ne Nat x dx := Nat.ne_of_gt l2
  have keep1 : h₀.StaysIn h1 := F1.keep
  k_dflt (refine' enter (binds := [(Str.ofString "self", .ref x), (Str.ofString "data", .bytes D td), (Str.ofString "at", .int 0 413)]) (led := [(x, instObj 355 dx), (dx, dictOf [] 0)]) X T F1.keep (fun q hq => ⟨(N1 q hq).1, (N1 q hq).2.2⟩) ?k6 ?k7 ?kR ?k9 ?kB ?_ ?c2 ?c3 ?c4 ?c5)
  walk_at "mine sides d"
  rotate_left
  case kR => have := hA.2.1; rw [rl]; simp only [depth_under_make]; dsimp only at this ⊢; omega
  intro g' L' h' KG' KS' F' N' X' T'
  refine wpAny_mono (E := fun _ _ => False) ?_ (fun _ _ q => q) (fun _ _ q => q.elim)
  have back : ∀ h' (o2 : Obj), g'.StaysIn h' → h'.get? x = some (instObj 355 dx) → h'.get? dx = some o2 → Fr h₀ L h' m ∧ News h₀ L h' [(x, instObj 355 dx), (dx, o2)] := by
    intro h' o2 st e1 e2
    have Nx := N1 _ (.head _)
    have Nd := N1 _ (.tail _ (.head _))
    have hk : ∀ b o, h1.get? b = some o → b ≠ x → b ≠ dx → h'.get? b = some o := fun b o e n1 n2 => st b o (KG' b o e (by simp [n1, n2]))
    obtain ⟨oL, es, ep, hL, r⟩ := F1.ns
    refine ⟨⟨⟨oL, es, ep, hk _ _ hL (Ne.symm Nx.2.1) (Ne.symm Nd.2.1), r⟩, fun b o q => hk _ _ (F1.keep b o q) (fun z => ?_) fun z => ?_, F1.above⟩, fun q hq => ?_⟩
    · have := Nx.2.2; rw [← z, q] at this; cases this
    · have := Nd.2.2; rw [← z, q] at this; cases this
    · rcases List.mem_cons.mp hq with rfl | hq
      · exact ⟨e1, Nx.2⟩
      · rcases List.mem_singleton.mp hq with rfl
        exact ⟨e2, Nd.2⟩
  clear X T F N F1 N1
  (try k_fold)
  k_steps
  rename_i F2 N2
  refine ⟨rfl, ?_⟩
  have b2 := back _ _ F2.keep (N2 _ (.head _)).1 (N2 _ (.tail _ (.head _))).1
  exact hret x dx _ _ _ _ _ _ _ b2.1 b2.2 l2
end
-- p21
theorem Low.cunits {A : Around} {n : Nat} (h : Low A n) : A.units + 3 < cLine := by
  have := h.2.2
  show A.units + 3 < 9900
  omega
theorem at_zero {D : Array UInt8} {l : List UInt8} (h : D.toList = l) : At D 0 l := by
  refine ⟨by decide, ?_, Nat.zero_le _⟩
  simpa using h
theorem at_end {O : Array UInt8} {p : Int} (h : At (O ++ #[32, 120]) p [32, 120]) : (p == (O.size : Int)) = true := by
  have h1 := h.size
  have h2 := h.1
  simp only [Array.size_append, List.size_toArray, List.length_cons, List.length_nil] at h1
  rw [beq_iff_eq]
  omega
theorem PairsAt_keeps {g h : Heap} {P : Addr} {zs : List PairV} (x : PairsAt g P zs) (k : g.StaysIn h) : PairsAt h P zs :=
  let ⟨tups, a, b, c⟩ := x; ⟨tups, IsTuple_keeps a k, fun q hq => k _ _ (b q hq), c⟩
section
variable {M : Model} {A : Around} {t : Sem Value} {Q E : Value → Shared → Prop} {s : Shared} {g : Heap} {L ad f aw : Addr} {m : Str → Option Value} {led : List (Addr × Obj)} {o : Obj}
theorem rpost_r {mk : Int → Tok → Obj} {R : Int → Prop} {zs : List PairV} {led' : Int → Tok → List (Addr × Obj)} (F : Fr g L s.heap m) (N : News g L s.heap led) (U : ∀ p' tp', Upd ad o (mk p' tp') led (led' p' tp'))
    (k : ∀ p' tp' a P h' tk', R p' → Fr g L h' m → News g L h' (led' p' tp') → h'.IsTuple a #[Value.ref P] → PairsAt h' P zs → Q (.ref a) { s with heap := h', toks := tk' }) : RPost s ad mk R Q zs :=
  fun p' tp' a P h' tk' hR hk ho => k p' tp' a P h' tk' hR (upd_news F N (U p' tp') hk ho).1 (upd_news F N (U p' tp') hk ho).2
theorem rpost0_r {mk : Int → Tok → Obj} {R : Int → Prop} {led' : Int → Tok → List (Addr × Obj)} (F : Fr g L s.heap m) (N : News g L s.heap led) (U : ∀ p' tp', Upd ad o (mk p' tp') led (led' p' tp'))
    (k : ∀ p' tp' a h' tk', R p' → Fr g L h' m → News g L h' (led' p' tp') → h'.IsTuple a #[Value.none] → Q (.ref a) { s with heap := h', toks := tk' }) : RPost0 s ad mk R Q :=
  fun p' tp' a h' tk' hR hk ho => k p' tp' a h' tk' hR (upd_news F N (U p' tp') hk ho).1 (upd_news F N (U p' tp') hk ho).2
end
section
variable {w : World} {pv : Program} {loose : List Str} {mean : ExcName → Option Value} {mg mb : Str → Option Value} {h₀ : Heap} {A : Around} {s : Shared} {Q E : Value → Shared → Prop}
end
local macro_rules | `(tactic| walk_at "call ref") => `(tactic| (focus (with_reducible apply Mine.wire_c); walk_at "mine x"; intro _ _ _ _ _ _ _ _ _ _ _ _))
local macro_rules | `(tactic| walk_at "mine cc") => `(tactic| (focus (with_reducible apply Mine.read_id_c); walk_at "mine x"; with_unfolding_all (refine' Mine.rpost_r (by assumption) (by assumption) ?kU ?_; (case kU => (intro _ _; k_upd))); intro _ _ _ _ _ _ _ _ _ _ _))
local macro_rules | `(tactic| walk_at "compareOp Eq ref ref") => `(tactic| (k_here; k_dflt (refine Mine.eq_pairs (by assumption) (Mine.IsTuple_keeps (by assumption) (Fr.keep (by assumption))) (by assumption) (Mine.PairsAt_keeps (by assumption) (Fr.keep (by assumption))) (Mine.Low.cunits (by assumption)) ?_)))
section
variable {w : World} {pv : Program} {loose : List Str} {mean : ExcName → Option Value} {mg mb : Str → Option Value} {h₀ : Heap} {A : Around} {s : Shared} {Q E : Value → Shared → Prop}
set_option maxHeartbeats 8000000 in
theorem stands_c (X : (hd.heap_1 w.params).In h₀) (T : Top pv loose mean mg mb h₀) (keep : h₀.StaysIn s.heap) (hA : Low A 9)
    {O : Array UInt8} {to : Tok} {es : List (List UInt8 × PairV)} {a0 P0 : Addr} (hO : O.toList = 32 :: 40 :: (pbody [] es ++ [41])) (hOz : O.size ≤ 50000) (hes : ∀ e ∈ es, Pair1 e.1 e.2) (hlen : es.length ≤ 1000)
    (ha0 : s.heap.IsTuple a0 #[Value.ref P0]) (hP0 : PairsAt s.heap P0 (es.map (·.2)))
    (hret : PPost s Q fun _ => .bool true) :
    wpC (model PySem.Challenge.rw_pq0944_01.row.prog w) A (call (.ref 420) [.bytes O to, .ref a0]) Q E s := by
  obtain ⟨ah, ad', af, ag, au⟩ := A
  obtain rfl : ah = none := hA.1
  have hw : Has h₀ s.heap [] := fun q hq => nomatch hq
  k_dflt (refine' enterC0 (binds := [(Str.ofString "octets", .bytes O to), (Str.ofString "args", .ref a0)]) hA X T keep hw ?k6 ?k7 ?k9 ?kB ?_ ?c2 ?c3 ?c4 ?c5)
  walk_at "mine sides"
  intro g' L' h' KG' F' N' X' T' A'
  clear X T keep hA
  have KG : s.heap.StaysIn g' := fun b o e => KG' b o e (by simp)
  replace ha0 := IsTuple_keeps ha0 KG
  replace hP0 := PairsAt_keeps hP0 KG
  have hat : At (O ++ #[32, 120]) 0 (32 :: 40 :: (pbody [] es ++ 41 :: [32, 120])) := at_zero (by rw [Array.toList_append, hO]; simp)
  have hsz : (O ++ #[32, 120]).size ≤ 100000 := by
    simp only [Array.size_append, List.size_toArray, List.length_cons, List.length_nil]; omega
  walk_at "mine go"
  rename At _ _ [32, 120] => hz
  rw [at_end hz]
  walk_at "mine pend"
end
local macro_rules | `(tactic| walk_at "mine cc") => `(tactic| (focus (with_reducible apply Mine.read_id_none_c); walk_at "mine x"; with_unfolding_all (refine' Mine.rpost0_r (by assumption) (by assumption) ?kU ?_; (case kU => (intro _ _; k_upd))); intro _ _ _ _ _ _ _ _ _))
local macro_rules | `(tactic| walk_at "compareOp Eq ref ref") => `(tactic| (k_here; k_dflt (refine Mine.eq_none (by assumption) (Mine.IsTuple_keeps (by assumption) (Fr.keep (by assumption))) (Mine.Low.cunits (by assumption)) ?_)))
section
variable {w : World} {pv : Program} {loose : List Str} {mean : ExcName → Option Value} {mg mb : Str → Option Value} {h₀ : Heap} {A : Around} {s : Shared} {Q E : Value → Shared → Prop}
set_option maxHeartbeats 8000000 in
theorem stands_none_c (X : (hd.heap_1 w.params).In h₀) (T : Top pv loose mean mg mb h₀) (keep : h₀.StaysIn s.heap) (hA : Low A 9)
    {O : Array UInt8} {to : Tok} {a0 : Addr} {t : List UInt8} (hO : O.toList = 32 :: t) (hx : StrN t none)
    (ha0 : s.heap.IsTuple a0 #[Value.none])
    (hret : PPost s Q fun _ => .bool true) :
    wpC (model PySem.Challenge.rw_pq0944_01.row.prog w) A (call (.ref 420) [.bytes O to, .ref a0]) Q E s := by
  obtain ⟨ah, ad', af, ag, au⟩ := A
  obtain rfl : ah = none := hA.1
  have hw : Has h₀ s.heap [] := fun q hq => nomatch hq
  have hOz : O.size = 4 := by
    rw [← Array.length_toList, hO]
    rcases hx with rfl | rfl <;> rfl
  k_dflt (refine' enterC0 (binds := [(Str.ofString "octets", .bytes O to), (Str.ofString "args", .ref a0)]) hA X T keep hw ?k6 ?k7 ?k9 ?kB ?_ ?c2 ?c3 ?c4 ?c5)
  walk_at "mine sides"
  intro g' L' h' KG' F' N' X' T' A'
  clear X T keep hA
  have KG : s.heap.StaysIn g' := fun b o e => KG' b o e (by simp)
  replace ha0 := IsTuple_keeps ha0 KG
  have hat : At (O ++ #[32, 120]) 0 (32 :: (t ++ [32, 120])) := at_zero (by rw [Array.toList_append, hO]; simp)
  have hsz : (O ++ #[32, 120]).size ≤ 100000 := by
    simp only [Array.size_append, List.size_toArray, List.length_cons, List.length_nil]; omega
  have hr : ∀ c r', ([32, 120] : List UInt8) = c :: r' → isAtom c = false := by
    rintro c r' e
    cases e
    decide +kernel
  walk_at "mine go"
  rename At _ _ [32, 120] => hz
  rw [at_end hz]
  walk_at "mine pend"
end
-- p22
section
variable {w : World} {pv : Program} {loose : List Str} {mean : ExcName → Option Value} {mg mb : Str → Option Value} {h₀ : Heap} {A : Around} {s : Shared} {Q E : Value → Shared → Prop} {L : Addr} {m : Str → Option Value}
theorem xm_71 {M : Model} {h : Heap} (X : (hd.heap_1 w.params).In h) : XMakes M h 71 := by
  refine' xmakes_of X ?a ?b ?c ?d ?e ?f ?g ?i
  case a => k_is
  case b => rfl
  all_goals k_is
theorem x_init_r {prog : Program} {C e t : Addr} {rest : List Value} {led : List (Addr × Obj)} {g : Heap} {Q : Value → Shared → Prop} (Y : XMakes (model prog w) s.heap C) (F : Fr g L s.heap m) (N : News g L s.heap ((e, newExcObj C t) :: led)) (hne : ∀ q ∈ led, q.1 ≠ e) (hrest : rest.length ≤ sizeLine)
    (h : ∀ h' t2, Fr g L h' m → News g L h' ((t2, tupleOb rest) :: (e, newExcObj C t2) :: led) → @LT.lt Nat _ e t2 → (∀ q ∈ led, @LT.lt Nat _ q.1 t2) → Q .none { s with heap := h' }) :
    wpAny (model prog w) A (call (.builtin "Exception.__init__") (.ref e :: rest)) Q E s := by
  obtain ⟨hh, gg, d, tk, os⟩ := s
  have Ne := N _ (.head _)
  refine x_init Y Ne.1 rfl rfl (Nat.succ_pos 5) hrest ?_
  have F1 := F.push (tupleOb rest)
  have N1 := N.push F (tupleOb rest)
  have hn := Heap.lt_size Ne.1
  have e1 := Heap.get?_update_self (Obj.mapFields (·.setIfInBounds 0 (Value.ref hh.objs.size))) (Heap.get?_push_of_some (tupleOb rest) Ne.1) rfl
  have hs : Heap.SameBut e (hh.push (tupleOb rest)) ((hh.push (tupleOb rest)).update e (Obj.mapFields (·.setIfInBounds 0 (Value.ref hh.objs.size)))) := Heap.SameBut.update _ _ _
  have N2 := news_set (pre := [(hh.objs.size, tupleOb rest)]) (post := led) (D := e) N1 (fun q hq => by rcases List.mem_singleton.mp hq with rfl; exact Nat.ne_of_gt hn) hne hs e1
  exact h _ hh.objs.size (F1.change hs Ne.2.1 Ne.2.2) N2 hn fun q hq => Heap.lt_size (N q (.tail _ hq)).1
/-- an exception under way to be made: an object with attributes `mA`, new beside `g` -/
noncomputable def XAt (g : Heap) (L : Addr) (h : Heap) (e C : Addr) (vs : Array Value) (mA : Str → Option Value) (k : Nat) : Prop :=
  ∃ o ns, h.get? e = some o ∧ o.cls = .ref C ∧ o.data = .fields vs ∧ e ≠ L ∧ g.get? e = none ∧ (∀ dx, o.dict = some dx → dx ≠ L ∧ g.get? dx = none) ∧ h.Inst e C mA ∧ Within mA ns ∧ ns.length ≤ k
theorem xs_step {prog : Program} {g : Heap} {e C : Addr} {vs : Array Value} {mA : Str → Option Value} {l : List Value} {cd : ClassData} {name : Str} {v : Value} {Q : Unit → Shared → Prop} (F : Fr g L s.heap m) {k : Nat} (I : XAt g L s.heap e C vs mA k) (hk100 : k ≤ 100)
    (Lm : Looks (model prog w) s.heap (mroOf (.ref C)) l) (hpass : ∀ self, refuseLoop self "__setattr__" l = pure ()) (Ln : Looks (model prog w) s.heap (typeLookup (.ref C) name) none)
    (Ls : Looks (model prog w) s.heap (typeLookup (.ref C) "__setattr__") (some (.builtin "object.__setattr__"))) (Lo : Looks (model prog w) s.heap (isSubtype (.ref C) (.type "object")) true)
    (Lc : Looks (model prog w) s.heap (classData C) cd) (hdict : cd.hasDict = true)
    (hq : ∀ h' tk', Fr g L h' m → (∃ mA', XAt g L h' e C vs mA' (k + 1)) → Q () { s with heap := h', toks := tk' }) : wpAny (model prog w) A (setAttr (.ref e) name v) Q E s := by
  obtain ⟨hh, gg, d, tk, os⟩ := s
  obtain ⟨o, ns, he, hc, hd, hL, hg, hdx, In, hw, hz⟩ := I
  refine xs_attr Lm hpass Ln Ls Lo Lc hdict In (fun h' tk' I' hk hsame => ?_) hw (by omega)
  obtain ⟨o₁, e1, e2, e3, _, _, e5⟩ := hsame o he
  have keep : ∀ b ob, b ≠ e → (∀ dx, o.dict = some dx → b ≠ dx) → hh.get? b = some ob → h'.get? b = some ob := fun b ob h1 h2 h3 =>
    hk b ob h1 (fun o₀ dx q1 q2 => by obtain rfl : o = o₀ := Option.some.inj (he.symm.trans q1); exact h2 dx q2) h3
  obtain ⟨oL, es, ep, hoL, r⟩ := F.ns
  refine hq h' tk' ⟨⟨oL, es, ep, keep _ _ (Ne.symm hL) (fun dx q => Ne.symm (hdx dx q).1) hoL, r⟩, fun b ob q => keep b ob (fun z => ?_) (fun dx q' z => ?_) (F.keep b ob q), F.above⟩
    ⟨_, o₁, name :: ns, e1, e2.trans hc, e3.trans hd, hL, hg, fun dx q => (e5 dx q).elim (hdx dx) fun hn => ⟨fun z => ?_, ?_⟩, I', Within.cons name v hw, Nat.succ_le_succ hz⟩
  · rw [z, hg] at q; cases q
  · rw [z, (hdx dx q').2] at q; cases q
  · rw [z, hoL] at hn; cases hn
  · cases q : g.get? dx with
    | none => rfl
    | some ob => have := F.keep _ _ q; rw [hn] at this; cases this
theorem x71_set {g : Heap} {e : Addr} {vs : Array Value} {mA : Str → Option Value} {name : Str} {v : Value} {k : Nat} {Q : Unit → Shared → Prop} (X : (hd.heap_1 w.params).In s.heap) (F : Fr g L s.heap m) (I : XAt g L s.heap e 71 vs mA k) (hk : k ≤ 100)
    (hname : findIn (hd.heap_1 w.params) (.ref 71) name = some none)
    (hq : ∀ h' tk', Fr g L h' m → (∃ mA', XAt g L h' e 71 vs mA' (k + 1)) → Q () { s with heap := h', toks := tk' }) : wpAny (model PySem.Challenge.rw_pq0944_01.row.prog w) A (setAttr (.ref e) name v) Q E s := by
  obtain ⟨cd, hc, hm, hdi⟩ : ∃ cd, clsIn (hd.heap_1 w.params) 71 = some cd ∧ cd.mro = [.ref 71, .ref 46, .type "Exception", .type "BaseException", .type "object"] ∧ cd.hasDict = true := ⟨_, by k_is, rfl, rfl⟩
  have hs : findIn (hd.heap_1 w.params) (.ref 71) "__setattr__" = some (some (.builtin "object.__setattr__")) := by k_is
  have ho : mroIn (hd.heap_1 w.params) 71 (.type "object") = some true := by k_is
  refine xs_step F I hk ((looks_clsIn X hc).andThen .now) (fun self => ?_) (looks_findIn X hname) (looks_findIn X hs) (looks_mroIn X ho) (looks_clsIn X hc) hdi hq
  rw [hm, refuseLoop_ref, refuseLoop_ref]
  exact PySem.F.store_Exception.passes self
end
local macro_rules | `(tactic| walk_at "setAttr ref") => `(tactic| (k_here; (rename XAt _ _ _ _ _ _ _ _ => xI'); k_dflt (refine' Mine.x71_set (Frag.In.keeps (by assumption) (Fr.keep (by assumption))) (by assumption) xI' (by decide) ?hn ?_; (case hn => k_is)); clear xI'; rintro h' tk' F' ⟨mA', xI'⟩))
local macro_rules | `(tactic| walk_at "getMethod type:Exception") => `(tactic| (k_here; refine' method_type ?F ?X ?m (by decide +kernel) ?e ?h ?_; (case F => k_asm); (case X => k_asm); (case m => kernel_rfl); (case e => k_dflt k_is); (case h => k_handed)))
local macro_rules | `(tactic| walk_at "call builtin:Exception.__init__") => `(tactic| (k_here; k_dflt (refine' Mine.x_init_r (Mine.xm_71 (Frag.In.keeps (by assumption) (Fr.keep (by assumption)))) (by assumption) (by assumption) ?hne (Nat.le_of_ble_eq_true rfl) ?_; (case hne => k_all)); intro h' t2 F' N' l1 l2; (try k_sweep)))
section
variable {w : World} {pv : Program} {loose : List Str} {mean : ExcName → Option Value} {mg mb : Str → Option Value} {h₀ : Heap} {A : Around} {s : Shared} {Q E : Value → Shared → Prop} {L : Addr} {m : Str → Option Value}
set_option maxHeartbeats 8000000 in
theorem wf_init (X : (hd.heap_1 w.params).In h₀) (T : Top pv loose mean mg mb h₀) (keep : h₀.StaysIn s.heap) (hA : Low A 3) {e t : Addr} {ps : List Value} {wh : Str} {ta tw : Tok} {at_ : Int} {R : Result → Shared → Prop}
    (hw : Has h₀ s.heap [(e, newExcObj 71 t), (t, tupleOb ps)]) (hlt : @LT.lt Nat _ t e)
    (h : ∀ h' tk', (∀ b o, s.heap.get? b = some o → b ≠ e → b ≠ t → h'.get? b = some o) → (∃ o t2, h'.get? e = some o ∧ o.cls = .ref 71 ∧ o.data = .fields #[.ref t2, .none, .none, .none, .bool false, .none]) → R (.ok (.ret .none)) { s with heap := h', toks := tk' }) :
    codeAny (model PySem.Challenge.rw_pq0944_01.row.prog w) A (.call (.ref 36) ⟨[.ref e, .str wh tw, .int at_ ta], []⟩) R s := by
  obtain ⟨ah, ad', af, ag, au⟩ := A
  obtain rfl : ah = none := hA.1
  have hne : @Ne Nat e t := Nat.ne_of_gt hlt
  k_dflt (refine' enter (binds := [(Str.ofString "self", .ref e), (Str.ofString "what", .str wh tw), (Str.ofString "at", .int at_ ta)]) X T keep hw ?k6 ?k7 ?kR ?k9 ?kB ?_ ?c2 ?c3 ?c4 ?c5)
  rotate_left
  case kR => have := hA.2.1; rw [rl]; dsimp only at this ⊢; omega
  walk_at "mine sides d"
  intro g' L' h' KG' KS' F' N' X' T'
  refine wpAny_mono (E := fun _ _ => False) ?_ (fun _ _ q => q) (fun _ _ q => q.elim)
  clear X T
  (try k_fold)
  k_steps
  rename_i h2 t2 F2 N2 l1 l2
  have xI : XAt g' L' h2 e 71 #[.ref t2, .none, .none, .none, .bool false, .none] (fun _ => none) 0 := by
    have P := N2 (e, newExcObj 71 t2) (.tail _ (.head _))
    exact ⟨_, [], P.1, rfl, rfl, P.2.1, P.2.2, (fun dx q => by cases q), ⟨_, P.1, rfl, (fun c q => by cases q), .inl ⟨rfl, fun _ => rfl⟩⟩, Within.nil, Nat.le_refl _⟩
  k_steps
  rename XAt _ _ _ _ _ _ _ _ => xF
  obtain ⟨o, ns, q1, q2, q3, _⟩ := xF
  rename Fr _ _ _ _ => FF
  refine h _ _ (fun b ob hb h1 h2 => FF.keep b ob (KG' b ob hb (by simp [h1, h2]))) ⟨o, t2, q1, q2, q3⟩
end
-- p23
section
variable {w : World} {pv : Program} {loose : List Str} {mean : ExcName → Option Value} {mg mb : Str → Option Value} {h₀ : Heap} {A : Around} {s : Shared} {Q E : Value → Shared → Prop} {L : Addr} {m : Str → Option Value}
theorem Low.made {A : Around} {n : Nat} {C : Addr} {vals : List Value} (h : Low A (n + 1)) : Low (A.under (.builtin "type.__call__" ⟨.ref C :: vals, []⟩)) n := by
  refine ⟨h.1, ?_, ?_⟩
  · rw [depth_under_make]; have := h.2.1; omega
  · have := h.2.2
    have e : (A.under (.builtin "type.__call__" ⟨.ref C :: vals, []⟩)).units = A.units + 1 := rfl
    rw [e]; omega
set_option maxHeartbeats 8000000 in
theorem wf_made {led : List (Addr × Obj)} (F : Fr h₀ L s.heap m) (N : News h₀ L s.heap led) (X : (hd.heap_1 w.params).In h₀) (T : Top pv loose mean mg mb h₀) (hA : Low A 4) {wh : Str} {tw ta : Tok} {at_ : Int}
    (hret : ∀ e t2 o h' tk', Fr h₀ L h' m → News h₀ L h' ((e, o) :: led) → o.cls = .ref 71 → o.data = .fields #[.ref t2, .none, .none, .none, .bool false, .none] → (∀ b o, s.heap.get? b = some o → h'.get? b = some o) → s.heap.get? e = none → Q (.ref e) { s with heap := h', toks := tk' }) :
    wpAny (model PySem.Challenge.rw_pq0944_01.row.prog w) A (call (.ref 71) [.str wh tw, .int at_ ta]) Q E s := by
  obtain ⟨hh, gg, d, tk, os⟩ := s
  have X1 : (hd.heap_1 w.params).In hh := X.keeps F.keep
  have hi : findIn (hd.heap_1 w.params) (.ref 71) "__init__" = some (some (.ref 36)) := by k_is
  have hf : typeIn (hd.heap_1 w.params) (.ref 36) = some (.type "function") := by k_is
  have k1 : ∀ b o, hh.get? b = some o → ((hh.push (tupleOb [.str wh tw, .int at_ ta])).push (newExcObj 71 hh.objs.size)).get? b = some o := fun b o e => Heap.get?_push_of_some _ (Heap.get?_push_of_some _ e)
  have kf : ∀ b, hh.objs.size ≤ b → h₀.get? b = none := fun b hb => by
    cases e : h₀.get? b with
    | none => rfl
    | some o => exact absurd (Heap.lt_size (F.keep _ _ e)) (Nat.not_lt.mpr hb)
  refine wpAny_call (x_core (xm_71 X1) (looks_findIn X1 hi) (fun self => bind_fn X1 self hf) (Nat.le_of_ble_eq_true rfl) ?_)
  refine wf_init (A := A.under _) X T (fun b o e => k1 b o (F.keep b o e)) (t := hh.objs.size) (ps := [.str wh tw, .int at_ ta]) hA.made ?_ (Nat.lt_succ_self _) ?_
  · intro q hq
    rcases List.mem_cons.mp hq with rfl | hq
    · exact ⟨by heap_get, kf _ (Nat.le_succ _)⟩
    · rcases List.mem_singleton.mp hq with rfl
      exact ⟨by heap_get, kf _ (Nat.le_refl _)⟩
  · rintro h' tk' hk ⟨o, t2, q1, q2, q3⟩
    refine ⟨rfl, ?_⟩
    have hk' : ∀ b ob, hh.get? b = some ob → h'.get? b = some ob := fun b ob e => hk b ob (k1 b ob e) (Nat.ne_of_lt (Nat.lt_succ_of_lt (Heap.lt_size e))) (Nat.ne_of_lt (Heap.lt_size e))
    have hL : hh.objs.size + 1 ≠ L := by
      obtain ⟨oL, _, _, hoL, _⟩ := F.ns
      exact Nat.ne_of_gt (Nat.lt_succ_of_lt (Heap.lt_size hoL))
    refine hret _ t2 o h' tk' (F.keeps hk') (fun q hq => ?_) q2 q3 hk' (Heap.get?_none_of_le (Nat.le_succ _))
    rcases List.mem_cons.mp hq with rfl | hq
    · exact ⟨q1, hL, kf _ (Nat.le_succ _)⟩
    · exact ⟨hk' _ _ (N q hq).1, (N q hq).2⟩
end
-- p24
/-- a WireFault that was made and has not been raised yet -/
noncomputable def NewWF (h : Heap) (e : Addr) : Prop := ∃ o t2, h.get? e = some o ∧ o.cls = .ref 71 ∧ o.data = .fields #[.ref t2, .none, .none, .none, .bool false, .none]
noncomputable abbrev XPost0 (s : Shared) (Q : Value → Shared → Prop) : Prop := ∀ e h' tk', s.heap.StaysIn h' → NewWF h' e → s.heap.get? e = none → Q (.ref e) { s with heap := h', toks := tk' }
section
variable {w : World} {pv : Program} {loose : List Str} {mean : ExcName → Option Value} {mg mb : Str → Option Value} {h₀ : Heap} {A : Around} {s : Shared} {Q E : Value → Shared → Prop}
    {aw ad : Addr} {H1 H2 : Int} {k1 k2 : Tok} {D : Array UInt8} {td : Tok} {p : Int} {tp : Tok} {l l₂ : List UInt8}
end
local macro_rules | `(tactic| walk_at "call ref") => `(tactic| (focus (with_reducible apply Mine.wf_made); walk_at "mine x"; intro _ _ _ _ _ _ _ _ _ _ _))
section
variable {w : World} {pv : Program} {loose : List Str} {mean : ExcName → Option Value} {mg mb : Str → Option Value} {h₀ : Heap} {A : Around} {s : Shared} {Q E : Value → Shared → Prop}
    {aw ad : Addr} {H1 H2 : Int} {k1 k2 : Tok} {D : Array UInt8} {td : Tok} {p : Int} {tp : Tok} {l l₂ : List UInt8}
set_option maxHeartbeats 8000000 in
theorem fault_c (X : (hd.heap_1 w.params).In h₀) (T : Top pv loose mean mg mb h₀) (keep : h₀.StaysIn s.heap) (hA : Low A 5)
    (hw : Has h₀ s.heap (wLed aw ad H1 H2 k1 k2 D td p tp)) {wh : Str} {tw : Tok} (hret : XPost0 s Q) :
    wpAny (model PySem.Challenge.rw_pq0944_01.row.prog w) A (call (.ref 192) [.ref aw, .str wh tw]) Q E s := by
  obtain ⟨ah, ad', af, ag, au⟩ := A
  obtain rfl : ah = none := hA.1
  have hne := hw.wne
  k_dflt (refine' enter0 (binds := [(Str.ofString "self", .ref aw), (Str.ofString "what", .str wh tw)]) hA X T keep hw ?k6 ?k7 ?k9 ?kB ?_ ?c2 ?c3 ?c4 ?c5)
  walk_at "mine sides"
  intro g' L' h' KG' F' N' X' T' A'
  clear X T keep hA
  (try k_fold)
  k_steps
  rename_i e t2 o' h2 tk2 F2 N2 hxc hxd hxk hxn
  have hE := N2 (e, o') (.head _)
  refine hret e h2 tk2 (kept_all KG' F2 N2 hw (fun q hq => .tail _ hq)) ⟨o', _, hE.1, hxc, hxd⟩ ?_
  cases q : s.heap.get? e with
  | none => rfl
  | some ob =>
    by_cases hm : e ∈ (wLed aw ad H1 H2 k1 k2 D td p tp).map (·.1)
    · obtain ⟨y, hy, hye⟩ := List.mem_map.mp hm
      have := (N' y hy).1
      rw [hye, hxn] at this
      cases this
    · have := KG' e ob q hm
      rw [hE.2.2] at this
      cases this
end
-- p25
section
variable {w : World} {A : Around} {Q : Flow → Shared → Prop} {E : Value → Shared → Prop} {s : Shared} {env : Env}
theorem raise_c {x : Sem Value} (hh : A.handled = none) (h : wpAny (model PySem.Challenge.rw_pq0944_01.row.prog w) A x (fun v s₁ => ∃ e, v = .ref e ∧ NewWF s₁.heap e ∧ (hd.heap_1 w.params).In s₁.heap ∧ E (.ref e) s₁) E s) :
    wpAny (model PySem.Challenge.rw_pq0944_01.row.prog w) A (raiseStmt env (some x) none) Q E s := by
  unfold raiseStmt
  refine wpAny_bind (wpAny_mono h (fun v s₁ h₁ => ?_) fun _ _ x => x)
  obtain ⟨e, rfl, ⟨o, t2, he, hc, hd'⟩, X, hE⟩ := h₁
  obtain ⟨hp, g, d, tk, os⟩ := s₁
  have Lt : Looks (model PySem.Challenge.rw_pq0944_01.row.prog w) hp (typeOf (.ref e)) (.ref 71) := by
    rw [← hc]
    exact (Looks.ld he).andThen .now
  have hb : mroIn (hd.heap_1 w.params) 71 (.type "BaseException") = some true := by k_is
  have Lb : Looks (model PySem.Challenge.rw_pq0944_01.row.prog w) hp (isSubtype (.ref 71) (.type "BaseException")) true := looks_mroIn X hb
  have hcl : typeIn (hd.heap_1 w.params) (.ref 71) = some (.type "type") := by k_is
  have Ltt : Looks (model PySem.Challenge.rw_pq0944_01.row.prog w) hp (typeOf (.ref 71)) (.type "type") := looks_typeIn X hcl
  have Li : Looks (model PySem.Challenge.rw_pq0944_01.row.prog w) hp (isInstance (.ref e) (.type "BaseException")) true := Lt.andThen Lb
  unfold excFromValue isExcClass raisedInstance setFlight
  repeat (first | simp only [bne_self_eq_false, Bool.false_eq_true, if_false, Bool.not_true] | lk)
  rw [hd']
  dsimp only
  repeat (first | simp only [bne_self_eq_false, Bool.false_eq_true, if_false, Bool.not_true, if_true] | lk)
  rw [hd']
  dsimp only
  simp only [Bool.false_eq_true, if_false]
  refine wpAny_bind (wpAny_bind (Lt.at (wpAny_bind (Ltt.at ?_))))
  simp only [beq_self_eq_true, if_true]
  refine wpAny_pure (wpAny_bind (wpAny_bind (wpAny_field he hd' (x := Value.none) rfl ?_)))
  simp only [bne_self_eq_false, Bool.false_eq_true, if_false]
  refine wpAny_pure ?_
  exact wpAny_raiseNew_none hh hE
end
section
variable {w : World} {A : Around} {Q : Flow → Shared → Prop} {E : Value → Shared → Prop} {s : Shared} {env : Env}
theorem exec_raise {e : Expr} {pos : Pos} (hh : A.handled = none) (h : wpAny (model PySem.Challenge.rw_pq0944_01.row.prog w) A (eval e env) (fun v s₁ => ∃ a, v = .ref a ∧ NewWF s₁.heap a ∧ (hd.heap_1 w.params).In s₁.heap ∧ E (.ref a) s₁) E s) :
    wpAny (model PySem.Challenge.rw_pq0944_01.row.prog w) A (exec (.Raise (some e) none pos) env) Q E s := by
  refine wpAny_bind (wpAny_standAt ?_)
  exact raise_c hh (wpAny_bind (wpAny_mono h (fun v s₁ z => wpAny_bind (wpAny_standAt (wpAny_pure z))) fun _ _ z => z))
end
-- p26
section
variable {M : Model} {A : Around} {Q : Unit → Shared → Prop} {E : Value → Shared → Prop} {s : Shared} {env : Env} {fl : List Env} {base : Heap} {e : Addr}
/-- the first frame that a new WireFault leaves -/
theorem leave_first (hfr : A.frames = some (env :: fl)) (hl : s.heap.FunFrames base (env :: fl)) (hkb : base.StaysIn s.heap) (hen : base.get? e = none) (hw : NewWF s.heap e)
    (h : ∀ a0 h', Heap.FlyingW base fl e (.ref 71) a0 h' → s.heap.UpToSlots h' → Q () { s with heap := h' }) : wpAny M A (leaving env (.ref e)) Q E s := by
  obtain ⟨o, t2, he, hc, hd⟩ := hw
  have hl' := hl
  obtain ⟨hk, ⟨L, oL, hf, hbn, hL, hLd⟩, hr⟩ := hl'
  refine wpAny_leaving_firstW hfr hl hf he hkb hen hd rfl rfl fun h' x => ?_
  obtain ⟨x1, x2, x3, x4⟩ := x
  rw [hc] at x3
  exact h _ h' ⟨x1, hen, x2.2.2, x3⟩ x4
/-- every further frame -/
theorem leave_next {a0 : Value} {L : Addr} (hfr : A.frames = some (env :: fl)) (hf : env.frame = some L) (hfl : Heap.FlyingW base (env :: fl) e (.ref 71) a0 s.heap)
    (h : ∀ h', Heap.FlyingW base fl e (.ref 71) a0 h' → s.heap.UpToSlots h' → Q () { s with heap := h' }) : wpAny M A (leaving env (.ref e)) Q E s :=
  wpAny_leaves_onW hfr hf hfl h
end
theorem funFrames_now {h h' base : Heap} (k : ∀ b o, h.get? b = some o → (∀ vs, o.data ≠ .fields vs) → ∃ o', h'.get? b = some o' ∧ ∀ vs, o'.data ≠ .fields vs) : ∀ {l : List Env}, h.FunFrames base l → h'.FunFrames base l
  | [], _ => trivial
  | _ :: _, ⟨hk, ⟨L, o, hf, hn, ho, hd⟩, hr⟩ => by
    obtain ⟨o', ho', hd'⟩ := k L o ho hd
    exact ⟨hk, ⟨L, o', hf, hn, ho', hd'⟩, funFrames_now k hr⟩
theorem frames_now {h g h' base : Heap} {led led' : List (Addr × Obj)} {L' f : Addr} {m' : Str → Option Value} {fl : List Env} {qual : Str} {scope : Scope} {cdv : Value} (hg : Hid h led g) (hfl : h.FunFrames base fl) (hbg : base.StaysIn g) (F' : Fr g L' h' m') (N' : News g L' h' led')
    (hs : ∀ q ∈ led, ∃ o', (q.1, o') ∈ led' ∧ ∀ vs, o'.data ≠ .fields vs) (hk : scope.kind = .function) : h'.FunFrames base (envOf qual scope L' f cdv :: fl) := by
  obtain ⟨oL, es, ep, hL, hd, _⟩ := F'.ns
  have hb : base.get? L' = none := by
    cases e : base.get? L' with
    | none => rfl
    | some o => have := hbg _ _ e; rw [kts_self F'] at this; cases this
  refine ⟨by show scope.kind ≠ .module; rw [hk]; decide, ⟨L', oL, rfl, hb, hL, fun vs q => by rw [hd] at q; cases q⟩, funFrames_now (fun b o e hn => ?_) hfl⟩
  by_cases hm : b ∈ led.map (·.1)
  · obtain ⟨q, hq, rfl⟩ := List.mem_map.mp hm
    obtain ⟨o', ho', hn'⟩ := hs q hq
    exact ⟨o', (N' _ ho').1, hn'⟩
  · exact ⟨o, F'.keep b o (hg b o e hm), hn⟩
-- p27
/-- all but the addresses of `xs` and records is kept, up to slots -/
noncomputable def UpBut (xs : List Addr) (h h' : Heap) : Prop := ∀ b o, h.get? b = some o → b ∉ xs → (∀ vs, o.data ≠ .fields vs) → ∃ sl, h'.get? b = some { o with slots := sl }
noncomputable abbrev FPost (s : Shared) (xs : List Addr) (fl : List Env) (base : Heap) (E : Value → Shared → Prop) : Prop := ∀ e a0 h' tk', Heap.FlyingW base fl e (.ref 71) a0 h' → UpBut xs s.heap h' → E (.ref e) { s with heap := h', toks := tk' }
/-- the base heap and the frames on the stack, as a failing call finds them -/
structure Fly (A : Around) (s : Shared) (fl : List Env) (base : Heap) (led : List (Addr × Obj)) : Prop where
  fr : A.frames = some fl
  fun_ : s.heap.FunFrames base fl
  stays : base.StaysIn s.heap
  new : ∀ q ∈ led, base.get? q.1 = none
section
variable {prog : Program} {w : World} {A : Around} {s : Shared} {h₀ : Heap} {K : Frag} {p : Program} {loose : List Str} {mean : ExcName → Option Value} {mg mb : Str → Option Value} {Q E : Value → Shared → Prop}
theorem enterCF {name qual : Str} {params : Arguments} {body : List Stmt} {scope : Scope} {dV kV doc pm cdv ct oc : Value} {an od : Option Addr} {osl : Array (Option Value)} {f : Addr} {args : List Value} {binds : List (Str × Value)}
    {led : List (Addr × Obj)} {n : Nat} (hA : Low A (n + 1))
    (X : K.In h₀) (T : Top p loose mean mg mb h₀) (keep : h₀.StaysIn s.heap) (N : Has h₀ s.heap led)
    (ho : K.lookup f = some ⟨oc, od, .func (fnOf name qual params body scope dV kV doc pm an cdv ct), osl⟩) (hcd : codeIn K cdv qual = true)
    (hbind : BindsTo s (fnOf name qual params body scope dV kV doc pm an cdv ct) ⟨args, []⟩ binds) (hloc : ∀ y ∈ binds, scope.names.lookup y.1 = some .local)
    (h : ∀ g L' h₁, Hid s.heap led g → Fr g L' h₁ (fun y => binds.reverse.lookup y) → News g L' h₁ led → K.In g → Top p loose mean mg mb g → Low (A.deeper (envOf qual scope L' f cdv)) n →
      wpC (model prog w) (A.deeper (envOf qual scope L' f cdv)) (execs body (envOf qual scope L' f cdv))
        (fun fl s' => Q (match fl with | .ret v => v | _ => .none) s') (fun e s' => wpAny (model prog w) (A.deeper (envOf qual scope L' f cdv)) (leaving (envOf qual scope L' f cdv) e) (fun _ s'' => E e s'') (fun e' s'' => E e' s'') s')
        { s with heap := h₁, toks := s.toks + binds.length })
    (hco : scope.isCoroutine = false) (hgen : scope.isGenerator = false) (hk : scope.kind = .function)
    (hcell : ∀ x ∈ scope.names, x.2 ≠ .cell) : wpC (model prog w) A (call (.ref f) args) Q E s := by
  refine wpC_call ?_
  refine enterC X T keep N ho hcd hA.room hbind hloc (fun g L' h₁ hg st F' N' X' T' => ?_) hco hgen hk hcell
  exact h g L' h₁ hg F' N' X' T' hA.deeper
/-- enter0 for a call that may raise: what leaves the body goes through `leaving` -/
theorem enterF {name qual : Str} {params : Arguments} {body : List Stmt} {scope : Scope} {dV kV doc pm cdv ct oc : Value} {an od : Option Addr} {osl : Array (Option Value)} {f : Addr} {args : List Value} {binds : List (Str × Value)}
    {led : List (Addr × Obj)} {n : Nat} (hA : Low A (n + 1))
    (X : K.In h₀) (T : Top p loose mean mg mb h₀) (keep : h₀.StaysIn s.heap) (N : Has h₀ s.heap led)
    (ho : K.lookup f = some ⟨oc, od, .func (fnOf name qual params body scope dV kV doc pm an cdv ct), osl⟩) (hcd : codeIn K cdv qual = true)
    (hbind : BindsTo s (fnOf name qual params body scope dV kV doc pm an cdv ct) ⟨args, []⟩ binds) (hloc : ∀ y ∈ binds, scope.names.lookup y.1 = some .local)
    (h : ∀ g L' h₁, Hid s.heap led g → Fr g L' h₁ (fun y => binds.reverse.lookup y) → News g L' h₁ led → K.In g → Top p loose mean mg mb g → Low (A.deeper (envOf qual scope L' f cdv)) n →
      wpAny (model prog w) (A.deeper (envOf qual scope L' f cdv)) (execs body (envOf qual scope L' f cdv))
        (fun fl s' => Q (match fl with | .ret v => v | _ => .none) s') (fun e s' => wpAny (model prog w) (A.deeper (envOf qual scope L' f cdv)) (leaving (envOf qual scope L' f cdv) e) (fun _ s'' => E e s'') (fun e' s'' => E e' s'') s')
        { s with heap := h₁, toks := s.toks + binds.length })
    (hco : scope.isCoroutine = false) (hgen : scope.isGenerator = false) (hk : scope.kind = .function)
    (hcell : ∀ x ∈ scope.names, x.2 ≠ .cell) : wpAny (model prog w) A (call (.ref f) args) Q E s := by
  refine wpAny_call ?_
  refine enter X T keep N ho hcd hA.room hbind hloc (fun g L' h₁ hg st F' N' X' T' => ?_) hco hgen hk hcell
  exact h g L' h₁ hg F' N' X' T' hA.deeper
end
section
variable {w : World} {pv : Program} {loose : List Str} {mean : ExcName → Option Value} {mg mb : Str → Option Value} {h₀ : Heap} {A : Around} {s : Shared} {Q E : Value → Shared → Prop}
    {aw ad : Addr} {H1 H2 : Int} {k1 k2 : Tok} {D : Array UInt8} {td : Tok} {p : Int} {tp : Tok} {l l₂ : List UInt8} {fl : List Env} {base : Heap} {xs : List Addr}
theorem Fly.base_in {led : List (Addr × Obj)} {g : Heap} (Y : Fly A s fl base led) (hg : Hid s.heap led g) : base.StaysIn g := fun b o e => hg b o (Y.stays b o e) fun hm => by
  obtain ⟨q, hq, rfl⟩ := List.mem_map.mp hm
  rw [Y.new q hq] at e
  cases e
theorem leave_now {M : Model} {g h' : Heap} {L' f e : Addr} {m' : Str → Option Value} {led led' : List (Addr × Obj)} {tk' : Nat} {qual : Str} {scope : Scope} {cdv : Value} {E' : Value → Shared → Prop} (Y : Fly A s fl base led) (hg : Hid s.heap led g) (hN : Has h₀ s.heap led) (F' : Fr g L' h' m') (N' : News g L' h' led')
    (hw : NewWF h' e) (hen : g.get? e = none) (hE : FPost s xs fl base E) (hs1 : ∀ q ∈ led, q.1 ∉ xs → q ∈ led') (hs2 : ∀ q ∈ led, ∃ o', (q.1, o') ∈ led' ∧ ∀ vs, o'.data ≠ .fields vs) (hk : scope.kind = .function) :
    wpAny M (A.deeper (envOf qual scope L' f cdv)) (leaving (envOf qual scope L' f cdv) (.ref e)) (fun _ s'' => E (.ref e) s'') E' { s with heap := h', toks := tk' } := by
  have hb := Y.base_in hg
  refine leave_first (base := base) (Around.frames_deeper Y.fr) (frames_now hg Y.fun_ hb F' N' hs2 hk) (fun b o q => F'.keep b o (hb b o q)) ?_ hw fun a0 h2 hfl hup => ?_
  · cases q : base.get? e with
    | none => rfl
    | some o => have := hb _ _ q; rw [hen] at this; cases this
  · refine hE e a0 h2 tk' hfl fun b o q hne hnf => hup b o ?_ hnf
    by_cases hm : b ∈ led.map (·.1)
    · obtain ⟨y, hy, rfl⟩ := List.mem_map.mp hm
      have := (hN y hy).1
      rw [q] at this
      cases this
      exact (N' y (hs1 y hy hne)).1
    · exact F'.keep b o (hg b o q hm)
theorem xpost_r {g : Heap} {L : Addr} {m : Str → Option Value} {led : List (Addr × Obj)} (F : Fr g L s.heap m) (N : News g L s.heap led)
    (k : ∀ e h' tk', Fr g L h' m → News g L h' led → NewWF h' e → g.get? e = none → Q (.ref e) { s with heap := h', toks := tk' }) : XPost0 s Q :=
  fun e h' tk' st hw hn => k e h' tk' (F.keeps st) (fun q hq => ⟨st _ _ (N q hq).1, (N q hq).2⟩) hw (by
    cases q : g.get? e with
    | none => rfl
    | some o => have := F.keep _ _ q; rw [hn] at this; cases this)
end
local macro_rules | `(tactic| walk_at "exec Raise some none") => `(tactic| (k_here; k_dflt (refine Mine.exec_raise rfl ?_)))
local macro_rules | `(tactic| walk_at "call ref") => `(tactic| (focus (with_reducible apply Mine.fault_c); walk_at "mine x"; refine' Mine.xpost_r (by assumption) (by assumption) ?_; intro _ _ _ _ _ _ _))
section
variable {w : World} {pv : Program} {loose : List Str} {mean : ExcName → Option Value} {mg mb : Str → Option Value} {h₀ : Heap} {A : Around} {s : Shared} {Q E : Value → Shared → Prop}
    {aw ad : Addr} {H1 H2 : Int} {k1 k2 : Tok} {D : Array UInt8} {td : Tok} {p : Int} {tp : Tok} {l l₂ : List UInt8} {fl : List Env} {base : Heap} {xs : List Addr}
set_option maxHeartbeats 8000000 in
theorem need_f (X : (hd.heap_1 w.params).In h₀) (T : Top pv loose mean mg mb h₀) (keep : h₀.StaysIn s.heap) (hA : Low A 7)
    (hw : Has h₀ s.heap (wLed aw ad H1 H2 k1 k2 D td p tp)) (Y : Fly A s fl base (wLed aw ad H1 H2 k1 k2 D td p tp)) {O : Array UInt8} {to tw : Tok} {wh : Str} (hat : At D p l) (hsz : D.size ≤ 1000000) (hO : O.size ≤ 1000) (hno : ((l.take O.size).toArray.toList != O.toList) = true)
    (hE : FPost s xs fl base E) :
    wpAny (model PySem.Challenge.rw_pq0944_01.row.prog w) A (call (.ref 213) [.ref aw, .bytes O to, .str wh tw]) Q E s := by
  obtain ⟨ah, ad', af, ag, au⟩ := A
  obtain rfl : ah = none := hA.1
  have hne := hw.wne
  k_dflt (refine' enterF (binds := [(Str.ofString "self", .ref aw), (Str.ofString "octets", .bytes O to), (Str.ofString "what", .str wh tw)]) hA X T keep hw ?k6 ?k7 ?k9 ?kB ?_ ?c2 ?c3 ?c4 ?c5)
  walk_at "mine sides"
  intro g' L' h' KG' F' N' X' T' A'
  clear X T keep hA
  (try k_fold)
  k_steps
  · assumption
  · refine leave_now Y KG' hw (by assumption) (by assumption) (by assumption) (by assumption) hE ?h1 ?h2 rfl
    case h1 => exact fun q hq _ => hq
    case h2 => exact fun q hq => ⟨q.2, hq, by rcases List.mem_cons.mp hq with rfl | hq
                                              · exact fun vs e => nomatch e
                                              · rcases List.mem_singleton.mp hq with rfl; exact fun vs e => nomatch e⟩
end
-- p28
section
variable {w : World} {pv : Program} {loose : List Str} {mean : ExcName → Option Value} {mg mb : Str → Option Value} {h₀ : Heap} {A : Around} {s : Shared} {Q E : Value → Shared → Prop}
    {aw ad : Addr} {H1 H2 : Int} {k1 k2 : Tok} {D : Array UInt8} {td : Tok} {p : Int} {tp : Tok} {l l₂ : List UInt8} {fl : List Env} {base : Heap} {xs xs' : List Addr}
/-- the frames and the base heap within the body of a def that was entered -/
theorem Fly.deeper {g h' : Heap} {L' f : Addr} {m' : Str → Option Value} {led led' : List (Addr × Obj)} {k : Nat} {qual : Str} {scope : Scope} {cdv : Value} (Y : Fly A s fl base led) (hg : Hid s.heap led g) (F' : Fr g L' h' m') (N' : News g L' h' led')
    (hs2 : ∀ q ∈ led, ∃ o', (q.1, o') ∈ led' ∧ ∀ vs, o'.data ≠ .fields vs) (hk : scope.kind = .function) : Fly (A.deeper (envOf qual scope L' f cdv)) { s with heap := h', toks := k } (envOf qual scope L' f cdv :: fl) base led' where
  fr := Around.frames_deeper Y.fr
  fun_ := frames_now hg Y.fun_ (Y.base_in hg) F' N' hs2 hk
  stays := fun b o q => F'.keep b o (Y.base_in hg b o q)
  new := fun q hq => by
    cases e : base.get? q.1 with
    | none => rfl
    | some o => have := Y.base_in hg _ _ e; rw [(N' q hq).2.2] at this; cases this
/-- what flies out of a call within the body leaves the body too -/
theorem pass_on {M : Model} {g h₁ : Heap} {L' f : Addr} {m' : Str → Option Value} {led led' : List (Addr × Obj)} {k : Nat} {qual : Str} {scope : Scope} {cdv : Value} {E' : Value → Shared → Prop} (hg : Hid s.heap led g) (hN : Has h₀ s.heap led) (F' : Fr g L' h₁ m') (N' : News g L' h₁ led') (hs1 : ∀ q ∈ led, q.1 ∉ xs → q ∈ led')
    (hfr : A.frames = some fl) (hE : FPost s xs fl base E) (hx : ∀ b o, s.heap.get? b = some o → b ∉ xs → b ∉ xs' := by exact fun _ _ _ h => h) :
    FPost { s with heap := h₁, toks := k } xs' (envOf qual scope L' f cdv :: fl) base (fun e s' => wpAny M (A.deeper (envOf qual scope L' f cdv)) (leaving (envOf qual scope L' f cdv) e) (fun _ s'' => E e s'') E' s') := by
  intro e a0 h2 tk2 hfl hup
  refine leave_next (Around.frames_deeper hfr) rfl hfl fun h3 hfl3 hup3 => ?_
  refine hE e a0 h3 tk2 hfl3 fun b o q hne hnf => ?_
  have h1 : h₁.get? b = some o := by
    by_cases hm : b ∈ led.map (·.1)
    · obtain ⟨y, hy, rfl⟩ := List.mem_map.mp hm
      have := (hN y hy).1
      rw [q] at this
      cases this
      exact (N' y (hs1 y hy hne)).1
    · exact F'.keep b o (hg b o q hm)
  obtain ⟨sl, h4⟩ := hup b o h1 (hx b o q hne) hnf
  obtain ⟨sl', h5⟩ := hup3 b { o with slots := sl } h4 hnf
  exact ⟨sl', h5⟩
end
-- p29
section
variable {w : World} {pv : Program} {loose : List Str} {mean : ExcName → Option Value} {mg mb : Str → Option Value} {h₀ : Heap} {A : Around} {s : Shared} {Q E : Value → Shared → Prop}
    {aw ad : Addr} {H1 H2 : Int} {k1 k2 : Tok} {D : Array UInt8} {td : Tok} {p : Int} {tp : Tok} {l l₂ : List UInt8} {fl : List Env} {base : Heap} {xs : List Addr}
theorem wLed_plain {aw ad : Addr} {H1 H2 : Int} {k1 k2 : Tok} {D : Array UInt8} {td : Tok} {p : Int} {tp : Tok} : ∀ q ∈ wLed aw ad H1 H2 k1 k2 D td p tp, ∀ vs, q.2.data ≠ .fields vs := by
  intro q hq
  rcases List.mem_cons.mp hq with rfl | hq
  · exact fun vs e => nomatch e
  · rcases List.mem_singleton.mp hq with rfl
    exact fun vs e => nomatch e
set_option maxHeartbeats 8000000 in
theorem space_f (X : (hd.heap_1 w.params).In h₀) (T : Top pv loose mean mg mb h₀) (keep : h₀.StaysIn s.heap) (hA : Low A 8)
    (hw : Has h₀ s.heap (wLed aw ad H1 H2 k1 k2 D td p tp)) (Y : Fly A s fl base (wLed aw ad H1 H2 k1 k2 D td p tp)) (hat : At D p l) (hsz : D.size ≤ 1000000) (hno : ((l.take (#[32] : Array UInt8).size).toArray.toList != (#[32] : Array UInt8).toList) = true)
    (hE : FPost s xs fl base E) :
    wpAny (model PySem.Challenge.rw_pq0944_01.row.prog w) A (call (.ref 220) [.ref aw]) Q E s := by
  obtain ⟨ah, ad', af, ag, au⟩ := A
  obtain rfl : ah = none := hA.1
  have hne := hw.wne
  k_dflt (refine' enterF (binds := [(Str.ofString "self", .ref aw)]) hA X T keep hw ?k6 ?k7 ?k9 ?kB ?_ ?c2 ?c3 ?c4 ?c5)
  walk_at "mine sides"
  intro g' L' h' KG' F' N' X' T' A'
  clear X T keep hA
  (try k_fold)
  k_steps
  refine need_f (by assumption) (by assumption) (Fr.keep (by assumption)) (by walk_at "mine low") (Has.of (by assumption) fun q hq => hq) (Y.deeper KG' (by assumption) (by assumption) (fun q hq => ⟨q.2, hq, wLed_plain q hq⟩) rfl) hat hsz (by decide) hno (pass_on KG' hw (by assumption) (by assumption) (fun q hq _ => hq) Y.fr hE)
end
-- p30
section
variable {w : World} {pv : Program} {loose : List Str} {mean : ExcName → Option Value} {mg mb : Str → Option Value} {h₀ : Heap} {A : Around} {s : Shared} {Q E : Value → Shared → Prop}
    {aw ad : Addr} {H1 H2 : Int} {k1 k2 : Tok} {D : Array UInt8} {td : Tok} {p : Int} {tp : Tok} {l l₂ : List UInt8} {fl : List Env} {base : Heap} {xs : List Addr}
/-- the rest does not begin with `c` -/
theorem no_one {c : UInt8} (h : first l ≠ (c.toNat : Int)) : ((l.take (#[c] : Array UInt8).size).toArray.toList != (#[c] : Array UInt8).toList) = true := by
  cases l with
  | nil => simp
  | cons d r =>
    have : d ≠ c := by
      rintro rfl
      exact h rfl
    simp [this]
set_option maxHeartbeats 8000000 in
theorem quoted_f (X : (hd.heap_1 w.params).In h₀) (T : Top pv loose mean mg mb h₀) (keep : h₀.StaysIn s.heap) (hA : Low A 8)
    (hw : Has h₀ s.heap (wLed aw ad H1 H2 k1 k2 D td p tp)) (Y : Fly A s fl base (wLed aw ad H1 H2 k1 k2 D td p tp)) (hat : At D p l) (hsz : D.size ≤ 1000000) (h34 : first l ≠ 34)
    (hE : FPost s xs fl base E) :
    wpC (model PySem.Challenge.rw_pq0944_01.row.prog w) A (call (.ref 290) [.ref aw]) Q E s := by
  obtain ⟨ah, ad', af, ag, au⟩ := A
  obtain rfl : ah = none := hA.1
  have hne := hw.wne
  have hno := no_one (c := 34) (l := l) h34
  k_dflt (refine' enterCF (binds := [(Str.ofString "self", .ref aw)]) hA X T keep hw ?k6 ?k7 ?k9 ?kB ?_ ?c2 ?c3 ?c4 ?c5)
  walk_at "mine sides"
  intro g' L' h' KG' F' N' X' T' A'
  clear X T keep hA
  walk_at "mine go"
  refine need_f (by assumption) (by assumption) (Fr.keep (by assumption)) (by walk_at "mine low") (Has.of (by assumption) fun q hq => hq) (Y.deeper KG' (by assumption) (by assumption) (fun q hq => ⟨q.2, hq, wLed_plain q hq⟩) rfl) hat hsz (by decide) hno (pass_on KG' hw (by assumption) (by assumption) (fun q hq _ => hq) Y.fr hE)
end
local macro_rules | `(tactic| walk_at "mine cc") => `(tactic| (with_reducible refine Mine.stopAt (by assumption) ?_))
section
variable {w : World} {pv : Program} {loose : List Str} {mean : ExcName → Option Value} {mg mb : Str → Option Value} {h₀ : Heap} {A : Around} {s : Shared} {Q E : Value → Shared → Prop}
    {aw ad : Addr} {H1 H2 : Int} {k1 k2 : Tok} {D : Array UInt8} {td : Tok} {p : Int} {tp : Tok} {l l₂ : List UInt8} {fl : List Env} {base : Heap} {xs : List Addr}
set_option maxHeartbeats 8000000 in
theorem string_f (X : (hd.heap_1 w.params).In h₀) (T : Top pv loose mean mg mb h₀) (keep : h₀.StaysIn s.heap) (hA : Low A 9)
    (hw : Has h₀ s.heap (wLed aw ad H1 H2 k1 k2 D td p tp)) (Y : Fly A s fl base (wLed aw ad H1 H2 k1 k2 D td p tp)) (hat : At D p l) (hsz : D.size ≤ 1000000) {v : Int} (hf : first l = v) (h34 : v ≠ 34) (h123 : v ≠ 123)
    (hE : FPost s xs fl base E) :
    wpC (model PySem.Challenge.rw_pq0944_01.row.prog w) A (call (.ref 304) [.ref aw]) Q E s := by
  obtain ⟨ah, ad', af, ag, au⟩ := A
  obtain rfl : ah = none := hA.1
  have hne := hw.wne
  k_dflt (refine' enterCF (binds := [(Str.ofString "self", .ref aw)]) hA X T keep hw ?k6 ?k7 ?k9 ?kB ?_ ?c2 ?c3 ?c4 ?c5)
  walk_at "mine sides"
  intro g' L' h' KG' F' N' X' T' A'
  clear X T keep hA
  have st : StopAt 290 := .mk
  walk_at "mine go"
  all_goals try (exfalso; omega)
  refine goC ?_
  refine quoted_f (by assumption) (by assumption) (Fr.keep (by assumption)) (by walk_at "mine low") (Has.of (by assumption) fun q hq => hq) (Y.deeper KG' (by assumption) (by assumption) (fun q hq => ⟨q.2, hq, wLed_plain q hq⟩) rfl) hat hsz (by omega) (pass_on KG' hw (by assumption) (by assumption) (fun q hq _ => hq) Y.fr hE)
end
-- p31
local macro_rules | `(tactic| walk_at "mine hs1") => `(tactic| (repeat' (first | exact List.forall_mem_nil _ | refine' List.forall_mem_cons.mpr (And.intro ?_ ?_) | exact (fun hn => absurd (by assumption) hn) | exact (fun _ => by k_mem))))
local macro_rules | `(tactic| walk_at "mine hs2") => `(tactic| (repeat' (first | exact List.forall_mem_nil _ | refine' List.forall_mem_cons.mpr (And.intro ?_ ?_) | (refine' Exists.intro _ (And.intro (by k_mem) ?_); exact fun vs e => nomatch e))))
section
variable {w : World} {pv : Program} {loose : List Str} {mean : ExcName → Option Value} {mg mb : Str → Option Value} {h₀ : Heap} {A : Around} {s : Shared} {Q E : Value → Shared → Prop}
    {aw ad : Addr} {H1 H2 : Int} {k1 k2 : Tok} {D : Array UInt8} {td : Tok} {p : Int} {tp : Tok} {l l₂ : List UInt8} {fl : List Env} {base : Heap} {xs : List Addr}
set_option maxHeartbeats 8000000 in
theorem nstring_f (X : (hd.heap_1 w.params).In h₀) (T : Top pv loose mean mg mb h₀) (keep : h₀.StaysIn s.heap) (hA : Low A 9)
    (hw : Has h₀ s.heap (wLed aw ad H1 H2 k1 k2 D td p tp)) (Y : Fly A s fl base (wLed aw ad H1 H2 k1 k2 D td p tp)) {t r : List UInt8} (hat : At D p (t ++ r)) (hsz : D.size ≤ 100000) (ht : t = [] ∨ t = [120]) (hr : ∀ c r', r = c :: r' → isAtom c = false) (hx : ad ∈ xs)
    {v : Int} (hf : first (t ++ r) = v) (h34 : v ≠ 34) (h123 : v ≠ 123)
    (hE : FPost s xs fl base E) :
    wpC (model PySem.Challenge.rw_pq0944_01.row.prog w) A (call (.ref 332) [.ref aw]) Q E s := by
  obtain ⟨ah, ad', af, ag, au⟩ := A
  obtain rfl : ah = none := hA.1
  have hne := hw.wne
  have hsz' : D.size ≤ 1000000 := by omega
  k_dflt (refine' enterCF (binds := [(Str.ofString "self", .ref aw)]) hA X T keep hw ?k6 ?k7 ?k9 ?kB ?_ ?c2 ?c3 ?c4 ?c5)
  walk_at "mine sides"
  intro g' L' h' KG' F' N' X' T' A'
  clear X T keep hA
  rcases ht with rfl | rfl
  · have hl : ∀ c ∈ ([] : List UInt8), isAtom c = true := by decide +kernel
    walk_at "mine go"
    all_goals try (exfalso; omega)
    all_goals
      rename_i e t2 o' h2 tk2 F2 N2 hxc hxd hxk hxn
      have hnew : NewWF h2 e := ⟨o', t2, (N2 _ (.head _)).1, hxc, hxd⟩
      first
        | exact hnew
        | exact leave_now Y KG' hw F2 N2 hnew (N2 _ (.head _)).2.2 hE (by walk_at "mine hs1") (by walk_at "mine hs2") rfl
  · have hl : ∀ c ∈ ([120] : List UInt8), isAtom c = true := by decide +kernel
    walk_at "mine go"
    all_goals try (exfalso; omega)
    all_goals
      rename_i e t2 o' h2 tk2 F2 N2 hxc hxd hxk hxn
      have hnew : NewWF h2 e := ⟨o', t2, (N2 _ (.head _)).1, hxc, hxd⟩
      first
        | exact hnew
        | exact leave_now Y KG' hw F2 N2 hnew (N2 _ (.head _)).2.2 hE (by walk_at "mine hs1") (by walk_at "mine hs2") rfl
end
-- p32
section
variable {A : Around} {s : Shared} {h₀ : Heap} {E : Value → Shared → Prop} {fl : List Env} {base : Heap} {xs xs' : List Addr} {env : Env} {L : Addr} {M : Model}
theorem UpBut.then_ {h h1 h2 : Heap} (a : UpBut xs h h1) (b : h1.UpToSlots h2) : UpBut xs h h2 := fun x o e n f => by
  obtain ⟨sl, e1⟩ := a x o e n f
  obtain ⟨sl', e2⟩ := b x _ e1 f
  exact ⟨sl', e2⟩
theorem Fly.sub {led sub : List (Addr × Obj)} (Y : Fly A s fl base led) (hs : ∀ q ∈ sub, q ∈ led) : Fly A s fl base sub := ⟨Y.fr, Y.fun_, Y.stays, fun q hq => Y.new q (hs q hq)⟩
/-- what flies within the body of a loop -/
noncomputable def EW (s : Shared) (xs : List Addr) (env : Env) (fl : List Env) (base : Heap) (e : Value) (s' : Shared) : Prop :=
  ∃ a a0 h tk, e = .ref a ∧ s' = { s with heap := h, toks := tk } ∧ Heap.FlyingW base (env :: fl) a (.ref 71) a0 h ∧ UpBut xs s.heap h
theorem held_again {l : List Env} {e : Addr} {cls a0 : Value} {Q : Unit → Shared → Prop} {E : Value → Shared → Prop} (R : Heap.HeldW base l e cls a0 L s.heap)
    (h : ∀ h', Heap.HeldW base l e cls a0 L h' → s.heap.UpToSlots h' → Q () { s with heap := h' }) : wpAny M A (setFlight (.ref e) (some L)) Q E s := by
  obtain ⟨hkb, hen, hl, oe, vs, T, oT, ts, he, hcls, hd, h1, hnT, hTe, hT, hdT, h3⟩ := R
  have hsz3 : 3 < ts.size := (Array.getElem?_eq_some_iff.mp h3).1
  have other : ∀ b, b ≠ T → (s.heap.update T (Obj.mapFields (·.setIfInBounds 3 ((some L).elim Value.none fun f => rawInt f)))).get? b = s.heap.get? b :=
    fun b hb => Heap.get?_update_other _ _ (Ne.symm hb)
  have noRecord : ∀ b o, s.heap.get? b = some o → (∀ vs, o.data ≠ .fields vs) → b ≠ T := fun b o hb hnf q => by
    rw [q, hT] at hb; injection hb with hb; subst hb; exact hnf ts hdT
  unfold setFlight
  refine wpAny_bind (wpAny_field he hd h1 ?_)
  rw [if_pos (show (Value.ref T != Value.none) = true from by simp)]
  refine wpAny_setField hT hdT hsz3 (h _ ⟨fun b o hbo => (other b fun q => by rw [q, hnT] at hbo; cases hbo).trans (hkb b o hbo), hen,
    hl.of_keeps fun b o hb hnf => ⟨o, (other b (noRecord b o hb hnf)).trans hb, rfl⟩, ?_⟩ fun b o hb hnf => ⟨o.slots, (other b (noRecord b o hb hnf)).trans hb⟩)
  exact ⟨oe, vs, T, _, _, (other e (Ne.symm hTe)).trans he, hcls, hd, h1, hnT, hTe, Heap.get?_update_self _ hT (Obj.isFreed_of_fields (Obj.data_mapFields hdT _)), Obj.data_mapFields hdT _, by simp [hsz3]⟩
/-- what flies out of a loop's body goes through the loop and out of the def -/
theorem loop_out {prog : Program} {w : World} (hfr : A.frames = some (env :: fl)) (hf : env.frame = some L) {E'' : Value → Shared → Prop} (hE : FPost s xs fl base E) :
    ∀ e s', EW s xs env fl base e s' → notedBy (model prog w) A env (fun e s' => cameBackBy (model prog w) A env (fun e s' => wpAny (model prog w) A (leaving env e) (fun _ s'' => E e s'') E'' s') e s') e s' := by
  rintro _ _ ⟨a, a0, h, tk, rfl, rfl, hfl, hup⟩
  refine wpAny_looks_onW hfr hf hfl fun h1 hh1 u1 => ?_
  obtain ⟨_, _, _, oe, vs, T, oT, ts, he, hcls, hd, q1, _⟩ := id hh1
  refine wpAny_bind (wpAny_field he hd q1 ?_)
  rw [if_neg (show ¬ ((Value.ref T == Value.none) = true) from by simp)]
  rw [hf]
  have fin : ∀ h2, Heap.HeldW base (env :: fl) a (.ref 71) a0 L h2 → h1.UpToSlots h2 → wpAny (model prog w) A (leaving env (.ref a)) (fun _ s'' => E (.ref a) s'') E'' { s with heap := h2, toks := tk } := by
    intro h2 hh2 u2
    unfold leaving
    refine wpAny_bind (wpAny_noteFrame_againW hf hh2.2.2.2 ?_)
    refine wpAny_landsW hh2 fun h3 hf3 u3 => ?_
    obtain ⟨k1, k2, ⟨_, _, k3⟩, k4⟩ := hf3
    exact hE a a0 h3 tk ⟨k1, k2, k3, k4⟩ (((hup.then_ u1).then_ u2).then_ u3)
  first
    | exact wpAny_bind (wpAny_pure (held_again hh1 fin))
    | exact held_again hh1 fin
/-- what flies out of a call within a loop's body -/
theorem pass_in {g h₁ : Heap} {L' f : Addr} {m' : Str → Option Value} {led led' : List (Addr × Obj)} {k : Nat} {qual : Str} {scope : Scope} {cdv : Value} (hg : Hid s.heap led g) (hN : Has h₀ s.heap led) (F' : Fr g L' h₁ m') (N' : News g L' h₁ led') (hs1 : ∀ q ∈ led, q.1 ∉ xs → q ∈ led')
    (hx : ∀ b o, s.heap.get? b = some o → b ∉ xs → b ∉ xs') :
    FPost { s with heap := h₁, toks := k } xs' (envOf qual scope L' f cdv :: fl) base (EW s xs (envOf qual scope L' f cdv) fl base) := by
  intro e a0 h2 tk2 hfl hup
  refine ⟨e, a0, h2, tk2, rfl, rfl, hfl, fun b o q hne hnf => ?_⟩
  have h1 : h₁.get? b = some o := by
    by_cases hm : b ∈ led.map (·.1)
    · obtain ⟨y, hy, rfl⟩ := List.mem_map.mp hm
      have := (hN y hy).1
      rw [q] at this
      cases this
      exact (N' y (hs1 y hy hne)).1
    · exact F'.keep b o (hg b o q hm)
  exact hup b o h1 (hx b o q hne) hnf
/-- what was made within the body is not in the caller's heap -/
theorem not_new {g h₁ : Heap} {L' a : Addr} {o : Obj} {led led' : List (Addr × Obj)} (hg : Hid s.heap led g) (N' : News g L' h₁ led') (hm : (a, o) ∈ led') (hn : a ∉ led.map (·.1)) (hx : ∀ b, b ∉ xs → b ∉ xs' ∨ b = a) :
    ∀ b o, s.heap.get? b = some o → b ∉ xs → b ∉ xs' := by
  intro b o' e h
  rcases hx b h with h | rfl
  · exact h
  · have := hg _ _ e hn
    rw [(N' _ hm).2.2] at this
    cases this
end
-- p33
/-- a rest at which a pair cannot be read -/
inductive BadPair : Nat → List UInt8 → Prop
  | str0 {l : List UInt8} {v : Int} : first l = v → v ≠ 34 → v ≠ 123 → BadPair 0 l
  | sp0 {tk x r : List UInt8} : Str1 tk x → first r ≠ 32 → BadPair 0 (tk ++ r)
  | nstr0 {tk x t r : List UInt8} {v : Int} : Str1 tk x → (t = [] ∨ t = [120]) → (∀ c r', r = c :: r' → isAtom c = false) → first (t ++ r) = v → v ≠ 34 → v ≠ 123 → BadPair 0 (tk ++ (32 :: (t ++ r)))
  | sp1 {n : Nat} {l : List UInt8} : 0 < n → first l ≠ 32 → BadPair n l
  | str1 {n : Nat} {l : List UInt8} {v : Int} : 0 < n → first l = v → v ≠ 34 → v ≠ 123 → BadPair n (32 :: l)
section
variable {w : World} {pv : Program} {loose : List Str} {mean : ExcName → Option Value} {mg mb : Str → Option Value} {h₀ : Heap} {A : Around} {s : Shared} {Q E : Value → Shared → Prop}
    {aw ad : Addr} {H1 H2 : Int} {k1 k2 : Tok} {D : Array UInt8} {td : Tok} {p : Int} {tp : Tok} {l l₂ : List UInt8} {fl : List Env} {base : Heap} {xs : List Addr}
theorem its_nil {its : Array Value} {n : Nat} (h : its.size = n) (h0 : n = 0) : its = #[] := Array.eq_empty_of_size_eq_zero (h.trans h0)
set_option maxHeartbeats 8000000 in
theorem pair_here_f (X : (hd.heap_1 w.params).In h₀) (T : Top pv loose mean mg mb h₀) (keep : h₀.StaysIn s.heap) (hA : Low A 10)
    {f : Addr} {n : Nat} {its : Array Value} (hw : Has h₀ s.heap ((f, listOf its n) :: wLed aw ad H1 H2 k1 k2 D td p tp)) (Y : Fly A s fl base ((f, listOf its n) :: wLed aw ad H1 H2 k1 k2 D td p tp))
    {k : Nat} (hat : At D p l) (hsz : D.size ≤ 100000) (hk : its.size = k) (hi : its.size ≤ 1000) (hb : BadPair k l) (hx : ad ∈ xs)
    (hE : FPost s xs fl base E) :
    wpC (model PySem.Challenge.rw_pq0944_01.row.prog w) A (call (.ref 406) [.ref aw, .ref f]) Q E s := by
  obtain ⟨ah, ad', af, ag, au⟩ := A
  obtain rfl : ah = none := hA.1
  have hne : @Ne Nat aw ad := Has.wne (fun q hq => hw q (.tail _ hq))
  have hf1 : @Ne Nat f aw := hw.apart (.head _) (.tail _ (.head _)) (fun e => nomatch (congrArg Obj.data e))
  have hf2 : @Ne Nat f ad := hw.apart (.head _) (.tail _ (.tail _ (.head _))) (fun e => nomatch (congrArg Obj.data e))
  k_dflt (refine' enterCF (binds := [(Str.ofString "wire", .ref aw), (Str.ofString "found", .ref f)]) hA X T keep hw ?k6 ?k7 ?k9 ?kB ?_ ?c2 ?c3 ?c4 ?c5)
  walk_at "mine sides"
  intro g' L' h' KG' F' N' X' T' A'
  clear X T keep hA
  have hsz' : D.size ≤ 1000000 := by omega
  cases hb with
  | str0 e1 e2 e3 =>
    obtain rfl := its_nil hk rfl
    have st : StopAt 304 := .mk
    walk_at "mine go"
    refine goC ?_
    refine string_f (by assumption) (by assumption) (Fr.keep (by assumption)) (by walk_at "mine low") (by walk_at "mine has") ((Y.deeper KG' (by assumption) (by assumption) (by walk_at "mine hs2") rfl).sub (by walk_at "mine sub")) hat hsz' e1 e2 e3 (pass_on KG' hw (by assumption) (by assumption) (by walk_at "mine hs1") Y.fr hE)
  | sp0 e1 e2 =>
    obtain rfl := its_nil hk rfl
    walk_at "mine go"
    refine space_f (by assumption) (by assumption) (Fr.keep (by assumption)) (by walk_at "mine low") (by walk_at "mine has") ((Y.deeper KG' (by assumption) (by assumption) (by walk_at "mine hs2") rfl).sub (by walk_at "mine sub")) (by assumption) hsz' (no_one (c := 32) e2) (pass_on KG' hw (by assumption) (by assumption) (by walk_at "mine hs1") Y.fr hE)
  | nstr0 e1 e2 e3 e4 e5 e6 =>
    obtain rfl := its_nil hk rfl
    have st : StopAt 332 := .mk
    walk_at "mine go"
    refine goC ?_
    refine nstring_f (by assumption) (by assumption) (Fr.keep (by assumption)) (by walk_at "mine low") (by walk_at "mine has") ((Y.deeper KG' (by assumption) (by assumption) (by walk_at "mine hs2") rfl).sub (by walk_at "mine sub")) (by assumption) hsz e2 e3 hx e4 e5 e6 (pass_on KG' hw (by assumption) (by assumption) (by walk_at "mine hs1") Y.fr hE)
  | sp1 e1 e2 =>
    walk_at "mine go"
    refine space_f (by assumption) (by assumption) (Fr.keep (by assumption)) (by walk_at "mine low") (by walk_at "mine has") ((Y.deeper KG' (by assumption) (by assumption) (by walk_at "mine hs2") rfl).sub (by walk_at "mine sub")) hat hsz' (no_one (c := 32) e2) (pass_on KG' hw (by assumption) (by assumption) (by walk_at "mine hs1") Y.fr hE)
  | str1 e1 e2 e3 e4 =>
    have st : StopAt 304 := .mk
    walk_at "mine go"
    refine goC ?_
    refine string_f (by assumption) (by assumption) (Fr.keep (by assumption)) (by walk_at "mine low") (by walk_at "mine has") ((Y.deeper KG' (by assumption) (by assumption) (by walk_at "mine hs2") rfl).sub (by walk_at "mine sub")) (by assumption) hsz' e2 e3 e4 (pass_on KG' hw (by assumption) (by assumption) (by walk_at "mine hs1") Y.fr hE)
end
-- p34
/-- a rest at which read_id fails -/
inductive BadId : List UInt8 → Prop
  | sp {l : List UInt8} : first l ≠ 32 → BadId l
  | nstr {t r : List UInt8} {v : Int} : (t = [] ∨ t = [120]) → (∀ c r', r = c :: r' → isAtom c = false) → first (t ++ r) = v → v ≠ 34 → v ≠ 123 → v ≠ 40 → BadId (32 :: (t ++ r))
  | some {t x r : List UInt8} : Str1 t x → (∀ c r', r = c :: r' → isAtom c = false) → BadId (32 :: (t ++ r))
  | loop {es : List (List UInt8 × PairV)} {r : List UInt8} : (∀ e ∈ es, Pair1 e.1 e.2) → es.length ≤ 1000 → (es ≠ [] → ∀ c r', r = c :: r' → isAtom c = false) → first r ≠ 41 → BadPair es.length r → BadId (32 :: 40 :: (pbody [] es ++ r))
section
variable {w : World} {pv : Program} {loose : List Str} {mean : ExcName → Option Value} {mg mb : Str → Option Value} {h₀ : Heap} {A : Around} {s : Shared} {Q E : Value → Shared → Prop}
    {aw ad : Addr} {H1 H2 : Int} {k1 k2 : Tok} {D : Array UInt8} {td : Tok} {p : Int} {tp : Tok} {l l₂ : List UInt8} {fl : List Env} {base : Heap} {xs : List Addr}
theorem pbody_atom_r {es : List (List UInt8 × PairV)} {r : List UInt8} (h : ∀ c r', r = c :: r' → isAtom c = false) : ∀ c r', pbody [32] es ++ r = c :: r' → isAtom c = false := by
  intro c r' e
  cases es with
  | nil => exact h c r' e
  | cons a es => cases e; decide +kernel
theorem str1_first_ne {t x r : List UInt8} (h : Str1 t x) : first (t ++ r) ≠ 40 := by
  rcases h.first (r := r) with h | h <;> rw [h] <;> decide
set_option maxHeartbeats 8000000 in
theorem read_id_f (X : (hd.heap_1 w.params).In h₀) (T : Top pv loose mean mg mb h₀) (keep : h₀.StaysIn s.heap) (hA : Low A 11)
    (hw : Has h₀ s.heap (wLed aw ad H1 H2 k1 k2 D td p tp)) (Y : Fly A s fl base (wLed aw ad H1 H2 k1 k2 D td p tp))
    (hat : At D p l) (hsz : D.size ≤ 100000) (hb : BadId l) (hx : ad ∈ xs)
    (hE : FPost s xs fl base E) :
    wpC (model PySem.Challenge.rw_pq0944_01.row.prog w) A (call (.ref 413) [.ref aw]) Q E s := by
  obtain ⟨ah, ad', af, ag, au⟩ := A
  obtain rfl : ah = none := hA.1
  have hne : @Ne Nat aw ad := hw.wne
  k_dflt (refine' enterCF (binds := [(Str.ofString "wire", .ref aw)]) hA X T keep hw ?k6 ?k7 ?k9 ?kB ?_ ?c2 ?c3 ?c4 ?c5)
  walk_at "mine sides"
  intro g' L' h' KG' F' N' X' T' A'
  clear X T keep hA
  have hsz' : D.size ≤ 1000000 := by omega
  cases hb with
  | sp e1 =>
    walk_at "mine go"
    refine space_f (by assumption) (by assumption) (Fr.keep (by assumption)) (by walk_at "mine low") (by walk_at "mine has") ((Y.deeper KG' (by assumption) (by assumption) (by walk_at "mine hs2") rfl).sub (by walk_at "mine sub")) hat hsz' (no_one (c := 32) e1) (pass_on KG' hw (by assumption) (by assumption) (by walk_at "mine hs1") Y.fr hE)
  | nstr e1 e2 e3 e4 e5 e6 =>
    have st : StopAt 332 := .mk
    have hno := no_one (c := 40) (fun q => e6 (e3.symm.trans q))
    walk_at "mine go"
    refine goC ?_
    refine nstring_f (by assumption) (by assumption) (Fr.keep (by assumption)) (by walk_at "mine low") (by walk_at "mine has") ((Y.deeper KG' (by assumption) (by assumption) (by walk_at "mine hs2") rfl).sub (by walk_at "mine sub")) (by assumption) hsz e1 e2 hx e3 e4 e5 (pass_on KG' hw (by assumption) (by assumption) (by walk_at "mine hs1") Y.fr hE)
  | some e1 e2 =>
    rename_i t0 x0 r0
    have e1' : StrN t0 (Option.some x0) := e1
    have hno := no_one (c := 40) (str1_first_ne (r := r0) e1)
    walk_at "mine go"
    dsimp only [nval]
    walk_at "mine go"
    k_steps
    · assumption
    · exact leave_now Y KG' hw (by assumption) (by assumption) (by assumption) (by assumption) hE (by walk_at "mine hs1") (by walk_at "mine hs2") rfl
  | loop hes hlen hr hr41 hbp =>
    rename_i es r
    have hat0 : At D p (32 :: ((#[40] : Array UInt8).toList ++ (pbody [] es ++ r))) := hat
    clear hat
    walk_at "mine go"
    rename_i p1 tp1 tv1 ha tk1 hat1 f hb l1 hc F1 N1
    have hf1 : @Ne Nat f aw := by omega
    have hf2 : @Ne Nat f ad := by omega
    refine c_while_w (σ := Int × Tok × Nat × List (Addr × Obj) × List (List UInt8 × PairV) × List (List UInt8 × PairV)) (fun c => es = c.2.2.2.2.1 ++ c.2.2.2.2.2 ∧ (∃ lead, ((c.2.2.2.1 = [] ∧ lead = []) ∨ (0 < c.2.2.2.1.length ∧ lead = [32])) ∧ At D c.1 (pbody lead c.2.2.2.2.2 ++ r)) ∧ TupsAre c.2.2.2.1 (c.2.2.2.2.1.map (·.2)) ∧ (∀ q ∈ c.2.2.2.1, q.1 ≠ ad) ∧ (∀ q ∈ c.2.2.2.1, q.1 ≠ f))
      (fun c => (f, listOf (c.2.2.2.1.map fun q : Addr × Obj => Value.ref q.1).toArray c.2.2.1) :: (aw, instObj 355 ad) :: (ad, wOb H1 H2 k1 k2 D td c.1 c.2.1) :: c.2.2.2.1) (fun c => c.2.2.2.2.2.length) (p1, tp1, 0, [], [], es) (loop_out (Around.frames_deeper Y.fr) rfl hE) F1 N1 ⟨rfl, ⟨[], .inl ⟨rfl, rfl⟩, hat1⟩, .nil, (fun _ hq => nomatch hq), (fun _ hq => nomatch hq)⟩ ?_
    rintro ⟨p2, tp2, n, tups, done, todo⟩ h2 tk2 ⟨e1, ⟨lead, hlead, hat2⟩, hT, ht1, ht2⟩ F2 N2
    dsimp only at e1 hlead hat2 hT ht1 ht2 N2 ⊢
    clear F1 N1 hat1 hat0
    have hn : tups.length ≤ 1000 := by
      have := hT.length
      rw [List.length_map] at this
      rw [e1, List.length_append] at hlen
      omega
    cases todo with
    | nil =>
      rw [List.append_nil] at e1
      subst e1
      replace hat2 : At D p2 r := hat2
      have hno := no_one (c := 41) hr41
      walk_at "mine go"
      refine goC ?_
      have hl : tups.length = es.length := by
        have := hT.length
        rwa [List.length_map] at this
      refine pair_here_f (by assumption) (by assumption) (Fr.keep (by assumption)) (by walk_at "mine low") (by walk_at "mine has") ((Y.deeper KG' (by assumption) (by assumption) (by walk_at "mine hs2") rfl).sub (by walk_at "mine sub")) hat2 hsz (by simpa using hl) (by simpa using hn) hbp hx (pass_in KG' hw (by assumption) (by assumption) (by walk_at "mine hs1") (fun _ _ _ h => h))
    | cons e todo =>
      obtain ⟨t, z⟩ := e
      have hp := hes (t, z) (by rw [e1]; simp)
      have hr' := hr (by rw [e1]; simp)
      obtain ⟨c, t', et, hc41⟩ := hp.head
      have hno : ((List.take (#[41] : Array UInt8).size (pbody lead ((t, z) :: todo) ++ r)).toArray.toList != (#[41] : Array UInt8).toList) = true := by
        rcases hlead with ⟨_, rfl⟩ | ⟨_, rfl⟩
        · dsimp only at et
          subst et
          exact not_close hc41
        · exact not_close (by decide)
      obtain ⟨tk, tw, et', hx', hy⟩ := hp
      dsimp only at et' hx' hy
      have e2 : pbody lead ((t, z) :: todo) ++ r = lead ++ (tk ++ (32 :: (tw ++ (pbody [32] todo ++ r)))) := by
        subst et'
        simp [pbody]
      rw [e2] at hat2 hno
      walk_at "mine go"
      refine goC ?_
      refine' c_pair_r (by assumption) (by assumption) hne hf1 ht1 ht2 (pair_here_c (z := z) (by assumption) (by assumption) ?kS ?kL ?kH hat2 hsz ?kE ?kI hx' hy (pbody_atom_r hr')) ?_
      case kS => exact Fr.keep (by assumption)
      case kL => walk_at "mine low"
      case kH => walk_at "mine has"
      case kI => simpa using hn
      case kE =>
        rcases hlead with ⟨h1, h2⟩ | ⟨h1, h2⟩
        · exact .inl ⟨by rw [h1]; rfl, h2⟩
        · exact .inr ⟨by simpa using h1, h2⟩
      · intro p4 tp4 T4 u1 u2 h4 tk4 hat4 F4 N4 hTd hTf
        walk_at "mine go"
        dsimp only
        have eL : (tups.map fun q : Addr × Obj => Value.ref q.1).toArray.push (Value.ref T4) = ((tups ++ [(T4, tupO z u1 u2)]).map fun q : Addr × Obj => Value.ref q.1).toArray := by simp
        rw [eL] at N4
        refine' turned (c' := (p4, tp4, n + 1, tups ++ [(T4, tupO z u1 u2)], done ++ [(t, z)], todo)) F4 N4 (fun q hq => hq) ⟨by rw [e1]; simp, ⟨[32], .inr ⟨?hI1, rfl⟩, hat4⟩, ?hI2, ?hI3, ?hI4⟩ (Nat.lt_succ_self _)
        case hI1 => simp
        case hI2 => rw [List.map_append]; exact hT.snoc
        case hI3 =>
          intro q hq
          rcases List.mem_append.mp hq with hq | hq
          · exact ht1 q hq
          · rcases List.mem_singleton.mp hq with rfl
            exact hTd
        case hI4 =>
          intro q hq
          rcases List.mem_append.mp hq with hq | hq
          · exact ht2 q hq
          · rcases List.mem_singleton.mp hq with rfl
            exact hTf
end
-- p35
section
variable {prog : Program} {w : World} {A : Around} {Q : Flow → Shared → Prop} {E : Value → Shared → Prop} {s : Shared} {env : Env}
theorem c_Try {h₀ : ExceptHandler} {hs : List ExceptHandler} {body orelse : List Stmt} {pos : Pos}
    (h : wpC (model prog w) A (execs body env) (fun f s₁ => match f with | .next => wpC (model prog w) A (execs orelse env) Q E s₁ | f => Q f s₁)
      (fun e s₁ => wpAny (model prog w) A (noteFrame e env) (fun _ s₂ => wpAny (model prog w) A (setFlight e none) (fun _ s₃ => wpAny (model prog w) A (handleBy e env (h₀ :: hs)) Q E s₃) E s₂) E s₁) s) :
    wpC (model prog w) A (exec (.Try body (h₀ :: hs) orelse [] pos) env) Q E s := by
  rw [arm_exec_Try]
  refine wpC_at ?_
  unfold tryStmt
  simp only [List.isEmpty_nil, if_true, List.isEmpty_cons, Bool.false_and, Bool.false_eq_true, if_false]
  refine wpC_bind (wpC_attempt (wpC_mono h (fun f s₁ h₁ => ?_) fun e s₁ h₁ => ?_))
  · cases f <;> first | exact h₁ | exact wpC_pure h₁
  · exact ofAny (wpAny_bind (wpAny_mono h₁ (fun _ _ h₂ => wpAny_bind h₂) fun _ _ x => x))
end
section
variable {w : World} {A : Around} {E : Value → Shared → Prop} {s : Shared}
/-- a WireFault is caught by `except PostError` -/
theorem x_matches {e : Addr} {o : Obj} {Q : Bool → Shared → Prop} (X : (hd.heap_1 w.params).In s.heap) (he : s.heap.get? e = some o) (hc : o.cls = .ref 71) (h : Q true s) :
    wpAny (model PySem.Challenge.rw_pq0944_01.row.prog w) A (excMatches (.ref e) (.ref 46)) Q E s := by
  obtain ⟨hp, g, d, tk, os⟩ := s
  have Lt : Looks (model PySem.Challenge.rw_pq0944_01.row.prog w) hp (typeOf (.ref e)) (.ref 71) := by
    rw [← hc]
    exact (Looks.ld he).andThen .now
  have hb : mroIn (hd.heap_1 w.params) 46 (.type "BaseException") = some true := by k_is
  have Lb : Looks (model PySem.Challenge.rw_pq0944_01.row.prog w) hp (isSubtype (.ref 46) (.type "BaseException")) true := looks_mroIn X hb
  have hs : mroIn (hd.heap_1 w.params) 71 (.ref 46) = some true := by k_is
  have Ls : Looks (model PySem.Challenge.rw_pq0944_01.row.prog w) hp (isSubtype (.ref 71) (.ref 46)) true := looks_mroIn X hs
  have hcl : typeIn (hd.heap_1 w.params) (.ref 46) = some (.type "type") := by k_is
  have Ltt : Looks (model PySem.Challenge.rw_pq0944_01.row.prog w) hp (typeOf (.ref 46)) (.type "type") := looks_typeIn X hcl
  have hty : hasDictIn (hd.heap_1 w.params) 46 = true := by k_is
  have Lty : Looks (model PySem.Challenge.rw_pq0944_01.row.prog w) hp (isType (.ref 46)) true := mc_isType (s := ⟨hp, g, d, tk, os⟩) X hty
  unfold excMatches isExcClass
  repeat (first | simp only [bne_self_eq_false, Bool.false_eq_true, if_false, Bool.not_true, if_true] | lk)
  exact h
end
section
variable {A : Around} {s : Shared}
theorem UpBut.ns {xs : List Addr} {h h' : Heap} {a : Addr} {m : Str → Option Value} (x : UpBut xs h h') (hn : h.Ns a m) (ha : a ∉ xs) : h'.Ns a m := by
  obtain ⟨o, es, ep, ho, hd, r⟩ := hn
  obtain ⟨sl, hs⟩ := x a o ho ha fun vs q => by rw [hd] at q; cases q
  exact ⟨_, es, ep, hs, hd, r⟩
variable {prog : Program} {w : World} {h₀ : Heap} {K : Frag} {p : Program} {loose : List Str} {mean : ExcName → Option Value} {mg mb : Str → Option Value}
/-- enterC0 with the place of the frame's names -/
theorem enterCL {Q E : Value → Shared → Prop} {name qual : Str} {params : Arguments} {body : List Stmt} {scope : Scope} {dV kV doc pm cdv ct oc : Value} {an od : Option Addr} {osl : Array (Option Value)} {f : Addr} {args : List Value} {binds : List (Str × Value)}
    {n : Nat} (hA : Low A (n + 1))
    (X : K.In h₀) (T : Top p loose mean mg mb h₀) (keep : h₀.StaysIn s.heap)
    (ho : K.lookup f = some ⟨oc, od, .func (fnOf name qual params body scope dV kV doc pm an cdv ct), osl⟩) (hcd : codeIn K cdv qual = true)
    (hbind : BindsTo s (fnOf name qual params body scope dV kV doc pm an cdv ct) ⟨args, []⟩ binds) (hloc : ∀ y ∈ binds, scope.names.lookup y.1 = some .local)
    (h : ∀ g L' h₁, s.heap.StaysIn g → s.heap.objs.size ≤ L' → Fr g L' h₁ (fun y => binds.reverse.lookup y) → News g L' h₁ [] → K.In g → Top p loose mean mg mb g → Low (A.deeper (envOf qual scope L' f cdv)) n →
      wpC (model prog w) (A.deeper (envOf qual scope L' f cdv)) (execs body (envOf qual scope L' f cdv))
        (fun fl s' => Q (match fl with | .ret v => v | _ => .none) s') (fun _ _ => False)
        { s with heap := h₁, toks := s.toks + binds.length })
    (hco : scope.isCoroutine = false) (hgen : scope.isGenerator = false) (hk : scope.kind = .function)
    (hcell : ∀ x ∈ scope.names, x.2 ≠ .cell) : wpC (model prog w) A (call (.ref f) args) Q E s := by
  refine wpC_call ?_
  refine codeC_call_def (fd := fnOf name qual params body scope dV kV doc pm an cdv ct) (body := body) (binds := binds) hA.room (keep _ _ (X _ _ ho)) rfl (T.nolimit.keeps keep) (codeRec_of (X.keeps keep) hcd) rfl hbind hcell hloc (fun h₁ hns hk₁ => ?_) hco hgen hk
  exact wpC_mono (h s.heap s.heap.objs.size h₁ (fun _ _ e => e) (Nat.le_refl _) ⟨hns, hk₁, Nat.le_refl _⟩ (fun q hq => nomatch hq) (X.keeps keep) (T.keeps keep) hA.deeper) (fun _ _ q => q) fun _ _ q => q.elim
end
section
variable {w : World} {pv : Program} {loose : List Str} {mean : ExcName → Option Value} {mg mb : Str → Option Value} {h₀ : Heap} {A : Around} {s : Shared} {Q E : Value → Shared → Prop} {fl : List Env}
end
local macro_rules | `(tactic| walk_at "mine c") => `(tactic| (with_reducible refine Mine.c_Try ?_))
section
variable {w : World} {pv : Program} {loose : List Str} {mean : ExcName → Option Value} {mg mb : Str → Option Value} {h₀ : Heap} {A : Around} {s : Shared} {Q E : Value → Shared → Prop} {fl : List Env}
set_option maxHeartbeats 8000000 in
theorem law_falls_c (X : (hd.heap_1 w.params).In h₀) (T : Top pv loose mean mg mb h₀) (keep : h₀.StaysIn s.heap) (hA : Low A 12) (Y : Fly A s fl h₀ []) (hsize : h₀.objs.size ≤ s.heap.objs.size)
    {O : Array UInt8} {to : Tok} (hz : O.size ≤ 100000) (hb : BadId O.toList)
    (hret : ∀ h' tk', h₀.StaysIn h' → s.heap.UpToSlots h' → Q (.bool true) { s with heap := h', toks := tk' }) :
    wpC (model PySem.Challenge.rw_pq0944_01.row.prog w) A (call (.ref 427) [.bytes O to]) Q E s := by
  obtain ⟨ah, ad', af, ag, au⟩ := A
  obtain rfl : ah = none := hA.1
  have hw : Has h₀ s.heap [] := fun q hq => nomatch hq
  have e46 : nsIn (hd.heap_1 w.params) mainGlobals (Str.ofString "PostError") = some (some (.ref 46)) := by k_is
  k_dflt (refine' enterCL (binds := [(Str.ofString "octets", .bytes O to)]) hA X T keep ?k6 ?k7 ?k9 ?kB ?_ ?c2 ?c3 ?c4 ?c5)
  walk_at "mine sides"
  intro g' L' h' KG hLs F' N' X' T' A'
  have st : StopAt 413 := .mk
  have KG' : Hid s.heap [] g' := fun b o e _ => KG b o e
  walk_at "mine go"
  rename_i x d H1 H2 k1 k2 tp h1 tk1 F1 N1 l1
  clear st
  have hdL : @Ne Nat L' d := Ne.symm (N1 _ (.tail _ (.head _))).2.1
  have hn : ∀ b o, s.heap.get? b = some o → b ∉ ([] : List Addr) → b ∉ [d] := by
    intro b o e _ hm
    rcases List.mem_singleton.mp hm with rfl
    have := KG _ _ e
    rw [(N1 _ (.tail _ (.head _))).2.2] at this
    cases this
  refine goC ?_
  refine read_id_f (xs := [d]) X' T' (Fr.keep F1) (by walk_at "mine low") (by walk_at "mine has") (Y.deeper KG' F1 N1 (by walk_at "mine hs2") rfl) (At.start O) hz hb (.head _) ?_
  intro e a0 h2 tk2 hfl hup
  refine wpAny_looks_onW (Around.frames_deeper Y.fr) rfl hfl fun h3 hh3 u3 => ?_
  refine wpAny_landsW hh3 fun h4 hf4 u4 => ?_
  have u14 := (hup.then_ u3).then_ u4
  have F4 : Fr h₀ L' h4 _ := ⟨u14.ns F1.ns (by simpa using hdL), hf4.1, Nat.le_trans hsize hLs⟩
  obtain ⟨oe, he, hc⟩ := hf4.there
  refine wpAny_handleBy_cons (codeAny_handlers_test (name_K F4 X (topRead_of T) e46 ?_)) (by intro q; cases q)
  refine x_matches (X.keeps hf4.1) he hc ?_
  refine codeAny_handlers_suite (lands_againW hf4 fun h5 hf5 u5 => ?_)
  have F5 : Fr h₀ L' h5 _ := F4.of_stays hf5.1 u5
  have u15 := u14.then_ u5
  have fin : ∀ tk, Q (.bool true) { s with heap := h5, toks := tk } := fun tk => hret h5 tk hf5.1 fun b o q hnf =>
    u15 b o (F1.keep _ _ (KG _ _ q)) (hn b o q (by simp)) hnf
  k_steps
  exact fin _
end
-- p36
section
variable {prog : Program} {w : World} {A : Around} {E : Value → Shared → Prop} {s : Shared} {env : Env} {h₀ : Heap} {x : Str} {body : List Stmt} {Q : Flow → Shared → Prop}
/-- what a turn of a loop leaves behind, that keeps one int `y` -/
noncomputable def AccEnd (h₀ : Heap) (L : Addr) (x y : Str) (P : Int → Prop) (m₀ : Str → Option Value) (need : List (Addr × Obj)) (s₁ : Shared) (f : Flow) (s₂ : Shared) : Prop :=
  f = .next ∧ ∃ h' tk m' news' v t, s₂ = { s₁ with heap := h', toks := tk } ∧ Fr h₀ L h' m' ∧ News h₀ L h' news' ∧ (∀ p ∈ need, p ∈ news') ∧ m' y = some (.int v t) ∧ P v ∧ ∀ z, z ≠ x → z ≠ y → m' z = m₀ z
theorem iter_acc {l : Addr} {ol : Obj} {vs : List Value} {ns : List Int} {m₀ : Str → Option Value} {news : List (Addr × Obj)} (y : Str) (P : Nat → Int → Prop) (hxy : y ≠ x)
    (hh : A.handled = none) (hm : (l, ol) ∈ news) (hol : ol = listOf vs.toArray 0) (hi : IntsAre vs ns) (F : Fr h₀ env.locals s.heap m₀) (N : News h₀ env.locals s.heap news) {v₀ : Int} {t₀ : Tok} (hy : m₀ y = some (.int v₀ t₀)) (h0 : P 0 v₀)
    (turn : ∀ i n t v tv s₁ own, i < ns.length → P i v → Fr h₀ env.locals s₁.heap (fun z => if z = x then some (.int n t) else if z = y then some (.int v tv) else m₀ z) → News h₀ env.locals s₁.heap (own ++ news) →
      wpAny (model prog w) A (execs body env) (AccEnd h₀ env.locals x y (P (i + 1)) m₀ (own ++ news) s₁) E s₁)
    (done : ∀ u v t h tk, P ns.length v → Fr h₀ env.locals h (fun z => if z = y then some (.int v t) else if z = x then u else m₀ z) → News h₀ env.locals h news → Q .next { s with heap := h, toks := tk }) :
    wpAny (model prog w) A (pyIter (.ref l)) (fun it s₂ => LoopAtU prog w A h₀ env x body Q E it s₂) E s := by
  subst hol
  have hN := N _ hm
  have hls : s.heap.IsList l vs.toArray := ⟨_, hN.1, rfl, 0, rfl⟩
  have hlt : l < s.heap.objs.size := Heap.lt_size hN.1
  have hne : l ≠ s.heap.objs.size := Nat.ne_of_lt hlt
  refine wpAny_pyIter_list hls ?_
  have W := Walks.list (prog := prog) (w := w) hh s.heap.objs.size l hne vs.toArray
  have hlen : vs.toArray.size = ns.length := by simp [hi.length]
  rw [hlen] at W
  let J : Nat → (Str → Option Value) → List (Addr × Obj) → Prop := fun i m₁ news₁ => news₁ = news ∧ (∃ v t, m₁ y = some (.int v t) ∧ P i v) ∧ ∀ z, z ≠ x → z ≠ y → m₁ z = m₀ z
  refine ⟨_, _, _, ns.length, _, _, m₀, news, J, rfl, W, ?_, ?_, ?_, ⟨⟨_, Heap.get?_push_size _ rfl, rfl, rfl⟩, hls.at fun o e => Heap.get?_push_of_some _ e⟩, F.push _, (fun p hp => ⟨Heap.get?_push_of_some _ (N p hp).1, (N p hp).2⟩), ⟨rfl, ⟨_, _, hy, h0⟩, fun _ _ _ => rfl⟩, ?_, ?_⟩
  · intro hm
    rcases List.mem_cons.mp hm with e | hm
    · exact absurd F.ns.lt (e ▸ Nat.lt_irrefl _)
    · exact absurd (List.mem_singleton.mp hm).symm hN.2.1
  · intro b hb
    rw [List.mem_singleton.mp hb]
    exact next_is_new F
  · intro p hp hI
    exact absurd (Heap.lt_size (N p hp).1) ((List.mem_singleton.mp hI) ▸ Nat.lt_irrefl _)
  · rintro i v m₁ news₁ s₁ own hin hP ⟨rfl, ⟨va, ta, hva, hPa⟩, hJ⟩ hoff _ _ _ _ F₁ N₁
    have hlt' : i < ns.length := hin
    obtain ⟨t, hx⟩ := hi.get i ns[i] (by simp [hlt'])
    have hv : v = .int ns[i] t := by
      have hP' : vs[i]? = some v := by simpa using hP
      rw [hx] at hP'; exact (Option.some.inj hP').symm
    subst hv
    have e : (fun z => if z = x then some (Value.int ns[i] t) else m₁ z) = fun z => if z = x then some (Value.int ns[i] t) else if z = y then some (.int va ta) else m₀ z := by
      funext z
      by_cases h1 : z = x
      · simp [h1]
      · simp only [if_neg h1]
        by_cases h2 : z = y
        · simp [h2, hva]
        · simp only [if_neg h2]; exact hJ z h1 h2
    rw [e] at F₁
    refine wpAny_mono (turn i ns[i] t va ta s₁ own hlt' hPa F₁ N₁) (fun f s₂ p => ?_) fun _ _ e => e
    obtain ⟨rfl, h', tk, m', news', v', t', e', F', N', hn, hm', hP', hJ'⟩ := p
    exact ⟨rfl, h', tk, m', news₁, e', F', fun p hp => N' p (hn p hp), hoff, rfl, ⟨v', t', hm', hP'⟩, hJ'⟩
  · rintro h' tk m' news' F' N' _ ⟨rfl, ⟨v, t, hv, hP⟩, hJ⟩
    refine done (m' x) v t h' tk hP ?_ N'
    have e : (fun z => if z = y then some (Value.int v t) else if z = x then m' x else m₀ z) = m' := by
      funext z
      by_cases h2 : z = y
      · simp [h2, hv]
      · simp only [if_neg h2]
        by_cases h1 : z = x
        · simp [h1]
        · simp only [if_neg h1]; exact (hJ z h1 h2).symm
    rw [e]; exact F'
end
section
variable {prog : Program} {w : World} {A : Around} {E : Value → Shared → Prop} {s : Shared} {env : Env} {h₀ : Heap} {x : Str} {body : List Stmt} {Q : Flow → Shared → Prop}
/-- what a turn of a loop over a range leaves behind -/
noncomputable def GenEnd (h₀ : Heap) (L I : Addr) (oI : Obj) (J : (Str → Option Value) → List (Addr × Obj) → Prop) (s₁ : Shared) (f : Flow) (s₂ : Shared) : Prop :=
  f = .next ∧ ∃ h' tk m' led news', s₂ = { s₁ with heap := h', toks := tk } ∧ Fr h₀ L h' m' ∧ News h₀ L h' led ∧ (I, oI) ∈ led ∧ (∀ p ∈ news', p ∈ led) ∧ (∀ p ∈ news', p.1 ≠ I) ∧ J m' news'
theorem iter_rng {r : Addr} {n : Nat} {t₀ u₀ v₀ : Tok} {m₀ : Str → Option Value} {news : List (Addr × Obj)} (J : Nat → (Str → Option Value) → List (Addr × Obj) → Prop)
    (hh : A.handled = none) (hr : IsRange s.heap r 0 (n : Int) 1 t₀ u₀ v₀) (hn : n ≤ 100) (F : Fr h₀ env.locals s.heap m₀) (N : News h₀ env.locals s.heap news) (h0 : J 0 m₀ news)
    (turn : ∀ i t m₁ news₁ s₁ I oI, i < n → J i m₁ news₁ → (∀ p ∈ news₁, p.1 ≠ I) → Fr h₀ env.locals s₁.heap (fun z => if z = x then some (.int (i : Nat) t) else m₁ z) → News h₀ env.locals s₁.heap ((I, oI) :: news₁) →
      wpAny (model prog w) A (execs body env) (GenEnd h₀ env.locals I oI (J (i + 1)) s₁) E s₁)
    (done : ∀ h' tk m' news', Fr h₀ env.locals h' m' → News h₀ env.locals h' news' → J n m' news' → Q .next { s with heap := h', toks := tk }) :
    wpAny (model prog w) A (pyIter (.ref r)) (fun it s₂ => LoopAtV prog w A h₀ env x body Q E it s₂) E s := by
  have hsz : Builtin.Range.rangeSize 0 (n : Int) 1 = (n : Int) := by rw [rangeSize_one]; split <;> omega
  have hsmall : Builtin.Range.small 0 (n : Int) 1 = true := small_one (by decide) (by decide) (by omega) (by omega)
  refine wpAny_pyIter_range hr hsmall ?_
  have W : Walks prog w A s.heap.objs.size [s.heap.objs.size] [s.heap.objs.size] n (fun i v => i < n ∧ ∃ t, v = .int (0 + i * 1) t)
      (fun i h => IsRangeIter h s.heap.objs.size (0 + (i : Nat) * 1) ((n : Int) - (i : Nat)) 1) := (Walks.range hh _ 0 1 n).bound
  refine ⟨_, _, _, n, _, _, m₀, news, J, rfl, W, ?_, ?_, ?_, (by show IsRangeIter _ _ _ _ _; rw [hsz]; simpa using Heap.get?_push_size _ rfl), F.push _, (fun p hp => ⟨Heap.get?_push_of_some _ (N p hp).1, (N p hp).2⟩), h0, ?_, ?_⟩
  · intro hm
    exact absurd F.ns.lt ((List.mem_singleton.mp hm) ▸ Nat.lt_irrefl _)
  · intro b hb
    rw [List.mem_singleton.mp hb]
    exact next_is_new F
  · intro p hp hI
    exact absurd (Heap.lt_size (N p hp).1) ((List.mem_singleton.mp hI) ▸ Nat.lt_irrefl _)
  · rintro i v m₁ news₁ s₁ own - hi ⟨_, t, rfl⟩ hJ hoff hown1 hown2 hfp st F₁ N₁
    have hI0 : h₀.get? s.heap.objs.size = none := next_is_new F
    obtain ⟨oI, hoI⟩ : ∃ o, s₁.heap.get? s.heap.objs.size = some o := ⟨_, st⟩
    have hmI : (s.heap.objs.size, oI) ∈ own := hfp _ (.head _) hI0 oI hoI
    have hown : ∀ p ∈ own, p = (s.heap.objs.size, oI) := fun p hp => by
      have h1 : p.1 = s.heap.objs.size := List.mem_singleton.mp (hown1 p hp)
      have h2 := hown2 p hp
      rw [h1, hoI] at h2
      exact Prod.ext h1 (Option.some.inj h2).symm
    have N₂ : News h₀ env.locals s₁.heap ((s.heap.objs.size, oI) :: news₁) := fun q hq => by
      rcases List.mem_cons.mp hq with rfl | hq
      · exact N₁ _ (List.mem_append_left _ hmI)
      · exact N₁ _ (List.mem_append_right _ hq)
    have e0 : (0 + (i : Int) * 1) = ((i : Nat) : Int) := by omega
    rw [e0] at F₁
    refine wpAny_mono (turn i t m₁ news₁ s₁ _ oI hi hJ (fun p hp => fun e => hoff p hp (e ▸ .head _)) F₁ N₂) (fun f s₂ p => ?_) fun _ _ e => e
    obtain ⟨rfl, h', tk, m', led, news', e', F', N', hmI', hsub, hne, hJ'⟩ := p
    refine .next ⟨rfl, h', tk, m', news', e', F', fun q hq => ?_, fun p hp hI => hne p hp (List.mem_singleton.mp hI), hJ'⟩
    rcases List.mem_append.mp hq with hq | hq
    · rw [hown q hq]; exact N' _ hmI'
    · exact N' _ (hsub q hq)
  · rintro h' tk m' news' F' N' _ hJ
    exact done h' tk m' news' F' N' hJ
end
noncomputable def keyB : Nat → List UInt8
  | 0 => [110, 97, 109, 101]
  | 1 => [111, 115]
  | 2 => []
  | 3 => [97, 34, 98]
  | _ => [0]
noncomputable def keyO : Nat → List UInt8
  | 0 => [34, 110, 97, 109, 101, 34]
  | 1 => [34, 111, 115, 34]
  | 2 => [34, 34]
  | 3 => [34, 97, 92, 34, 98, 34]
  | _ => [123, 49, 43, 125, 13, 10, 0]
noncomputable def worB : Nat → Option (List UInt8)
  | 0 => none
  | 1 => some []
  | 2 => some [52, 46, 50]
  | 3 => some [78, 73, 76]
  | 4 => some [92]
  | _ => some [228, 13, 10]
noncomputable def worO : Nat → List UInt8
  | 0 => [78, 73, 76]
  | 1 => [34, 34]
  | 2 => [34, 52, 46, 50, 34]
  | 3 => [34, 78, 73, 76, 34]
  | 4 => [34, 92, 92, 34]
  | _ => [123, 51, 43, 125, 13, 10, 228, 13, 10]
theorem keyO_len : ∀ j, (keyO j).length ≤ 10
  | 0 | 1 | 2 | 3 | _ + 4 => by simp [keyO]
theorem worO_len : ∀ j, (worO j).length ≤ 10
  | 0 | 1 | 2 | 3 | 4 | _ + 5 => by simp [worO]
noncomputable abbrev keyT (j : Nat) (u1 u2 : Tok) : Obj := { cls := .type "tuple", data := .seq #[.bytes (keyB j).toArray u1, .bytes (keyO j).toArray u2] }
noncomputable abbrev worT (j : Nat) (u1 u2 : Tok) : Obj := { cls := .type "tuple", data := .seq #[nval (worB j) u1, .bytes (worO j).toArray u2] }
noncomputable abbrev zOf (z : Nat × Nat) : PairV := (keyB z.1, worB z.2)
noncomputable abbrev toldA (z : Nat × Nat) : Array UInt8 := (keyO z.1).toArray ++ #[32] ++ (worO z.2).toArray
section
variable {prog : Program} {w : World} {A : Around} {E : Value → Shared → Prop} {s : Shared} {g : Heap} {L : Addr} {m : Str → Option Value} {led : List (Addr × Obj)}
theorem BytesAre.snoc {vs : List Value} {ps : List (Array UInt8)} (h : BytesAre vs ps) (p : Array UInt8) (t : Tok) : BytesAre (vs ++ [.bytes p t]) (ps ++ [p]) := by
  induction h with
  | nil => exact .cons _ _ .nil
  | cons _ _ _ ih => exact .cons _ _ ih
theorem tup_led {value slice : Expr} {t : Addr} {l : List Value} {k : Int} {u : Tok} {x : Value} {Q : Value → Shared → Prop} (N : News g L s.heap led) (hm : (t, { cls := .type "tuple", data := .seq l.toArray }) ∈ led)
    (h0 : 0 ≤ k) (hx : l[k.toNat]? = some x) (hk : k < 2 ^ 63) (h : Q x s)
    (hs : subscripted slice false (.ref t) (.int k u) = operate [.ref t, .int k u] (getItem (.ref t) (.int k u)) := by with_unfolding_all rfl) :
    wpAny (model prog w) A (subscriptTail value slice (.ref t) (.int k u)) Q E s := by
  refine item_tupleT (j := k.toNat) (l := l) ⟨_, (N _ hm).1, rfl, _, rfl⟩ (by omega) hk ?_ hx h hs
  have hlt : k.toNat < l.length := by
    rcases Nat.lt_or_ge k.toNat l.length with h | h
    · exact h
    · rw [List.getElem?_eq_none h] at hx; cases hx
  have h1 : ¬ k < 0 := by omega
  unfold seqIndex?
  simp only [h1, if_false]
  rw [if_pos (by simp only [Bool.and_eq_true, decide_eq_true_eq]; omega)]
theorem pick_led {value slice : Expr} {l : Addr} {vs : List Value} {c : Nat} {k : Int} {u : Tok} {Q : Value → Shared → Prop} (N : News g L s.heap led) (hm : (l, listOf vs.toArray c) ∈ led)
    (h0 : 0 ≤ k) (hk : k < 2 ^ 63) {v : Value} (hx : vs[k.toNat]? = some v) (h : Q v s)
    (hs : subscripted slice false (.ref l) (.int k u) = operate [.ref l, .int k u] (getItem (.ref l) (.int k u)) := by with_unfolding_all rfl) :
    wpAny (model prog w) A (subscriptTail value slice (.ref l) (.int k u)) Q E s := by
  have hl : s.heap.IsList l vs.toArray := ⟨_, (N _ hm).1, rfl, _, rfl⟩
  exact tail_any hl.typeIs slot_list_getitem.lookup (wpAny_getItem_list hl h0 hk (x := v) (by simpa using hx) h) hs
end
/-- what the turns of the picks have made so far -/
noncomputable def PickJ (m₀ : Str → Option Value) (lp lt : Addr) (st : List (Addr × Obj)) (i : Nat) (m₁ : Str → Option Value) (news₁ : List (Addr × Obj)) : Prop :=
  ∃ (l : Int) (t : Tok) (tups : List (Addr × Obj)) (tv : List Value) (zs : List (Nat × Nat)), 0 ≤ l ∧ m₁ (Str.ofString "left") = some (.int l t) ∧
    (∀ z, z ≠ Str.ofString "left" → z ≠ Str.ofString "key" → z ≠ Str.ofString "worth" → z ≠ Str.ofString "turn" → m₁ z = m₀ z) ∧
    news₁ = (lp, listOf (tups.map fun q : Addr × Obj => Value.ref q.1).toArray i) :: (lt, listOf tv.toArray i) :: (st ++ tups) ∧ TupsAre tups (zs.map zOf) ∧ BytesAre tv (zs.map toldA) ∧ zs.length = i ∧
    (∀ z ∈ zs, z.1 < 5 ∧ z.2 < 6) ∧ (∀ q ∈ tups, q.1 ≠ lp) ∧ ∀ q ∈ tups, q.1 ≠ lt
-- p36b
theorem str_a : Str1 [34, 97, 34] [97] := .inl ⟨rfl, by
  intro c hc
  rcases List.mem_singleton.mp hc with rfl
  exact ⟨by decide, by decide, by decide +kernel⟩⟩
theorem str_b : Str1 [34, 98, 34] [98] := .inl ⟨rfl, by
  intro c hc
  rcases List.mem_singleton.mp hc with rfl
  exact ⟨by decide, by decide, by decide +kernel⟩⟩
theorem no_atom {c : UInt8} {r : List UInt8} (h : isAtom c = false) : ∀ c' r', c :: r = c' :: r' → isAtom c' = false := by
  intro c' r' e
  cases e
  exact h
theorem no_atom0 : ∀ c' r', ([] : List UInt8) = c' :: r' → isAtom c' = false := by
  intro c' r' e
  cases e
theorem bad0 : BadId [] := .sp (by decide)
theorem bad1 : BadId [32] := .nstr (t := []) (r := []) (v := -1) (.inl rfl) no_atom0 rfl (by decide) (by decide) (by decide)
theorem bad2 : BadId [32, 120] := .nstr (t := [120]) (r := []) (v := 120) (.inr rfl) no_atom0 rfl (by decide) (by decide) (by decide)
theorem bad3 : BadId [32, 34, 97, 34] := .some (t := [34, 97, 34]) (r := []) str_a no_atom0
theorem bad4 : BadId [32, 40, 34, 97, 34, 41] := .loop (es := []) (r := [34, 97, 34, 41]) (fun _ h => nomatch h) (by decide) (fun h => absurd rfl h) (by decide) (.sp0 (tk := [34, 97, 34]) (r := [41]) str_a (by decide))
theorem bad5 : BadId [32, 40, 97, 32, 34, 98, 34, 41] := .loop (es := []) (r := [97, 32, 34, 98, 34, 41]) (fun _ h => nomatch h) (by decide) (fun h => absurd rfl h) (by decide) (.str0 (v := 97) rfl (by decide) (by decide))
theorem pair_ab : Pair1 [34, 97, 34, 32, 34, 98, 34] ([97], some [98]) := ⟨[34, 97, 34], [34, 98, 34], rfl, str_a, str_b⟩
theorem bad6 : BadId [32, 40, 34, 97, 34, 32, 34, 98, 34, 32, 41] := .loop (es := [([34, 97, 34, 32, 34, 98, 34], ([97], some [98]))]) (r := [32, 41])
  (fun e h => by rcases List.mem_singleton.mp h with rfl; exact pair_ab) (by decide) (fun _ => no_atom (by decide +kernel)) (by decide) (.str1 (l := [41]) (v := 41) (by decide) rfl (by decide) (by decide))
theorem bad7 : BadId [32, 40, 34, 97, 34, 32, 34, 98, 34, 34, 99, 34, 32, 78, 73, 76, 41] := .loop (es := [([34, 97, 34, 32, 34, 98, 34], ([97], some [98]))]) (r := [34, 99, 34, 32, 78, 73, 76, 41])
  (fun e h => by rcases List.mem_singleton.mp h with rfl; exact pair_ab) (by decide) (fun _ => no_atom (by decide +kernel)) (by decide) (.sp1 (by decide) (by decide))
theorem bad8 : BadId [32, 40, 34, 97, 34, 32, 120, 41] := .loop (es := []) (r := [34, 97, 34, 32, 120, 41]) (fun _ h => nomatch h) (by decide) (fun h => absurd rfl h) (by decide)
  (.nstr0 (tk := [34, 97, 34]) (t := [120]) (r := [41]) (v := 120) str_a (.inr rfl) (no_atom (by decide +kernel)) rfl (by decide) (by decide))
/-- what is told without the plus of a literal that does not wait -/
noncomputable def keyQ : Nat → List UInt8
  | 0 => [34, 110, 97, 109, 101, 34]
  | 1 => [34, 111, 115, 34]
  | 2 => [34, 34]
  | 3 => [34, 97, 92, 34, 98, 34]
  | _ => [123, 49, 125, 13, 10, 0]
noncomputable def worQ : Nat → List UInt8
  | 0 => [78, 73, 76]
  | 1 => [34, 34]
  | 2 => [34, 52, 46, 50, 34]
  | 3 => [34, 78, 73, 76, 34]
  | 4 => [34, 92, 92, 34]
  | _ => [123, 51, 125, 13, 10, 228, 13, 10]
noncomputable def qcB (c : UInt8) : Bool := decide (1 ≤ (c.toNat : Int)) && (decide ((c.toNat : Int) ≤ 127) && !((#[13, 10] : Array UInt8).contains c))
theorem qcs (l : List UInt8) (h : l.all qcB = true) : ∀ c ∈ l, Qc c := fun c hc => by
  have := List.all_eq_true.mp h c hc
  unfold qcB at this
  simp only [Bool.and_eq_true, decide_eq_true_eq, Bool.not_eq_true'] at this
  exact this
theorem key_str : ∀ k, Str1 (keyO k) (keyB k)
  | 0 => .inl ⟨rfl, qcs _ (by decide +kernel)⟩
  | 1 => .inl ⟨rfl, qcs _ (by decide +kernel)⟩
  | 2 => .inl ⟨rfl, qcs _ (by decide +kernel)⟩
  | 3 => .inl ⟨rfl, qcs _ (by decide +kernel)⟩
  | _ + 4 => .inr (.inl ⟨true, 0, rfl, rfl⟩)
theorem keyQ_str : ∀ k, Str1 (keyQ k) (keyB k)
  | 0 => .inl ⟨rfl, qcs _ (by decide +kernel)⟩
  | 1 => .inl ⟨rfl, qcs _ (by decide +kernel)⟩
  | 2 => .inl ⟨rfl, qcs _ (by decide +kernel)⟩
  | 3 => .inl ⟨rfl, qcs _ (by decide +kernel)⟩
  | _ + 4 => .inr (.inl ⟨false, 0, rfl, rfl⟩)
theorem wor_str : ∀ k, StrN (worO k) (worB k)
  | 0 => .inl rfl
  | 1 => .inl ⟨rfl, qcs _ (by decide +kernel)⟩
  | 2 => .inl ⟨rfl, qcs _ (by decide +kernel)⟩
  | 3 => .inl ⟨rfl, qcs _ (by decide +kernel)⟩
  | 4 => .inl ⟨rfl, qcs _ (by decide +kernel)⟩
  | _ + 5 => .inr (.inr ⟨true, 228, 13, 10, rfl, rfl⟩)
theorem worQ_str : ∀ k, StrN (worQ k) (worB k)
  | 0 => .inl rfl
  | 1 => .inl ⟨rfl, qcs _ (by decide +kernel)⟩
  | 2 => .inl ⟨rfl, qcs _ (by decide +kernel)⟩
  | 3 => .inl ⟨rfl, qcs _ (by decide +kernel)⟩
  | 4 => .inl ⟨rfl, qcs _ (by decide +kernel)⟩
  | _ + 5 => .inr (.inr ⟨false, 228, 13, 10, rfl, rfl⟩)
noncomputable abbrev toldE (z : Nat × Nat) : List UInt8 × PairV := (keyO z.1 ++ (32 :: worO z.2), zOf z)
noncomputable abbrev toldQ (z : Nat × Nat) : List UInt8 × PairV := (keyQ z.1 ++ (32 :: worQ z.2), zOf z)
theorem toldE_pair (z : Nat × Nat) : Pair1 (toldE z).1 (toldE z).2 := ⟨keyO z.1, worO z.2, rfl, key_str _, wor_str _⟩
theorem toldQ_pair (z : Nat × Nat) : Pair1 (toldQ z).1 (toldQ z).2 := ⟨keyQ z.1, worQ z.2, rfl, keyQ_str _, worQ_str _⟩
theorem key_wr : ∀ k, Wr (keyB k).toArray (keyO k).toArray
  | 0 => .inl ⟨by decide +kernel, rfl⟩
  | 1 => .inl ⟨by decide +kernel, rfl⟩
  | 2 => .inl ⟨by decide +kernel, rfl⟩
  | 3 => .inl ⟨by decide +kernel, rfl⟩
  | _ + 4 => .inr (.inl ⟨rfl, rfl⟩)
theorem wor_wr (u : Tok) : ∀ k, WrN (nval (worB k) u) (worO k).toArray
  | 0 => .inl ⟨rfl, rfl⟩
  | 1 => .inr ⟨_, u, rfl, .inl ⟨by decide +kernel, rfl⟩, by decide⟩
  | 2 => .inr ⟨_, u, rfl, .inl ⟨by decide +kernel, rfl⟩, by decide⟩
  | 3 => .inr ⟨_, u, rfl, .inl ⟨by decide +kernel, rfl⟩, by decide⟩
  | 4 => .inr ⟨_, u, rfl, .inl ⟨by decide +kernel, rfl⟩, by decide⟩
  | _ + 5 => .inr ⟨_, u, rfl, .inr (.inr ⟨rfl, rfl⟩), by decide⟩
theorem joined_go (sep : Array UInt8) : ∀ (l : List (Array UInt8)) (n : Nat) (out : Array UInt8), 0 < n → ((l.zipIdx n).foldl (fun out (x : Array UInt8 × Nat) => (if x.2 > 0 then out ++ sep else out) ++ x.1) out).toList = out.toList ++ l.flatMap fun p => sep.toList ++ p.toList
  | [], _, _, _ => by simp
  | p :: l, n, out, h => by
    rw [List.zipIdx_cons, List.foldl_cons, joined_go sep l (n + 1) _ (Nat.succ_pos n)]
    simp [h]
theorem joined_cons (sep p : Array UInt8) (l : List (Array UInt8)) : (Builtin.Bytes.joined sep (p :: l)).toList = p.toList ++ l.flatMap fun p => sep.toList ++ p.toList := by
  unfold Builtin.Bytes.joined
  rw [List.zipIdx_cons, List.foldl_cons]
  have := joined_go sep l (0 + 1) ((if 0 > 0 then #[] ++ sep else #[]) ++ p) (Nat.succ_pos 0)
  simpa using this
theorem pbody_flat : ∀ es : List (List UInt8 × PairV), pbody [32] es = es.flatMap fun e => 32 :: e.1
  | [] => rfl
  | e :: es => by
    show [32] ++ (e.1 ++ pbody [32] es) = _
    rw [pbody_flat es]
    simp
theorem toldA_list (z : Nat × Nat) : (toldA z).toList = (toldE z).1 := by simp [toldA, toldE]
theorem whole_list (zs : List (Nat × Nat)) : (#[32, 40] ++ Builtin.Bytes.joined #[32] (zs.map toldA) ++ #[41] : Array UInt8).toList = 32 :: 40 :: (pbody [] (zs.map toldE) ++ [41]) := by
  cases zs with
  | nil => rfl
  | cons z zs =>
    rw [Array.toList_append, Array.toList_append, List.map_cons, joined_cons, toldA_list]
    have e : ((zs.map toldA).flatMap fun p => [32] ++ p.toList) = pbody [32] (zs.map toldE) := by
      rw [pbody_flat, List.flatMap_map, List.flatMap_map]
      congr 1
      funext z
      rw [toldA_list]
      rfl
    rw [show ((zs.map toldA).flatMap fun p => (#[32] : Array UInt8).toList ++ p.toList) = pbody [32] (zs.map toldE) from e]
    simp [pbody]
theorem toldA_size (z : Nat × Nat) : (toldA z).size ≤ 30 := by
  have h1 := keyO_len z.1
  have h2 := worO_len z.2
  simp only [toldA, Array.size_append, List.size_toArray, List.length_cons, List.length_nil]
  omega
theorem toldA_sizes (zs : List (Nat × Nat)) : ∀ p ∈ zs.map toldA, p.size ≤ 30 := by
  intro p hp
  obtain ⟨z, _, rfl⟩ := List.mem_map.mp hp
  exact toldA_size z
theorem joined_small (zs : List (Nat × Nat)) (h : zs.length ≤ 100) : (Builtin.Bytes.joined #[32] (zs.map toldA)).size ≤ 10000 := by
  have := joined_size_le #[32] (zs.map toldA) 30 (toldA_sizes zs)
  rw [List.length_map] at this
  have e : (#[32] : Array UInt8).size = 1 := rfl
  rw [e] at this
  omega
theorem foldl_small (zs : List (Nat × Nat)) (h : zs.length ≤ 100) : (zs.map toldA).foldl (· + ·.size) ((#[32] : Array UInt8).size * ((zs.map toldA).length - 1)) ≤ 1000000 := by
  have := foldl_size_le (zs.map toldA) ((#[32] : Array UInt8).size * ((zs.map toldA).length - 1)) 30 (toldA_sizes zs)
  have e : (#[32] : Array UInt8).size = 1 := rfl
  rw [e] at this ⊢
  rw [List.length_map] at this ⊢
  omega
theorem keyB_len : ∀ k, (keyB k).toArray.size ≤ 1000
  | 0 | 1 | 2 | 3 | _ + 4 => by simp [keyB]
-- p36c
section
variable {w : World} {pv : Program} {loose : List Str} {mean : ExcName → Option Value} {mg mb : Str → Option Value} {g : Heap} {A : Around} {s : Shared} {E : Value → Shared → Prop} {q : Str} {sc scope : Scope} {L a C : Addr} {cd : Value} {m mc : Str → Option Value} {x : Str} {p1 p2 p3 p4 : Pos}
theorem falls_test (X : (hd.heap_1 w.params).In g) (T : Top pv loose mean mg mb g) (hA : Low A 12) (hfr : A.frames = some [envOf q sc L a cd]) (hks : sc.kind = .function) (hkc : scope.kind = .function)
    (hxl : scope.names.lookup x = some .local) (hfl : (compEnv scope C (envOf q sc L a cd)).kindOf (Str.ofString "_law_falls") = some .globalImplicit) (hxd : (x == ("__debug__" : Str)) = false)
    (F : Fr g L s.heap m) (hC : s.heap.Ns C mc) {O : Array UInt8} {to : Tok} (hv : mc x = some (.bytes O to)) (hz : O.size ≤ 100000) (hb : BadId O.toList) :
    wpC (model PySem.Challenge.rw_pq0944_01.row.prog w) A (isTrue (.UnaryOp .Not (.Call (.Name (Str.ofString "_law_falls") p1) [.Name x p2] [] p3) p4) (compEnv scope C (envOf q sc L a cd)) (eval (.UnaryOp .Not (.Call (.Name (Str.ofString "_law_falls") p1) [.Name x p2] [] p3) p4) (compEnv scope C (envOf q sc L a cd))))
      (fun ok s' => ok = false ∧ ∃ h' tk, s' = { s with heap := h', toks := tk } ∧ (∀ b o, s.heap.get? b = some o → b ≠ L → h'.get? b = some o) ∧ ∃ m', h'.Ns L m') E s := by
  have e427 : nsIn (hd.heap_1 w.params) mainGlobals (Str.ofString "_law_falls") = some (some (.ref 427)) := by k_is
  have hgL : g.get? L = none := kts_self F
  have st : g.StaysIn (hideAll s.heap [L]) := fun b o e => hideAll_get _ (F.keep b o e) (fun hm => by
    rw [List.mem_singleton.mp hm, hgL] at e
    cases e)
  obtain ⟨oL, es, ep, hL, hdL, rL⟩ := F.ns
  have nL : s.heap.Ns L m := ⟨oL, es, ep, hL, hdL, rL⟩
  refine c_isTrue_not (c_isTrue_plain (c_Call (nameG_K F X (topRead_of T) e427 ?_ rfl hkc hfl (by decide))))
  refine c_callWith (c_spliced_more (ofAny (blk_local hkc hxl hC hv ?_ hxd)))
  refine c_spliced_none ⟨Kpt.ofK (by k_is) (X.keeps F.keep), ?_⟩
  refine law_falls_c (h₀ := hideAll s.heap [L]) (X.keeps st) (T.keeps st) (fun b o e => of_hideAll _ e) hA ⟨hfr, ⟨by show sc.kind ≠ .module; rw [hks]; decide, ⟨L, oL, rfl, hideAll_none _ (.head _), hL, fun vs e => by rw [hdL] at e; cases e⟩, trivial⟩, fun b o e => of_hideAll _ e, fun _ h => nomatch h⟩ (Nat.le_of_eq (hideAll_size _ _)) hz hb fun h' tk' k1 k2 => ?_
  refine wpAny_truthy_bool ⟨rfl, h', tk', rfl, fun b o e hne => k1 b o (hideAll_get _ e fun hm => hne (List.mem_singleton.mp hm)), m, k2.ns nL⟩
/-- between the turns of the last comprehension -/
noncomputable def FInv (g : Heap) (L C D I ax : Addr) (items : Array Value) (i : Nat) (h : Heap) : Prop :=
  g.StaysIn h ∧ (∃ m, h.Ns L m) ∧ (∃ m, h.Ns C m) ∧ h.PlainList D #[] ∧ h.IsListIter I ax i ∧ h.IsList ax items
theorem FInv.but {L C D I ax : Addr} {items : Array Value} {i : Nat} {h h' : Heap} (x : FInv g L C D I ax items i h) (hg : g.get? L = none) (n1 : C ≠ L) (n2 : D ≠ L) (n3 : I ≠ L) (n4 : ax ≠ L) (k : ∀ b o, h.get? b = some o → b ≠ L → h'.get? b = some o) (hL : ∃ m, h'.Ns L m) : FInv g L C D I ax items i h' := by
  obtain ⟨x1, x2, ⟨mC, x3⟩, x4, x5, x6⟩ := x
  exact ⟨fun b o e => k b o (x1 b o e) (fun q => by rw [q, hg] at e; cases e), hL, ⟨mC, x3.at' fun o e => k _ o e n1⟩, x4.at fun o e => k _ o e n2, x5.at fun o e => k _ o e n3, x6.at fun o e => k _ o e n4⟩
variable {elt iter : Expr} {pt pos : Pos}
theorem falls_loop (X : (hd.heap_1 w.params).In g) (T : Top pv loose mean mg mb g) (hA : Low A 12) (hfr : A.frames = some [envOf q sc L a cd]) (hks : sc.kind = .function) (hkc : scope.kind = .function)
    (hxl : scope.names.lookup x = some .local) (hfl : (compEnv scope C (envOf q sc L a cd)).kindOf (Str.ofString "_law_falls") = some .globalImplicit) (hxd : (x == ("__debug__" : Str)) = false)
    {D I ax : Addr} {items : Array Value} {R : Result → Shared → Prop} (hab : g.objs.size ≤ L) (hgL : g.get? L = none) (hgC : g.get? C = none) (hCL : C ≠ L) (hDL : D ≠ L) (hIL : I ≠ L) (haL : ax ≠ L) (hDC : D ≠ C) (hIC : I ≠ C) (haC : ax ≠ C) (hgI : g.get? I = none) (hDI : D ≠ I) (hCI : C ≠ I) (haI : ax ≠ I)
    (hit : ∀ (i : Nat) (v : Value), items[i]? = some v → ∃ (O : Array UInt8) (to : Tok), v = Value.bytes O to ∧ O.size ≤ 100000 ∧ BadId O.toList)
    (h0 : FInv g L C D I ax items 0 s.heap)
    (hR : ∀ h' tk, FInv g L C D I ax items items.size h' ∨ (g.StaysIn h' ∧ (∃ m, h'.Ns L m) ∧ (∃ m, h'.Ns C m) ∧ h'.PlainList D #[]) → R (.ok .next) { s with heap := h', toks := tk }) :
    codeC (model PySem.Challenge.rw_pq0944_01.row.prog w) A (.compLoop (.ListComp elt [⟨.Name x pt, iter, [.UnaryOp .Not (.Call (.Name (Str.ofString "_law_falls") p1) [.Name x p2] [] p3) p4], 0⟩] scope pos) 0 (.ref I) (.ref D) (compEnv scope C (envOf q sc L a cd))) R s := by
  have W := Walks.list (prog := PySem.Challenge.rw_pq0944_01.row.prog) (w := w) hA.1 I ax haI items
  refine codeC_loop rfl rfl (fun k s' => ∃ i h tk, s' = { s with heap := h, toks := tk } ∧ i ≤ items.size ∧ k = items.size - i ∧ FInv g L C D I ax items i h) ?_ items.size ⟨0, s.heap, s.toks, rfl, Nat.zero_le _, by simp, h0⟩
  rintro k s' ⟨i, h, tk, rfl, hin, rfl, hJ⟩
  rw [Around.under_of_weight rfl]
  show wpC _ _ ((compTurn (.ListComp elt [⟨.Name x pt, iter, [.UnaryOp .Not (.Call (.Name (Str.ofString "_law_falls") p1) [.Name x p2] [] p3) p4], 0⟩] scope pos) 0 (.ref I) (.ref D) (compEnv scope C (envOf q sc L a cd))).onRaise (fun x => do noteFrame x (compEnv scope C (envOf q sc L a cd)); theTreesLotGoes x)) _ _ _
  refine c_noted (wpC_mono (E := NoE) ?_ (fun _ _ q => q) fun _ _ q => q.elim)
  rw [compTurn_one]
  refine wpC_at (wpC_any ?_)
  obtain ⟨j1, ⟨mL, j2⟩, ⟨mC, j3⟩, j4, j5, j6⟩ := hJ
  by_cases hlt : i < items.size
  · refine W.item i _ _ _ hlt ⟨j5, j6⟩ fun v h₁ tk₁ hPv hst₁ hk₁ => ?_
    obtain ⟨O, to, rfl, hz, hb⟩ := hit i v hPv
    have k1 : ∀ b o, b ≠ I → h.get? b = some o → h₁.get? b = some o := fun b o hne e => hk₁ b o (fun hm => hne (List.mem_singleton.mp hm)) e
    refine wpC_any (wpAny_bind (wpAny_of_eq (a := ()) rfl ?_))
    refine assign_Name (wpAny_storeName_local (env := compEnv scope C (envOf q sc L a cd)) hxl (j3.at' fun o e => k1 _ o hCI e) (fun h₂ hn₂ hs₂ => ?_) (by show (scope.kind == .class || (scope.kind == .module && _)) = false; rw [hkc]; rfl))
    have k2 : ∀ b o, b ≠ I → b ≠ C → h.get? b = some o → h₂.get? b = some o := fun b o n1 n2 e => hs₂.extBut b o n2 (k1 b o n1 e)
    have F₂ : Fr g L h₂ mL := ⟨j2.at' fun o e => k2 _ o (Ne.symm hIL) (Ne.symm hCL) e, fun b o e => k2 b o (fun z => by rw [z, hgI] at e; cases e) (fun z => by rw [z, hgC] at e; cases e) (j1 b o e), hab⟩
    rw [List.forIn_cons]
    refine wpC_bind (wpC_bind ?_)
    simp only [if_true]
    refine wpC_bind (wpC_mono (falls_test X T hA hfr hks hkc hxl hfl hxd F₂ hn₂ (O := O) (to := to) (if_pos rfl) hz hb) (fun ok s₃ h₃ => ?_) fun _ _ q => q)
    obtain ⟨rfl, h₃, tk₃, rfl, hk₃, hL₃⟩ := h₃
    refine wpC_pure ?_
    dsimp only
    rw [List.forIn_nil]
    refine wpC_pure ?_
    refine wpC_false rfl (wpC_pure ⟨rfl, items.size - (i + 1), by omega, i + 1, h₃, _, rfl, hlt, rfl, ?_⟩)
    refine FInv.but (h := h₂) ⟨F₂.keep, ⟨_, F₂.ns⟩, ⟨_, hn₂⟩, j4.at fun o e => k2 _ o hDI hDC e, hst₁.1.at fun o e => hs₂.extBut _ o hIC e, j6.at fun o e => k2 _ o haI haC e⟩ hgL hCL hDL hIL haL hk₃ hL₃
  · have hii : i = items.size := by omega
    subst hii
    refine W.done _ _ _ ⟨j5, j6⟩ fun h₁ tk₁ hk₁ => ?_
    have k1 : ∀ b o, b ≠ I → h.get? b = some o → h₁.get? b = some o := fun b o hne e => hk₁ b o (fun hm => hne (List.mem_singleton.mp hm)) e
    exact wpC_pure (hR h₁ tk₁ (.inr ⟨fun b o e => k1 b o (fun z => by rw [z, hgI] at e; cases e) (j1 b o e), ⟨mL, j2.at' fun o e => k1 _ o (Ne.symm hIL) e⟩, ⟨mC, j3.at' fun o e => k1 _ o hCI e⟩, j4.at fun o e => k1 _ o hDI e⟩))
theorem c_falls_comp (X : (hd.heap_1 w.params).In g) (T : Top pv loose mean mg mb g) (hA : Low A 12) (hfr : A.frames = some [envOf q sc L a cd]) (hks : sc.kind = .function) (hkc : scope.kind = .function)
    (hxl : scope.names.lookup x = some .local) (hfl : ∀ C, (compEnv scope C (envOf q sc L a cd)).kindOf (Str.ofString "_law_falls") = some .globalImplicit) (hxd : (x == ("__debug__" : Str)) = false)
    (hfree : ∀ z ∈ scope.names, z.2 ≠ .free) (hcell : ∀ z ∈ scope.names, z.2 ≠ .cell) (hnames : ∀ z ∈ scope.names, z.2 = .local → scope.names.lookup z.1 = some .local)
    {y : Str} {pb : Pos} (hyl : (envOf q sc L a cd).kindOf y = some .local) (hyd : (y == ("__debug__" : Str)) = false)
    (F : Fr g L s.heap m) {ax : Addr} {items : Array Value} (hym : m y = some (.ref ax)) (hls : s.heap.IsList ax items) (haL : ax ≠ L)
    (hit : ∀ (i : Nat) (v : Value), items[i]? = some v → ∃ (O : Array UInt8) (to : Tok), v = Value.bytes O to ∧ O.size ≤ 100000 ∧ BadId O.toList) {Q : Value → Shared → Prop}
    (hQ : ∀ D h' tk m', Fr g L h' m' → h'.PlainList D #[] → g.get? D = none → D ≠ L → Q (.ref D) { s with heap := h', toks := tk }) :
    wpC (model PySem.Challenge.rw_pq0944_01.row.prog w) A (eval (.ListComp elt [⟨.Name x pt, .Name y pb, [.UnaryOp .Not (.Call (.Name (Str.ofString "_law_falls") p1) [.Name x p2] [] p3) p4], 0⟩] scope pos) (envOf q sc L a cd)) Q E s := by
  have hax : @LT.lt Nat _ ax s.heap.objs.size := by obtain ⟨_, e, _⟩ := hls; exact Heap.lt_size e
  have hLs : @LT.lt Nat _ L s.heap.objs.size := F.ns.lt
  have hgL : g.get? L = none := kts_self F
  have fresh : ∀ b, s.heap.objs.size ≤ b → g.get? b = none := fun b hb => by
    cases e : g.get? b with
    | none => rfl
    | some o => exact absurd (Heap.lt_size (F.keep _ _ e)) (Nat.not_lt.mpr hb)
  rw [eval_ListComp]
  refine c_comprehension (Q := Q) rfl (by intro _; rfl) hfree hkc hnames ?_
  refine wpAny_Name (wpAny_loadName_local hks hyl F.ns hym ?_) hyd
  refine wpAny_pyIter_list hls ?_
  refine wpAny_newObj_type (wpAny_newFunctionEnv hcell (by intro y hy; simp at hy) (fun h₁ hns₁ hsb₁ => ?_) hkc)
  dsimp only at hns₁ hsb₁ ⊢
  generalize hH1 : s.heap.push _ = H1 at hns₁ hsb₁ ⊢
  have s1 : H1.objs.size = s.heap.objs.size + 1 := by rw [← hH1, Heap.size_push]
  generalize hH2 : H1.push _ = H2 at hns₁ hsb₁ ⊢
  have s2 : H2.objs.size = s.heap.objs.size + 2 := by rw [← hH2, Heap.size_push, s1]
  have old1 : ∀ b o, H2.get? b = some o → b ≠ H2.objs.size → h₁.get? b = some o := fun b o e hne => hsb₁.extBut b o hne (Heap.get?_push_of_some _ e)
  have old : ∀ b o, s.heap.get? b = some o → h₁.get? b = some o := fun b o e => old1 b o (hH2 ▸ Heap.get?_push_of_some _ (hH1 ▸ Heap.get?_push_of_some _ e)) (by have h3 : @LT.lt Nat _ b s.heap.objs.size := Heap.lt_size e; show @Ne Nat _ _; omega)
  have hI : h₁.IsListIter s.heap.objs.size ax 0 := ⟨_, old1 _ _ (hH2 ▸ Heap.get?_push_of_some _ (hH1 ▸ Heap.get?_push_size _ rfl)) (by rw [s2]; exact Nat.ne_of_lt (by omega)), rfl, rfl⟩
  have hD : h₁.PlainList H1.objs.size #[] := ⟨_, old1 _ _ (hH2 ▸ Heap.get?_push_size _ rfl) (by rw [s1, s2]; exact Nat.ne_of_lt (by omega))⟩
  have W := Walks.list (prog := PySem.Challenge.rw_pq0944_01.row.prog) (w := w) hA.1 s.heap.objs.size ax (Nat.ne_of_lt hax) items
  have n1 : @Ne Nat H2.objs.size L := by omega
  have n2 : @Ne Nat H1.objs.size L := by omega
  have n3 : @Ne Nat s.heap.objs.size L := by omega
  have n4 : @Ne Nat H1.objs.size H2.objs.size := by omega
  have n5 : @Ne Nat s.heap.objs.size H2.objs.size := by omega
  have n6 : @Ne Nat ax H2.objs.size := by omega
  have n7 : @Ne Nat H1.objs.size s.heap.objs.size := by omega
  have n8 : @Ne Nat H2.objs.size s.heap.objs.size := by omega
  have n9 : @Ne Nat ax s.heap.objs.size := by omega
  have f1 : g.get? H2.objs.size = none := fresh _ (by omega)
  have f2 : g.get? H1.objs.size = none := fresh _ (by omega)
  have hF : FInv g L H2.objs.size H1.objs.size s.heap.objs.size ax items 0 h₁ := ⟨fun b o e => old b o (F.keep b o e), ⟨m, F.ns.at' fun o e => old _ o e⟩, ⟨_, hns₁⟩, hD, hI, hls.at fun o e => old _ o e⟩
  refine codeC_compStart (falls_loop X T hA hfr hks hkc hxl (hfl _) hxd F.above hgL f1 n1 n2 n3 haL n4 n5 n6 (fresh _ (Nat.le_refl _)) n7 n8 n9 hit hF ?_) fun Q' hQ' => W.self 0 _ _ _ ⟨hI, hls.at fun o e => old _ o e⟩ hQ'
  intro h' tk hh
  have key : g.StaysIn h' ∧ (∃ m, h'.Ns L m) ∧ (∃ m, h'.Ns H2.objs.size m) ∧ h'.PlainList H1.objs.size #[] := by
    rcases hh with ⟨a1, a2, a3, a4, _⟩ | hh
    · exact ⟨a1, a2, a3, a4⟩
    · exact hh
  obtain ⟨a1, ⟨mL, a2⟩, ⟨mC, a3⟩, a4⟩ := key
  refine ⟨mC, a3, fun h₃ hs₃ => ?_⟩
  refine hQ _ h₃ _ mL ⟨a2.sameBut hs₃ (Ne.symm n1), fun b o e => hs₃.extBut b o (fun hb => by change b = H2.objs.size at hb; rw [hb, f1] at e; cases e) (a1 b o e), F.above⟩ (a4.at fun o e => hs₃.extBut _ o n4 e) f2 n2
end
-- p36d
/-- the places of `+}` in a row of octets that begins at place `i` -/
noncomputable def plcs : List UInt8 → Nat → List Nat
  | [], _ => []
  | [_], _ => []
  | a :: b :: r, i => if a = 43 ∧ b = 125 then i :: plcs r (i + 2) else plcs (b :: r) (i + 1)
noncomputable def rep : List UInt8 → List UInt8
  | [] => []
  | [a] => [a]
  | a :: b :: r => if a = 43 ∧ b = 125 then 125 :: rep r else a :: rep (b :: r)
noncomputable abbrev stepO (b : Array UInt8) (acc : List Nat × Nat) (i : Nat) : List Nat × Nat :=
  if i ≥ acc.2 && b.extract i (i + (#[43, 125] : Array UInt8).size) == #[43, 125] then (i :: acc.1, i + (#[43, 125] : Array UInt8).size) else acc
theorem extract_two {b : Array UInt8} {i : Nat} {x y : UInt8} {r : List UInt8} (h : b.toList.drop i = x :: y :: r) : b.extract i (i + 2) = #[x, y] := by
  apply Array.toList_inj.mp
  rw [Array.toList_extract, List.extract_eq_take_drop, h]
  simp
theorem occ_go (b : Array UInt8) : ∀ (n : Nat) (l : List UInt8) (i lim : Nat) (acc : List Nat), l.length ≤ n → b.toList.drop i = l → lim ≤ i → ((List.range' i (l.length - 1)).foldl (stepO b) (acc, lim)).1 = (plcs l i).reverse ++ acc
  | _, [], _, _, _, _, _, _ => by simp [plcs]
  | _, [_], _, _, _, _, _, _ => by simp [plcs]
  | 0, _ :: _ :: _, _, _, _, hn, _, _ => absurd hn (by simp)
  | n + 1, x :: y :: r, i, lim, acc, hn, h, hl => by
    have hn' : r.length + 1 ≤ n := by simpa using hn
    have h1 : b.toList.drop (i + 1) = y :: r := by rw [← List.drop_drop, h]; rfl
    have h2 : b.toList.drop (i + 2) = r := by rw [← List.drop_drop, h]; rfl
    show ((List.range' i (r.length + 1)).foldl (stepO b) (acc, lim)).1 = _
    rw [List.range'_succ, List.foldl_cons]
    have e2 : (#[43, 125] : Array UInt8).size = 2 := rfl
    by_cases hc : x = 43 ∧ y = 125
    · have hs : stepO b (acc, lim) i = (i :: acc, i + 2) := by
        unfold stepO
        rw [e2, extract_two h, hc.1, hc.2]
        simp [hl]
      rw [hs]
      have hp : plcs (x :: y :: r) i = i :: plcs r (i + 2) := by rw [plcs, if_pos hc]
      rw [hp]
      cases r with
      | nil => simp [plcs]
      | cons z r =>
        show ((List.range' (i + 1) (r.length + 1)).foldl (stepO b) (i :: acc, i + 2)).1 = _
        rw [List.range'_succ, List.foldl_cons]
        have hs2 : stepO b (i :: acc, i + 2) (i + 1) = (i :: acc, i + 2) := by
          unfold stepO
          rw [if_neg]
          simp
        rw [hs2]
        have ih := occ_go b n (z :: r) (i + 2) (i + 2) (i :: acc) (by simp only [List.length_cons] at hn' ⊢; omega) h2 (Nat.le_refl _)
        have e3 : (z :: r).length - 1 = r.length := rfl
        rw [e3] at ih
        rw [show i + 1 + 1 = i + 2 from rfl, ih]
        simp
    · have hs : stepO b (acc, lim) i = (acc, lim) := by
        unfold stepO
        rw [e2, extract_two h]
        rw [if_neg]
        simp only [Bool.and_eq_true, decide_eq_true_eq, beq_iff_eq, not_and]
        intro _ e
        have := Array.toList_inj.mpr e
        simp only [List.cons.injEq, and_true] at this
        exact hc this
      rw [hs]
      have hp : plcs (x :: y :: r) i = plcs (y :: r) (i + 1) := by rw [plcs, if_neg hc]
      rw [hp]
      exact occ_go b n (y :: r) (i + 1) lim acc (by simp only [List.length_cons]; omega) h1 (by omega)
theorem occ_eq (b : Array UInt8) : Builtin.Bytes.occurrences b #[43, 125] 0 b.size = plcs b.toList 0 := by
  unfold Builtin.Bytes.occurrences
  dsimp only
  have e : (List.range (b.size + 1 - (0 + (#[43, 125] : Array UInt8).size))).map (· + 0) = List.range' 0 (b.toList.length - 1) := by
    have e2 : (#[43, 125] : Array UInt8).size = 2 := rfl
    rw [e2, List.range_eq_range', Array.length_toList]
    simp
  rw [e]
  have := occ_go b b.toList.length b.toList 0 0 [] (Nat.le_refl _) rfl (Nat.le_refl _)
  rw [List.append_nil] at this
  rw [show ((List.range' 0 (b.toList.length - 1)).foldl _ ([], 0)).1 = (plcs b.toList 0).reverse from this, List.reverse_reverse]
noncomputable def cHead (p : List UInt8) : List (List UInt8) → List (List UInt8)
  | [] => [p]
  | h :: t => (p ++ h) :: t
noncomputable def seg : List UInt8 → List (List UInt8)
  | [] => [[]]
  | [a] => [[a]]
  | a :: b :: r => if a = 43 ∧ b = 125 then [] :: seg r else cHead [a] (seg (b :: r))
theorem cHead_two (p q : List UInt8) : ∀ s, cHead (p ++ q) s = cHead p (cHead q s)
  | [] => rfl
  | h :: t => by simp [cHead]
theorem cHead_nil {s : List (List UInt8)} (h : s ≠ []) : cHead [] s = s := by
  cases s with
  | nil => exact absurd rfl h
  | cons a s => rfl
theorem seg_ne : ∀ (n : Nat) (l : List UInt8), l.length ≤ n → seg l ≠ []
  | _, [], _ => by simp [seg]
  | _, [_], _ => by simp [seg]
  | 0, _ :: _ :: _, h => absurd h (by simp)
  | n + 1, a :: b :: r, h => by
    rw [seg]
    split
    · simp
    · cases seg (b :: r) <;> simp [cHead]
noncomputable abbrev stepB (b : Array UInt8) (x : Array (Array UInt8) × Nat) (p : Nat) : Array (Array UInt8) × Nat := (x.1.push (b.extract x.2 p), p + 2)
theorem ext_next {b : Array UInt8} {last i : Nat} {a : UInt8} {r : List UInt8} (h : b.toList.drop i = a :: r) (hl : last ≤ i) : (b.extract last (i + 1)).toList = (b.extract last i).toList ++ [a] := by
  have hi : i < b.toList.length := by
    rcases Nat.lt_or_ge i b.toList.length with q | q
    · exact q
    · rw [List.drop_eq_nil_of_le q] at h; cases h
  have ha : b.toList[i]? = some a := by
    have := List.getElem?_drop (xs := b.toList) (i := i) (j := 0)
    rw [h] at this
    simpa using this.symm
  rw [Array.toList_extract, Array.toList_extract, List.extract_eq_take_drop, List.extract_eq_take_drop]
  have e : i + 1 - last = (i - last) + 1 := by omega
  rw [e, List.take_add_one, List.getElem?_drop, show last + (i - last) = i by omega, ha]
  rfl
theorem btw_go (b : Array UInt8) : ∀ (n : Nat) (l : List UInt8) (i last : Nat) (parts : Array (Array UInt8)), l.length ≤ n → b.toList.drop i = l → last ≤ i → i + l.length = b.size →
    ((((plcs l i).foldl (stepB b) (parts, last)).1.push (b.extract ((plcs l i).foldl (stepB b) (parts, last)).2 b.size)).toList.map Array.toList) = parts.toList.map Array.toList ++ cHead (b.extract last i).toList (seg l)
  | _, [], i, last, parts, _, _, _, hz => by
    have hi : b.size = i := by simpa using hz.symm
    simp [plcs, seg, cHead, hi]
  | _, [a], i, last, parts, _, h, hl, hz => by
    have hi : b.size = i + 1 := by simpa using hz.symm
    have := ext_next h hl
    simp only [plcs, List.foldl_nil, seg, cHead, hi, Array.toList_push, List.map_append, List.map_cons, List.map_nil, this]
  | 0, _ :: _ :: _, _, _, _, hn, _, _, _ => absurd hn (by simp)
  | n + 1, x :: y :: r, i, last, parts, hn, h, hl, hz => by
    have hn' : r.length + 1 ≤ n := by simpa using hn
    have h1 : b.toList.drop (i + 1) = y :: r := by rw [← List.drop_drop, h]; rfl
    have h2 : b.toList.drop (i + 2) = r := by rw [← List.drop_drop, h]; rfl
    simp only [List.length_cons] at hz
    rw [plcs, seg]
    by_cases hc : x = 43 ∧ y = 125
    · rw [if_pos hc, if_pos hc, List.foldl_cons]
      rw [btw_go b n r (i + 2) (i + 2) _ (by omega) h2 (Nat.le_refl _) (by omega)]
      have e : (b.extract (i + 2) (i + 2)).toList = [] := by simp
      rw [e, cHead_nil (seg_ne _ r (Nat.le_refl _))]
      simp [cHead]
    · rw [if_neg hc, if_neg hc]
      rw [btw_go b n (y :: r) (i + 1) last parts (by simp only [List.length_cons]; omega) h1 (by omega) (by simp only [List.length_cons]; omega), ext_next h hl, cHead_two]
theorem rep_seg : ∀ (n : Nat) (l : List UInt8), l.length ≤ n → ∃ h t, seg l = h :: t ∧ rep l = h ++ t.flatMap fun p => 125 :: p
  | _, [], _ => ⟨[], [], rfl, rfl⟩
  | _, [a], _ => ⟨[a], [], rfl, rfl⟩
  | 0, _ :: _ :: _, h => absurd h (by simp)
  | n + 1, a :: b :: r, hn => by
    have hn' : r.length + 1 ≤ n := by simpa using hn
    rw [seg, rep]
    by_cases hc : a = 43 ∧ b = 125
    · rw [if_pos hc, if_pos hc]
      obtain ⟨h, t, e1, e2⟩ := rep_seg n r (by omega)
      exact ⟨[], seg r, rfl, by rw [e1, e2]; simp⟩
    · rw [if_neg hc, if_neg hc]
      obtain ⟨h, t, e1, e2⟩ := rep_seg n (b :: r) (by simp only [List.length_cons]; omega)
      exact ⟨a :: h, t, by rw [e1]; rfl, by rw [e2]; rfl⟩
theorem flat_map (t : List (Array UInt8)) : (t.flatMap fun p => (#[125] : Array UInt8).toList ++ p.toList) = (t.map Array.toList).flatMap fun p => 125 :: p := by
  rw [List.flatMap_map]
  rfl
theorem repl_list (b : Array UInt8) : (repl b #[43, 125] #[125]).toList = rep b.toList := by
  have hb := btw_go b b.toList.length b.toList 0 0 #[] (Nat.le_refl _) rfl (Nat.le_refl _) (by simp)
  obtain ⟨h, t, e1, e2⟩ := rep_seg b.toList.length b.toList (Nat.le_refl _)
  have e0 : (b.extract 0 0).toList = [] := by simp
  rw [e0, cHead_nil (seg_ne _ _ (Nat.le_refl _)), e1] at hb
  unfold repl
  rw [occ_eq]
  split
  · rename_i hp
    have hp' : plcs b.toList 0 = [] := by simpa using hp
    rw [hp'] at hb
    simp only [List.foldl_nil, Array.toList_push, Array.toList_empty, List.map_nil, List.nil_append, List.map_cons, List.cons.injEq] at hb
    obtain ⟨h1, h2⟩ := hb
    rw [e2, ← h1, ← h2]
    simp
  · have hq : Builtin.Bytes.between b (#[43, 125] : Array UInt8).size (plcs b.toList 0) = (((plcs b.toList 0).foldl (stepB b) (#[], 0)).1.push (b.extract ((plcs b.toList 0).foldl (stepB b) (#[], 0)).2 b.size)).toList := rfl
    rw [hq]
    generalize (((plcs b.toList 0).foldl (stepB b) (#[], 0)).1.push (b.extract ((plcs b.toList 0).foldl (stepB b) (#[], 0)).2 b.size)).toList = ps at hb ⊢
    cases ps with
    | nil => simp at hb
    | cons p ps =>
      simp only [Array.toList_empty, List.map_nil, List.nil_append, List.map_cons, List.cons.injEq] at hb
      obtain ⟨h1, h2⟩ := hb
      rw [joined_cons, flat_map, h1, h2, e2]
theorem rep_ne {a : UInt8} {r : List UInt8} (h : a ≠ 43) : rep (a :: r) = a :: rep r := by
  cases r with
  | nil => rfl
  | cons b r => rw [rep, if_neg (fun q => h q.1)]
theorem rep_hit {r : List UInt8} : rep (43 :: 125 :: r) = 125 :: rep r := by rw [rep, if_pos ⟨rfl, rfl⟩]
theorem rep_key (r : List UInt8) : ∀ k, rep (keyO k ++ r) = keyQ k ++ rep r
  | 0 | 1 | 2 | 3 | _ + 4 => by simp [keyO, keyQ, rep_ne, rep_hit]
theorem rep_wor (r : List UInt8) : ∀ k, rep (worO k ++ r) = worQ k ++ rep r
  | 0 | 1 | 2 | 3 | 4 | _ + 5 => by simp [worO, worQ, rep_ne, rep_hit]
theorem rep_body (r : List UInt8) : ∀ zs : List (Nat × Nat), rep (pbody [32] (zs.map toldE) ++ r) = pbody [32] (zs.map toldQ) ++ rep r
  | [] => rfl
  | z :: zs => by
    have ih := rep_body r zs
    have e : pbody [32] ((z :: zs).map toldE) ++ r = 32 :: (keyO z.1 ++ (32 :: (worO z.2 ++ (pbody [32] (zs.map toldE) ++ r)))) := by simp [pbody]
    rw [e, rep_ne (by decide), rep_key, rep_ne (by decide), rep_wor, ih]
    simp [pbody]
theorem rep_whole (zs : List (Nat × Nat)) : rep (32 :: 40 :: (pbody [] (zs.map toldE) ++ [41])) = 32 :: 40 :: (pbody [] (zs.map toldQ) ++ [41]) := by
  rw [rep_ne (by decide), rep_ne (by decide)]
  cases zs with
  | nil => rfl
  | cons z zs =>
    have e : pbody [] ((z :: zs).map toldE) ++ [41] = keyO z.1 ++ (32 :: (worO z.2 ++ (pbody [32] (zs.map toldE) ++ [41]))) := by simp [pbody]
    rw [e, rep_key, rep_ne (by decide), rep_wor, rep_body]
    simp [pbody, rep]
-- p36e
theorem isList_led {g h : Heap} {L a : Addr} {led : List (Addr × Obj)} {items : Array Value} {c : Nat} (N : News g L h led) (hm : (a, listOf items c) ∈ led) : h.IsList a items := ⟨_, (N _ hm).1, rfl, _, rfl⟩
theorem tups_fun {tups : List (Addr × Obj)} {ps : List PairV} (h : TupsAre tups ps) : ∃ key worth : Nat → Value, ∀ (i : Nat) (q : Addr × Obj) (z : PairV), tups[i]? = some q → ps[i]? = some z →
    q.2 = { cls := .type "tuple", data := .seq #[key i, worth i] } ∧ ∃ u1 u2, key i = .bytes z.1.toArray u1 ∧ worth i = nval z.2 u2 := by
  induction h with
  | nil => exact ⟨fun _ => .none, fun _ => .none, fun i q z e => by simp at e⟩
  | @cons q0 z0 tups ps h0 _ ih =>
    obtain ⟨u1, u2, e0⟩ := h0
    obtain ⟨key, worth, hk⟩ := ih
    refine ⟨fun i => match i with | 0 => .bytes z0.1.toArray u1 | i + 1 => key i, fun i => match i with | 0 => nval z0.2 u2 | i + 1 => worth i, fun i q z e1 e2 => ?_⟩
    cases i with
    | zero =>
      simp only [List.getElem?_cons_zero, Option.some.injEq] at e1 e2
      subst e1 e2
      exact ⟨e0, u1, u2, rfl, rfl⟩
    | succ i =>
      simp only [List.getElem?_cons_succ] at e1 e2
      exact hk i q z e1 e2
noncomputable abbrev wholeA (zs : List (Nat × Nat)) : Array UInt8 := #[32, 40] ++ Builtin.Bytes.joined #[32] (zs.map toldA) ++ #[41]
theorem wholeA_size (zs : List (Nat × Nat)) (h : zs.length ≤ 100) : (wholeA zs).size ≤ 10010 := by
  have := joined_small zs h
  simp only [wholeA, Array.size_append, List.size_toArray, List.length_cons, List.length_nil]
  omega
theorem range_told (zs : List (Nat × Nat)) (n : Nat) (h : zs.length = n) : ((List.range n).map fun i => (keyO (zs.getD i (0, 0)).1).toArray ++ #[32] ++ (worO (zs.getD i (0, 0)).2).toArray) = zs.map toldA := by
  subst h
  apply List.ext_getElem
  · simp
  · intro i h1 h2
    have h3 : i < zs.length := by simpa using h2
    simp [List.getD_eq_getElem?_getD, h3]
theorem rep_len : ∀ (n : Nat) (l : List UInt8), l.length ≤ n → (rep l).length ≤ l.length
  | _, [], _ => Nat.le_refl _
  | _, [_], _ => Nat.le_refl _
  | 0, _ :: _ :: _, h => absurd h (by simp)
  | n + 1, a :: b :: r, hn => by
    have hn' : r.length + 1 ≤ n := by simpa using hn
    rw [rep]
    split
    · have := rep_len n r (by omega)
      simp only [List.length_cons]
      omega
    · have := rep_len n (b :: r) (by simp only [List.length_cons]; omega)
      simp only [List.length_cons] at this ⊢
      omega
theorem plcs_len : ∀ (n : Nat) (l : List UInt8) (i : Nat), l.length ≤ n → (plcs l i).length ≤ l.length
  | _, [], _, _ => Nat.le_refl _
  | _, [_], _, _ => by simp [plcs]
  | 0, _ :: _ :: _, _, h => absurd h (by simp)
  | n + 1, a :: b :: r, i, hn => by
    have hn' : r.length + 1 ≤ n := by simpa using hn
    rw [plcs]
    split
    · have := plcs_len n r (i + 2) (by omega)
      simp only [List.length_cons]
      omega
    · have := plcs_len n (b :: r) (i + 1) (by simp only [List.length_cons]; omega)
      simp only [List.length_cons] at this ⊢
      omega
theorem repl_small (b : Array UInt8) (h : b.size ≤ 20000) : (repl b #[43, 125] #[125]).size ≤ 20000 := by
  have := rep_len b.toList.length b.toList (Nat.le_refl _)
  rw [← repl_list, Array.length_toList, Array.length_toList] at this
  omega
theorem occ_small (b : Array UInt8) (h : b.size ≤ 20000) : b.size + (Builtin.Bytes.occurrences b #[43, 125] 0 b.size).length * (#[125] : Array UInt8).size ≤ 1000000 := by
  rw [occ_eq]
  have := plcs_len b.toList.length b.toList 0 (Nat.le_refl _)
  have e2 : b.toList.length = b.size := Array.length_toList
  have e : (#[125] : Array UInt8).size = 1 := rfl
  rw [e]
  omega
section
variable {w : World} {pv : Program} {loose : List Str} {mean : ExcName → Option Value} {mg mb : Str → Option Value} {h₀ : Heap} {A : Around} {s : Shared} {Q E : Value → Shared → Prop} {a P : Addr} {tups : List (Addr × Obj)} {zs : List (Nat × Nat)}
theorem write_w (X : (hd.heap_1 w.params).In h₀) (T : Top pv loose mean mg mb h₀) (keep : h₀.StaysIn s.heap) (hA : Low A 7) (hT : s.heap.IsTuple a #[Value.ref P])
    (hP : s.heap.IsTuple P (tups.map fun q : Addr × Obj => Value.ref q.1).toArray) (ht : ∀ q ∈ tups, s.heap.get? q.1 = some q.2) (hz : TupsAre tups (zs.map zOf)) (hn : zs.length ≤ 100)
    (hret : PPost s Q fun t => .bytes (wholeA zs) t) : wpC (model PySem.Challenge.rw_pq0944_01.row.prog w) A (call (.ref 399) [.ref a]) Q E s := by
  obtain ⟨key, worth, hk⟩ := tups_fun hz
  have hl : tups.length = zs.length := by
    have := hz.length
    rwa [List.length_map] at this
  refine write_id_c X T keep hA (items := tups.map fun q : Addr × Obj => Value.ref q.1) (key := key) (worth := worth) (kr := fun i => (keyO (zs.getD i (0, 0)).1).toArray) (wr := fun i => (worO (zs.getD i (0, 0)).2).toArray) hT hP ?_ (by rw [List.length_map]; omega) ?_ ?_
  · intro i v hv
    rw [List.getElem?_map] at hv
    obtain ⟨q, hq, rfl⟩ := Option.map_eq_some_iff.mp hv
    have hi : i < zs.length := by
      rw [← hl]
      exact (List.getElem?_eq_some_iff.mp hq).1
    obtain ⟨e1, u1, u2, e2, e3⟩ := hk i q (zOf zs[i]) hq (by simp [hi])
    have ez : zs.getD i (0, 0) = zs[i] := by simp [List.getD_eq_getElem?_getD, hi]
    have hm := ht q (List.mem_of_getElem? hq)
    rw [e1] at hm
    refine ⟨q.1, _, u1, rfl, ⟨_, hm, rfl, _, rfl⟩, e2, ?_, keyB_len _, ?_⟩
    · rw [ez]; exact key_wr _
    · rw [ez, e3]; exact wor_wr u2 _
  · intro i
    have h1 := keyO_len (zs.getD i (0, 0)).1
    have h2 := worO_len (zs.getD i (0, 0)).2
    simp only [List.size_toArray]
    omega
  · rw [List.length_map, range_told zs tups.length hl.symm]
    exact hret
theorem stands_w (X : (hd.heap_1 w.params).In h₀) (T : Top pv loose mean mg mb h₀) (keep : h₀.StaysIn s.heap) (hA : Low A 9) {to : Tok} (hT : s.heap.IsTuple a #[Value.ref P])
    (hP : s.heap.IsTuple P (tups.map fun q : Addr × Obj => Value.ref q.1).toArray) (ht : ∀ q ∈ tups, s.heap.get? q.1 = some q.2) (hz : TupsAre tups (zs.map zOf)) (hn : zs.length ≤ 100)
    (hret : PPost s Q fun _ => .bool true) : wpC (model PySem.Challenge.rw_pq0944_01.row.prog w) A (call (.ref 420) [.bytes (wholeA zs) to, .ref a]) Q E s := by
  refine stands_c X T keep hA (es := zs.map toldE) (whole_list zs) (Nat.le_trans (wholeA_size zs hn) (by decide)) (fun e he => ?_) (by rw [List.length_map]; omega) hT ?_ hret
  · obtain ⟨z, _, rfl⟩ := List.mem_map.mp he
    exact toldE_pair z
  · rw [List.map_map]
    exact ⟨tups, hP, ht, hz⟩
theorem stands_q (X : (hd.heap_1 w.params).In h₀) (T : Top pv loose mean mg mb h₀) (keep : h₀.StaysIn s.heap) (hA : Low A 9) {to : Tok} (hT : s.heap.IsTuple a #[Value.ref P])
    (hP : s.heap.IsTuple P (tups.map fun q : Addr × Obj => Value.ref q.1).toArray) (ht : ∀ q ∈ tups, s.heap.get? q.1 = some q.2) (hz : TupsAre tups (zs.map zOf)) (hn : zs.length ≤ 100)
    (hret : PPost s Q fun _ => .bool true) : wpC (model PySem.Challenge.rw_pq0944_01.row.prog w) A (call (.ref 420) [.bytes (repl (wholeA zs) #[43, 125] #[125]) to, .ref a]) Q E s := by
  refine stands_c X T keep hA (es := zs.map toldQ) (by rw [repl_list, whole_list, rep_whole]) (Nat.le_trans (repl_small _ (Nat.le_trans (wholeA_size zs hn) (by decide))) (by decide)) (fun e he => ?_) (by rw [List.length_map]; omega) hT ?_ hret
  · obtain ⟨z, _, rfl⟩ := List.mem_map.mp he
    exact toldQ_pair z
  · rw [List.map_map]
    exact ⟨tups, hP, ht, hz⟩
end
theorem mem_led {g h : Heap} {L : Addr} {led sub : List (Addr × Obj)} (N : News g L h led) (hs : ∀ q ∈ sub, q ∈ led) : ∀ q ∈ sub, h.get? q.1 = some q.2 := fun q hq => (N q (hs q hq)).1
theorem rows_bad {t0 t1 t2 t3 t4 t5 t6 t7 t8 : Tok} : ∀ (i : Nat) (v : Value), (#[Value.bytes #[] t0, .bytes #[32] t1, .bytes #[32, 120] t2, .bytes #[32, 34, 97, 34] t3, .bytes #[32, 40, 34, 97, 34, 41] t4, .bytes #[32, 40, 97, 32, 34, 98, 34, 41] t5, .bytes #[32, 40, 34, 97, 34, 32, 34, 98, 34, 32, 41] t6,
    .bytes #[32, 40, 34, 97, 34, 32, 34, 98, 34, 34, 99, 34, 32, 78, 73, 76, 41] t7, .bytes #[32, 40, 34, 97, 34, 32, 120, 41] t8] : Array Value)[i]? = some v → ∃ (O : Array UInt8) (to : Tok), v = Value.bytes O to ∧ O.size ≤ 100000 ∧ BadId O.toList
  | 0, _, hv => ⟨_, _, (Option.some.inj hv).symm, by decide, bad0⟩
  | 1, _, hv => ⟨_, _, (Option.some.inj hv).symm, by decide, bad1⟩
  | 2, _, hv => ⟨_, _, (Option.some.inj hv).symm, by decide, bad2⟩
  | 3, _, hv => ⟨_, _, (Option.some.inj hv).symm, by decide, bad3⟩
  | 4, _, hv => ⟨_, _, (Option.some.inj hv).symm, by decide, bad4⟩
  | 5, _, hv => ⟨_, _, (Option.some.inj hv).symm, by decide, bad5⟩
  | 6, _, hv => ⟨_, _, (Option.some.inj hv).symm, by decide, bad6⟩
  | 7, _, hv => ⟨_, _, (Option.some.inj hv).symm, by decide, bad7⟩
  | 8, _, hv => ⟨_, _, (Option.some.inj hv).symm, by decide, bad8⟩
  | _ + 9, _, hv => by simp at hv
-- p37
section
variable {w : World} {pv : Program} {loose : List Str} {mean : ExcName → Option Value} {mg mb : Str → Option Value} {s : Shared}
/-- a fact put away from the walk's eyes -/
structure Box (P : Prop) : Prop where
  get : P
theorem low_caller {n : Nat} (h : n ≤ 55) : Low callerA n := ⟨rfl, by simp only [callerA, claimMargin]; omega, by simp only [callerA, claimMargin]; omega⟩
theorem pick_fun {m₀ m₁ : Str → Option Value} {l : Int} {tl : Tok} {v : Option Value} (h1 : m₁ (Str.ofString "left") = some (.int l tl)) (h2 : ∀ z, z ≠ Str.ofString "left" → z ≠ Str.ofString "key" → z ≠ Str.ofString "worth" → z ≠ Str.ofString "turn" → m₁ z = m₀ z) :
    (fun z => if z = Str.ofString "turn" then v else m₁ z) = fun z => if z = Str.ofString "turn" then v else if z = Str.ofString "left" then some (.int l tl) else if z = Str.ofString "key" then m₁ (Str.ofString "key") else if z = Str.ofString "worth" then m₁ (Str.ofString "worth") else m₀ z := by
  funext z
  by_cases a : z = Str.ofString "turn"
  · rw [if_pos a, if_pos a]
  · rw [if_neg a, if_neg a]
    by_cases b : z = Str.ofString "left"
    · rw [if_pos b, b, h1]
    · rw [if_neg b]
      by_cases c : z = Str.ofString "key"
      · rw [if_pos c, c]
      · rw [if_neg c]
        by_cases d : z = Str.ofString "worth"
        · rw [if_pos d, d]
        · rw [if_neg d]; exact h2 z b c d a
theorem done_fun {m₀ m₁ : Str → Option Value} {l : Int} {tl : Tok} (h1 : m₁ (Str.ofString "left") = some (.int l tl)) (h2 : ∀ z, z ≠ Str.ofString "left" → z ≠ Str.ofString "key" → z ≠ Str.ofString "worth" → z ≠ Str.ofString "turn" → m₁ z = m₀ z) :
    m₁ = fun z => if z = Str.ofString "left" then some (.int l tl) else if z = Str.ofString "key" then m₁ (Str.ofString "key") else if z = Str.ofString "worth" then m₁ (Str.ofString "worth") else if z = Str.ofString "turn" then m₁ (Str.ofString "turn") else m₀ z := by
  funext z
  by_cases b : z = Str.ofString "left"
  · rw [if_pos b, b, h1]
  · rw [if_neg b]
    by_cases c : z = Str.ofString "key"
    · rw [if_pos c, c]
    · rw [if_neg c]
      by_cases d : z = Str.ofString "worth"
      · rw [if_pos d, d]
      · rw [if_neg d]
        by_cases a : z = Str.ofString "turn"
        · rw [if_pos a, a]
        · rw [if_neg a]; exact h2 z b c d a
theorem isTuple_led {g h : Heap} {L a : Addr} {led : List (Addr × Obj)} {items : Array Value} (N : News g L h led) (hm : (a, { cls := .type "tuple", data := .seq items }) ∈ led) : h.IsTuple a items := ⟨_, (N _ hm).1, rfl, _, rfl⟩
/-- the lists that the picks pick from -/
structure Stat (st : List (Addr × Obj)) (kl wl lp lt : Addr) (ks ws : List Value) : Prop where
  k : (kl, listOf ks.toArray 0) ∈ st
  kz : ks.length = 5
  kv : ∀ j, j < 5 → ∃ a u1 u2, ks[j]? = some (.ref a) ∧ (a, keyT j u1 u2) ∈ st
  w : (wl, listOf ws.toArray 0) ∈ st
  wz : ws.length = 6
  wv : ∀ j, j < 6 → ∃ a u1 u2, ws[j]? = some (.ref a) ∧ (a, worT j u1 u2) ∈ st
  np : ∀ q ∈ st, q.1 ≠ lp
  nt : ∀ q ∈ st, q.1 ≠ lt
  ne : @Ne Nat lt lp
theorem Stat.p1 {st tups : List (Addr × Obj)} {kl wl lp lt : Addr} {ks ws : List Value} {o : Obj} (S : Stat st kl wl lp lt ks ws) (h : ∀ q ∈ tups, q.1 ≠ lp) : ∀ q ∈ (lt, o) :: (st ++ tups), q.1 ≠ lp :=
  List.forall_mem_cons.mpr ⟨S.ne, fun q hq => (List.mem_append.mp hq).elim (S.np q) (h q)⟩
theorem Stat.p2 {st tups : List (Addr × Obj)} {kl wl lp lt : Addr} {ks ws : List Value} (S : Stat st kl wl lp lt ks ws) (h : ∀ q ∈ tups, q.1 ≠ lt) : ∀ q ∈ st ++ tups, q.1 ≠ lt :=
  fun q hq => (List.mem_append.mp hq).elim (S.nt q) (h q)
theorem led_st {g h : Heap} {L D lp lt : Addr} {oD o1 o2 : Obj} {st : List (Addr × Obj)} (N : News g L h ((D, oD) :: (lt, o1) :: (lp, o2) :: st)) : News g L h ((lp, o2) :: (lt, o1) :: (st ++ [])) := by
  intro q hq
  rw [List.append_nil] at hq
  rcases List.mem_cons.mp hq with rfl | hq
  · exact N _ (.tail _ (.tail _ (.head _)))
  · rcases List.mem_cons.mp hq with rfl | hq
    · exact N _ (.tail _ (.head _))
    · exact N _ (.tail _ (.tail _ (.tail _ hq)))
theorem stat_of {P : Prop} {g h : Heap} {L lp lt kl wl : Addr} {o1 o2 : Obj} {st : List (Addr × Obj)} {ks ws : List Value} (N : News g L h ((lp, o2) :: (lt, o1) :: (st ++ []))) (S : Stat st kl wl lp lt ks ws)
    (k : ∀ st ks ws, News g L h ((lp, o2) :: (lt, o1) :: (st ++ [])) → Stat st kl wl lp lt ks ws → P) : P := k st ks ws N S
theorem pick_end {g h' : Heap} {L I T Dd lp lt kl wl : Addr} {oI oD : Obj} {m₀ m' : Str → Option Value} {st tups : List (Addr × Obj)} {tv ks ws : List Value} {zs : List (Nat × Nat)} {i : Nat} (z : Nat × Nat) {u1 u2 t t' : Tok} {l' : Int} {s₁ : Shared} {tk : Nat} (S : Stat st kl wl lp lt ks ws)
    (F' : Fr g L h' m') (N' : News g L h' ((T, tupO (zOf z) u1 u2) :: (Dd, oD) :: (I, oI) :: (lp, listOf ((tups.map fun q : Addr × Obj => Value.ref q.1).toArray.push (.ref T)) (i + 1)) :: (lt, listOf (tv.toArray.push (.bytes (toldA z) t)) (i + 1)) :: (st ++ tups)))
    (hoff : ∀ p ∈ (lp, listOf (tups.map fun q : Addr × Obj => Value.ref q.1).toArray i) :: (lt, listOf tv.toArray i) :: (st ++ tups), p.1 ≠ I)
    (hT : TupsAre tups (zs.map zOf)) (hB : BytesAre tv (zs.map toldA)) (hzl : zs.length = i) (hzb : ∀ z ∈ zs, z.1 < 5 ∧ z.2 < 6) (ht1 : ∀ q ∈ tups, q.1 ≠ lp) (ht2 : ∀ q ∈ tups, q.1 ≠ lt)
    (n1 : @Ne Nat T I) (n2 : @Ne Nat T lp) (n3 : @Ne Nat T lt) (hz : z.1 < 5 ∧ z.2 < 6) (hl : 0 ≤ l') (hm : m' (Str.ofString "left") = some (.int l' t'))
    (hmz : ∀ y, y ≠ Str.ofString "left" → y ≠ Str.ofString "key" → y ≠ Str.ofString "worth" → y ≠ Str.ofString "turn" → m' y = m₀ y) :
    GenEnd g L I oI (PickJ m₀ lp lt st (i + 1)) s₁ .next { s₁ with heap := h', toks := tk } := by
  have e1 : (tups.map fun q : Addr × Obj => Value.ref q.1).toArray.push (.ref T) = ((tups ++ [(T, tupO (zOf z) u1 u2)]).map fun q : Addr × Obj => Value.ref q.1).toArray := by simp
  have e2 : tv.toArray.push (.bytes (toldA z) t) = (tv ++ [Value.bytes (toldA z) t]).toArray := by simp
  rw [e1, e2] at N'
  refine ⟨rfl, h', tk, m', _, (lp, _) :: (lt, _) :: (st ++ (tups ++ [(T, tupO (zOf z) u1 u2)])), rfl, F', N', .tail _ (.tail _ (.head _)), ?_, ?_, l', t', _, _, zs ++ [z], hl, hm, hmz, rfl, by rw [List.map_append]; exact hT.snoc, by rw [List.map_append]; exact hB.snoc (toldA z) t, by rw [List.length_append, hzl]; rfl, ?_, ?_, ?_⟩
  · intro p hp
    rcases List.mem_cons.mp hp with rfl | hp
    · exact .tail _ (.tail _ (.tail _ (.head _)))
    rcases List.mem_cons.mp hp with rfl | hp
    · exact .tail _ (.tail _ (.tail _ (.tail _ (.head _))))
    rcases List.mem_append.mp hp with hp | hp
    · exact .tail _ (.tail _ (.tail _ (.tail _ (.tail _ (List.mem_append_left _ hp)))))
    rcases List.mem_append.mp hp with hp | hp
    · exact .tail _ (.tail _ (.tail _ (.tail _ (.tail _ (List.mem_append_right _ hp)))))
    · rcases List.mem_singleton.mp hp with rfl
      exact .head _
  · intro p hp
    rcases List.mem_cons.mp hp with rfl | hp
    · exact hoff (lp, listOf (tups.map fun q : Addr × Obj => Value.ref q.1).toArray i) (.head _)
    rcases List.mem_cons.mp hp with rfl | hp
    · exact hoff (lt, listOf tv.toArray i) (.tail _ (.head _))
    rcases List.mem_append.mp hp with hp | hp
    · exact hoff _ (.tail _ (.tail _ (List.mem_append_left _ hp)))
    rcases List.mem_append.mp hp with hp | hp
    · exact hoff _ (.tail _ (.tail _ (List.mem_append_right _ hp)))
    · rcases List.mem_singleton.mp hp with rfl
      exact n1
  · intro y hy
    rcases List.mem_append.mp hy with hy | hy
    · exact hzb y hy
    · rcases List.mem_singleton.mp hy with rfl
      exact hz
  · intro q hq
    rcases List.mem_append.mp hq with hq | hq
    · exact ht1 q hq
    · rcases List.mem_singleton.mp hq with rfl
      exact n2
  · intro q hq
    rcases List.mem_append.mp hq with hq | hq
    · exact ht2 q hq
    · rcases List.mem_singleton.mp hq with rfl
      exact n3
/-- the state behind a statement: names and ledger, whatever they are -/
noncomputable def CutP (g : Heap) (L : Addr) (s s' : Shared) : Prop := ∃ h' tk' m' led', s' = { s with heap := h', toks := tk' } ∧ Fr g L h' m' ∧ News g L h' led'
theorem c_cut {M : Model} {A : Around} {Q : Flow → Shared → Prop} {E : Value → Shared → Prop} {s : Shared} {env : Env} {st : Stmt} {rest : List Stmt} (P : Shared → Prop)
    (main : wpC M A (exec st env) (fun f s' => match f with | .next => P s' | f => Q f s') E s) (tail : ∀ s', P s' → wpC M A (execs rest env) Q E s') : wpC M A (execs (st :: rest) env) Q E s :=
  c_execs_cons (wpC_mono main (fun f s' h => by
    cases f with
    | next => exact tail s' h
    | _ => exact h) fun _ _ x => x)
theorem clean6 {g h : Heap} {L : Addr} {m : Str → Option Value} {a b e f : Value} {l wy : Int} {t t' : Tok} (h1 : m (Str.ofString "pairs") = some a) (h2 : m (Str.ofString "told") = some b) (h3 : m (Str.ofString "left") = some (.int l t)) (h4 : m (Str.ofString "way") = some (.int wy t'))
    (h5 : m (Str.ofString "keys") = some e) (h6 : m (Str.ofString "worths") = some f) (F : Fr g L h m) :
    ∃ (m' : Str → Option Value) (t t' : Tok), Fr g L h (fun z => if z = Str.ofString "pairs" then some a else if z = Str.ofString "told" then some b else if z = Str.ofString "left" then some (.int l t) else if z = Str.ofString "way" then some (.int wy t') else if z = Str.ofString "keys" then some e else if z = Str.ofString "worths" then some f else m' z) := by
  refine ⟨m, t, t', ?_⟩
  have e : (fun z => if z = Str.ofString "pairs" then some a else if z = Str.ofString "told" then some b else if z = Str.ofString "left" then some (Value.int l t) else if z = Str.ofString "way" then some (.int wy t') else if z = Str.ofString "keys" then some e else if z = Str.ofString "worths" then some f else m z) = m := by
    funext z
    by_cases c1 : z = Str.ofString "pairs"
    · rw [if_pos c1, c1, h1]
    · rw [if_neg c1]
      by_cases c2 : z = Str.ofString "told"
      · rw [if_pos c2, c2, h2]
      · rw [if_neg c2]
        by_cases c3 : z = Str.ofString "left"
        · rw [if_pos c3, c3, h3]
        · rw [if_neg c3]
          by_cases c4 : z = Str.ofString "way"
          · rw [if_pos c4, c4, h4]
          · rw [if_neg c4]
            by_cases c5 : z = Str.ofString "keys"
            · rw [if_pos c5, c5, h5]
            · rw [if_neg c5]
              by_cases c6 : z = Str.ofString "worths"
              · rw [if_pos c6, c6, h6]
              · rw [if_neg c6]
  rw [e]
  exact F
theorem clean3 {g h : Heap} {L : Addr} {m : Str → Option Value} {a b : Value} {wy : Int} {t' : Tok} (h1 : m (Str.ofString "pairs") = some a) (h2 : m (Str.ofString "told") = some b) (h4 : m (Str.ofString "way") = some (.int wy t')) (F : Fr g L h m) :
    ∃ (m' : Str → Option Value), Fr g L h (fun z => if z = Str.ofString "pairs" then some a else if z = Str.ofString "told" then some b else if z = Str.ofString "way" then some (.int wy t') else m' z) := by
  refine ⟨m, ?_⟩
  have e : (fun z => if z = Str.ofString "pairs" then some a else if z = Str.ofString "told" then some b else if z = Str.ofString "way" then some (.int wy t') else m z) = m := by
    funext z
    by_cases c1 : z = Str.ofString "pairs"
    · rw [if_pos c1, c1, h1]
    · rw [if_neg c1]
      by_cases c2 : z = Str.ofString "told"
      · rw [if_pos c2, c2, h2]
      · rw [if_neg c2]
        by_cases c4 : z = Str.ofString "way"
        · rw [if_pos c4, c4, h4]
        · rw [if_neg c4]
  rw [e]
  exact F
theorem ne_led {g h : Heap} {L a : Addr} {o : Obj} {led : List (Addr × Obj)} (N : News g L h led) (hm : (a, o) ∈ led) : a ≠ L := (N _ hm).2.1
theorem below5 {P : Nat → Prop} (h0 : P 0) (h1 : P 1) (h2 : P 2) (h3 : P 3) (h4 : P 4) : ∀ j, j < 5 → P j
  | 0, _ => h0 | 1, _ => h1 | 2, _ => h2 | 3, _ => h3 | 4, _ => h4 | _ + 5, h => absurd h (by omega)
theorem below6 {P : Nat → Prop} (h0 : P 0) (h1 : P 1) (h2 : P 2) (h3 : P 3) (h4 : P 4) (h5 : P 5) : ∀ j, j < 6 → P j
  | 0, _ => h0 | 1, _ => h1 | 2, _ => h2 | 3, _ => h3 | 4, _ => h4 | 5, _ => h5 | _ + 6, h => absurd h (by omega)
end
local macro_rules | `(tactic| walk_at "mine m") => `(tactic| with_reducible first | assumption | exact List.mem_append_left _ (by assumption) | (refine List.mem_cons_of_mem _ ?_; walk_at "mine m"))
local macro_rules | `(tactic| walk_at "subscriptTail") => `(tactic| first | ((k_here; (with_reducible show wpAny _ _ (subscriptTail _ _ (Value.ref _) (Value.int _ _)) _ _ _); k_dflt (refine' Mine.tup_led (l := [_, _]) (by assumption) ?hm ?h0 ?hx ?hk ?_; (case hm => walk_at "mine m"); (case h0 => decide); (case hx => rfl); (case hk => decide)))) | ((k_here; (with_reducible show wpAny _ _ (subscriptTail _ _ (Value.ref _) (Value.int _ _)) _ _ _); k_dflt (refine' Mine.pick_led (by assumption) ?hm ?h0 ?hk ?hx ?_; (case hm => walk_at "mine m"); (case h0 => omega); (case hk => omega); (case hx => assumption)))))
local macro_rules | `(tactic| walk_at "mine upd3") => `(tactic| first | (refine' Upd.head ?u0; (case u0 => assumption)) | (refine' Upd.tail ?u1 ?u2; (case u1 => first | assumption | (show @Ne Nat _ _; omega)); (case u2 => walk_at "mine upd3")))
local macro_rules | `(tactic| walk_at "call builtin:list.append") => `(tactic| (k_here; (with_reducible show wpAny _ _ (call (Value.builtin _) [Value.ref _, _]) _ _ _); k_dflt (refine' append_K (by assumption) (by assumption) ?hU ?_ ?hz; (case hU => walk_at "mine upd3"); (case hz => assumption)); intro h' F' N'))
local macro_rules | `(tactic| walk_at "mine mt") => `(tactic| with_reducible first | exact List.mem_append_right _ (by assumption) | (refine List.mem_cons_of_mem _ ?_; walk_at "mine mt"))
local macro_rules | `(tactic| walk_at "mine c") => `(tactic| (with_reducible refine Mine.stopLC ?_))
local macro_rules | `(tactic| walk_at "mine tups") => `(tactic| ((case hT => exact Mine.isTuple_led (by with_reducible assumption) (by k_mem)); (case hP => exact Mine.isTuple_led (by with_reducible assumption) (by k_mem)); (case ht => (refine Mine.mem_led (by with_reducible assumption) ?_; intro q hq; walk_at "mine mt")); walk_at "mine r"))
local macro_rules | `(tactic| walk_at "mine r") => `(tactic| (refine' Mine.ppost_r (by with_reducible assumption) (by with_reducible assumption) ?_; intro _ _ _ _ _))
local macro_rules | `(tactic| walk_at "call builtin:bytes.replace") => `(tactic| (k_here; (refine Mine.call_replace rfl (Mine.occ_small _ (by assumption)) (Nat.le_trans (Mine.repl_small _ (by assumption)) (by decide)) ?_); intro _ _))
local macro_rules | `(tactic| walk_at "call builtin:bytes.join") => `(tactic| (k_here; k_dflt (refine Mine.call_join (Mine.isList_led (by with_reducible assumption) (by k_mem)) (by assumption) (by assumption) (by assumption) ?_); intro _ _))
local macro_rules | `(tactic| walk_at "mine cc") => `(tactic| first | ((focus (with_reducible apply Mine.stands_none_c); (case hO => rfl); (case hx => first | exact .inl rfl | exact .inr rfl); (case ha0 => exact Mine.isTuple_led (by with_reducible assumption) (by k_mem)); walk_at "mine q")) | ((focus (with_reducible apply Mine.write_id_none_c); (case hT => exact Mine.isTuple_led (by with_reducible assumption) (by k_mem)); walk_at "mine q")) | ((focus (with_reducible apply Mine.stands_w); walk_at "mine x"; walk_at "mine tups")) | ((focus (with_reducible apply Mine.stands_q); walk_at "mine x"; walk_at "mine tups")) | ((focus (with_reducible apply Mine.write_w); walk_at "mine x"; walk_at "mine tups")))
section
variable {w : World} {pv : Program} {loose : List Str} {mean : ExcName → Option Value} {mg mb : Str → Option Value} {s : Shared}
set_option maxHeartbeats 8000000 in
theorem law_c (X : (hd.heap_1 w.params).In s.heap) (T : Top pv loose mean mg mb s.heap)
    {sa : Addr} {vals : List Value} {ii : List Int} (hL : s.heap.IsList sa vals.toArray) (hI : IntsAre vals ii) (hlen : ii.length ≤ 63) :
    wpC (model PySem.Challenge.rw_pq0944_01.row.prog w) callerA (call (.ref 432) [.ref sa]) (fun v s' => ∃ h tk, v = .bool true ∧ s' = { s with heap := h, toks := tk } ∧ s.heap.StaysIn h) (fun _ _ => False) s := by
  have hw : Has s.heap s.heap [] := fun q hq => nomatch hq
  have hA : Low callerA 51 := low_caller (by decide)
  have keep : s.heap.StaysIn s.heap := fun _ _ e => e
  k_dflt (refine' enterC0 (binds := [(Str.ofString "script", .ref sa)]) hA X T keep hw ?k6 ?k7 ?k9 ?kB ?_ ?c2 ?c3 ?c4 ?c5)
  walk_at "mine sides"
  intro g' L' h' KG' F' N' X' T' A'
  clear X T keep hA
  have KG : s.heap.StaysIn g' := fun b o e => KG' b o e (by simp)
  replace hL : g'.IsList sa vals.toArray := hL.at fun o e => KG _ o e
  clear KG' hw
  have KB : Box (s.heap.StaysIn g') := ⟨KG⟩
  clear KG
  walk_at "mine go"
  refine ofAny ?_
  k_steps
  rename IntsAre _ (List.take 20 ii) => hI2
  rename (List.take 20 ii).length = _ => hC
  clear hL hI
  k_here
  refine' iter_acc (Str.ofString "left") (fun _ v => 0 ≤ v) ?a1 ?a2 ?a3 ?a4 hI2 ?a5 ?a6 ?a7 ?a8 ?turn ?done
  case a5 => assumption
  case a6 => assumption
  case a1 => decide
  case a2 => rfl
  case a3 => exact .head _
  case a4 => rfl
  case a7 => rfl
  case a8 => decide
  case turn =>
    intro i n t v tv s₁ own hi hP F3 N3
    obtain ⟨h3, g3, d3, tk3, o3⟩ := s₁
    dsimp only at F3 N3
    k_steps
    refine' ⟨rfl, _, _, _, _, _, _, rfl, ?kkf, ?kkn, fun p hp => hp, ?kke, ?kkp, ?kkz⟩
    case kkf => assumption
    case kkn => assumption
    case kke => exact if_pos rfl
    case kkp =>
      have h1 : 0 ≤ Int.fmod (if n < 0 then -n else n) (10 ^ Int.toNat 9) := Int.fmod_nonneg (by split <;> omega) (by decide)
      have h2 : 0 ≤ v := hP
      show (0 : Int) ≤ v * 1009 + _
      omega
    case kkz =>
      intro z h1 h2
      exact (if_neg h2).trans ((if_neg h1).trans (if_neg h2))
  case done =>
    intro u v t h tk hP F3 N3
    walk_at "mine go"
    refine ofAny ?_
    k_steps
    walk_at "mine go"
    refine ofAny (For_invV g' (by rfl) (by rfl) ?_)
    have hw6 : 0 ≤ Int.fmod v 6 ∧ Int.fmod v 6 < 6 := ⟨Int.fmod_nonneg hP (by decide), Int.fmod_lt_of_pos _ (by decide)⟩
    have hl6 : 0 ≤ Int.fdiv v 6 := Int.fdiv_nonneg hP (by decide)
    generalize Int.fmod v 6 = way at *
    generalize Int.fdiv v 6 = left at *
    clear hI2 hC
    iterate 17 (first | walk1 | skip)
    have hN : ((way = 0 ∧ (if 0 > way - 1 then 0 else way - 1) = 0) ∨ (1 ≤ way ∧ (if 0 > way - 1 then 0 else way - 1) = way - 1)) := by
      split
      · exact .inl ⟨by omega, rfl⟩
      · exact .inr ⟨by omega, rfl⟩
    generalize (if 0 > way - 1 then 0 else way - 1) = nn at *
    generalize (if 0 > way - 1 then _ else _) = tn at *
    obtain ⟨n, rfl⟩ : ∃ n : Nat, nn = (n : Int) := ⟨nn.toNat, by omega⟩
    rename News _ _ _ _ => N7
    rename Fr _ _ _ _ => F7
    have S7 := led_st N7
    refine' stat_of S7 (ks := [.ref _, .ref _, .ref _, .ref _, .ref _]) (ws := [.ref _, .ref _, .ref _, .ref _, .ref _, .ref _]) ⟨?sk, rfl, ?skv, ?sw, rfl, ?swv, ?snp, ?snt, ?sne⟩ ?rest
    case sk => k_mem
    case sw => k_mem
    case skv => exact below5 ⟨_, _, _, rfl, by k_mem⟩ ⟨_, _, _, rfl, by k_mem⟩ ⟨_, _, _, rfl, by k_mem⟩ ⟨_, _, _, rfl, by k_mem⟩ ⟨_, _, _, rfl, by k_mem⟩
    case swv => exact below6 ⟨_, 0, _, rfl, by k_mem⟩ ⟨_, _, _, rfl, by k_mem⟩ ⟨_, _, _, rfl, by k_mem⟩ ⟨_, _, _, rfl, by k_mem⟩ ⟨_, _, _, rfl, by k_mem⟩ ⟨_, _, _, rfl, by k_mem⟩
    case snp => (repeat' (first | exact List.forall_mem_nil _ | refine' List.forall_mem_cons.mpr (And.intro ?_ ?_) | (show @Ne Nat _ _; omega)))
    case snt => (repeat' (first | exact List.forall_mem_nil _ | refine' List.forall_mem_cons.mpr (And.intro ?_ ?_) | (show @Ne Nat _ _; omega)))
    case sne => (show @Ne Nat _ _; omega)
    case rest =>
    clear S7 N7
    repeat (rename News _ _ _ _ => hq; clear hq)
    repeat (rename (_ < _) ∧ _ => hq; clear hq)
    intro st ks ws N8 S
    refine call_range_1 ?_
    obtain ⟨m7, tl7, tw7, F7⟩ := clean6 rfl rfl rfl rfl rfl rfl F7
    refine' iter_rng (n := n) (PickJ _ _ _ st) ?r1 (IsRange.new _ _ _ _ _ _ _) ?r2 (F7.push _) (N8.pushKeep _) ⟨left, _, [], [], [], hl6, rfl, fun _ _ _ _ _ => rfl, rfl, .nil, .nil, rfl, (fun _ h => nomatch h), (fun _ h => nomatch h), (fun _ h => nomatch h)⟩ ?rturn ?rdone
    case r1 => rfl
    case r2 => omega
    case rturn =>
      intro i t' m₁ news₁ s₁ I oI hi hJ hoff F8 N9
      obtain ⟨l, tl, tups, tv, zs, hl0, hml, hmz, rfl, hT, hB, hzl, hzb, ht1, ht2⟩ := hJ
      obtain ⟨h3, g3, d3, tk3, o3⟩ := s₁
      dsimp only at F8 N9
      rw [pick_fun hml hmz] at F8
      generalize m₁ (Str.ofString "key") = uk at F8
      generalize m₁ (Str.ofString "worth") = uw at F8
      clear hml hmz F7 N8
      have hf5 : 0 ≤ Int.fmod l 5 ∧ Int.fmod l 5 < 5 := ⟨Int.fmod_nonneg hl0 (by decide), Int.fmod_lt_of_pos _ (by decide)⟩
      have hd5 : 0 ≤ Int.fdiv l 5 := Int.fdiv_nonneg hl0 (by decide)
      have hf6 : 0 ≤ Int.fmod (Int.fdiv l 5) 6 ∧ Int.fmod (Int.fdiv l 5) 6 < 6 := ⟨Int.fmod_nonneg hd5 (by decide), Int.fmod_lt_of_pos _ (by decide)⟩
      have hd30 : 0 ≤ Int.fdiv l 30 := Int.fdiv_nonneg hl0 (by decide)
      have hk1 := keyO_len (Int.fmod l 5).toNat
      have hw1 := worO_len (Int.fmod (Int.fdiv l 5) 6).toNat
      obtain ⟨a, ua1, ua2, hav, ham⟩ := S.kv (Int.fmod l 5).toNat (by omega)
      obtain ⟨b, ub1, ub2, hbv, hbm⟩ := S.wv (Int.fmod (Int.fdiv l 5) 6).toNat (by omega)
      have hsk := S.k
      have hsw := S.w
      have hz1 : (tups.map fun q : Addr × Obj => Value.ref q.1).toArray.size ≤ sizeLine := by
        have := hT.length
        rw [List.length_map] at this
        rw [List.size_toArray, List.length_map, sizeLine_eq]; omega
      have hz2 : tv.toArray.size ≤ sizeLine := by
        have := hB.length
        rw [List.length_map] at this
        rw [List.size_toArray, sizeLine_eq]; omega
      have hp1 := S.p1 (o := listOf tv.toArray i) ht1
      have hp2 := S.p2 ht2
      have hne := S.ne
      have hI1 := hoff _ (.head _)
      have hI2 := hoff _ (.tail _ (.head _))
      dsimp only at hI1 hI2
      replace hI1 := Ne.symm hI1
      replace hI2 := Ne.symm hI2
      k_steps
      (try dsimp only)
      refine' pick_end ((Int.fmod l 5).toNat, (Int.fmod (Int.fdiv l 5) 6).toNat) S ?pf ?pn hoff hT hB hzl hzb ht1 ht2 ?q1 ?q2 ?q3 ?qz ?ql ?qm ?qr
      case pf => assumption
      case pn => assumption
      case q1 => (show @Ne Nat _ _; omega)
      case q2 => (show @Ne Nat _ _; omega)
      case q3 => (show @Ne Nat _ _; omega)
      case qz => exact ⟨by (show Int.toNat _ < _); omega, by (show Int.toNat _ < _); omega⟩
      case qm => exact if_pos rfl
      case ql => exact hd30
      case qr =>
        intro y y1 y2 y3 y4
        simp only [y1, y2, y3, y4, if_false]
    case rdone =>
      intro h9 tk9 m9 news9 F9 N9 hJ
      obtain ⟨l, tl, tups, tv, zs, hl0, hml, hmz, rfl, hT, hB, hzl, hzb, ht1, ht2⟩ := hJ
      obtain ⟨m10, F9⟩ := clean3 ((hmz _ (by decide) (by decide) (by decide) (by decide)).trans rfl) ((hmz _ (by decide) (by decide) (by decide) (by decide)).trans rfl) ((hmz _ (by decide) (by decide) (by decide) (by decide)).trans rfl) F9
      clear hml hmz F7 N8
      have hn : tups.length ≤ 100 := by
        have := hT.length
        rw [List.length_map] at this
        omega
      dsimp only
      refine rest_next ?_
      refine' c_cut (CutP g' L' s) ?cutM ?cutT
      case cutM =>
        have hz100 : zs.length ≤ 100 := by omega
        have hj1 := foldl_small zs hz100
        have hj3 := joined_small zs hz100
        have hj2 : (Builtin.Bytes.joined #[32] (zs.map toldA)).size ≤ 1000000 := by omega
        have hW : (wholeA zs).size ≤ 20000 := Nat.le_trans (wholeA_size zs hz100) (by decide)
        walk_at "mine go"
        all_goals (try dsimp only)
        all_goals first
          | exact ⟨_, _, _, _, rfl, by assumption, by assumption⟩
          | (exfalso; simp_all; done)
      case cutT =>
        rintro _ ⟨h10, tk10, m10, led10, rfl, F10, N10⟩
        clear hT hB hzl hzb ht1 ht2 hn hN S
        walk_at "mine go"
        refine goC ?_
        refine' c_falls_comp X' T' ?fA ?fR ?f1 ?f2 ?f3 ?f4 ?f5 ?f6 ?f7 ?f8 ?f9 ?f10 (by assumption) ?fm ?fl ?fax ?fit ?fQ
        case fA => walk_at "mine low"
        case fR => exact Around.frames_deeper rfl
        case f1 => rfl
        case f2 => rfl
        case f3 => rfl
        case f4 => exact fun _ => rfl
        case f5 => decide
        case f6 => decide
        case f7 => decide
        case f8 => decide
        case f9 => rfl
        case f10 => decide
        case fm => rfl
        case fl => exact isList_led (by assumption) (by k_mem)
        case fax => exact ne_led (by assumption) (by k_mem)
        case fit => exact rows_bad
        case fQ =>
          intro D h11 tk11 m11 F11 hD hgD hDL
          obtain ⟨nD, eD⟩ := hD
          have N11 : News g' _ h11 [(D, listOf #[] nD)] := fun q hq => by
            rcases List.mem_singleton.mp hq with rfl
            exact ⟨eD, hDL, hgD⟩
          walk_at "mine go"
          exact fun b o e => Fr.keep (by assumption) b o (KB.get b o e)
end
theorem fin.tw10070804522480449196 : True := trivial
theorem fin.tw10098057777631523497 : True := trivial
theorem fin.tw1012361349325877821 : True := trivial
theorem fin.tw10279692637995926009 : True := trivial
theorem fin.tw10329872625359487480 : True := trivial
theorem fin.tw1035503724928835527 : True := trivial
theorem fin.tw10383673109516279431 : True := trivial
theorem fin.tw10696652717036330658 : True := trivial
theorem fin.tw10699407837109476802 : True := trivial
theorem fin.tw10807920368746810246 : True := trivial
theorem fin.tw10818889477481085253 : True := trivial
theorem fin.tw10829458402184033698 : True := trivial
theorem fin.tw10891054232620793217 : True := trivial
theorem fin.tw10895054467252067526 : True := trivial
theorem fin.tw10907391636593693970 : True := trivial
theorem fin.tw10925335251469727208 : True := trivial
theorem fin.tw11040825799340251285 : True := trivial
theorem fin.tw11061592194353771069 : True := trivial
theorem fin.tw11112386831996348380 : True := trivial
theorem fin.tw11154830654865731599 : True := trivial
theorem fin.tw11273041486466551846 : True := trivial
theorem fin.tw11414119711712004833 : True := trivial
theorem fin.tw11454252539852477091 : True := trivial
theorem fin.tw11587955951900863698 : True := trivial
theorem fin.tw11936995450923721628 : True := trivial
theorem fin.tw11953781441336167498 : True := trivial
theorem fin.tw12237877928780879103 : True := trivial
theorem fin.tw12284014389350100970 : True := trivial
theorem fin.tw12291753297600562012 : True := trivial
theorem fin.tw12448240930570709186 : True := trivial
theorem fin.tw12464766053444552404 : True := trivial
theorem fin.tw12478083643672913404 : True := trivial
theorem fin.tw12629903358213643309 : True := trivial
theorem fin.tw12649782002744950493 : True := trivial
theorem fin.tw12711679700452659978 : True := trivial
theorem fin.tw12809788781938459499 : True := trivial
theorem fin.tw12996517811204074000 : True := trivial
theorem fin.tw13093503161671486093 : True := trivial
theorem fin.tw13162651487661262736 : True := trivial
theorem fin.tw13295704053362595847 : True := trivial
theorem fin.tw13337293482115323266 : True := trivial
theorem fin.tw13360279666012451719 : True := trivial
theorem fin.tw13383306551100868464 : True := trivial
theorem fin.tw13516622038369049944 : True := trivial
theorem fin.tw13647521368782130326 : True := trivial
theorem fin.tw13700621096757390547 : True := trivial
theorem fin.tw13815853411582834384 : True := trivial
theorem fin.tw13929302177132474383 : True := trivial
theorem fin.tw1397303283331804279 : True := trivial
theorem fin.tw14139026862911339306 : True := trivial
theorem fin.tw14142754788403991900 : True := trivial
theorem fin.tw14159801056994702679 : True := trivial
theorem fin.tw14210890002308233579 : True := trivial
theorem fin.tw1422313219903470601 : True := trivial
theorem fin.tw14239432107786713131 : True := trivial
theorem fin.tw14245171486683049214 : True := trivial
theorem fin.tw14345562132136545540 : True := trivial
theorem fin.tw14431720936831517352 : True := trivial
theorem fin.tw14568449535678555946 : True := trivial
theorem fin.tw14679806638718605512 : True := trivial
theorem fin.tw14786503066443513839 : True := trivial
theorem fin.tw14793013804824869981 : True := trivial
theorem fin.tw15144710454662140524 : True := trivial
theorem fin.tw15201286185872193147 : True := trivial
theorem fin.tw15205425988870721313 : True := trivial
theorem fin.tw15309079848183770524 : True := trivial
theorem fin.tw15344004072050561172 : True := trivial
theorem fin.tw15399907426655090358 : True := trivial
theorem fin.tw1540340479561020840 : True := trivial
theorem fin.tw15459455144867644326 : True := trivial
theorem fin.tw15523922138108190246 : True := trivial
theorem fin.tw15533503492667675913 : True := trivial
theorem fin.tw15621619335703214680 : True := trivial
theorem fin.tw15688172546075569117 : True := trivial
theorem fin.tw15942684835789789487 : True := trivial
theorem fin.tw15989303212955285315 : True := trivial
theorem fin.tw16109372258727991565 : True := trivial
theorem fin.tw16115155874713506467 : True := trivial
theorem fin.tw1613116972386908190 : True := trivial
theorem fin.tw16256441300576474876 : True := trivial
theorem fin.tw16275787546110486726 : True := trivial
theorem fin.tw16307707646766795581 : True := trivial
theorem fin.tw16407147864228438881 : True := trivial
theorem fin.tw16496857829328116044 : True := trivial
theorem fin.tw16510490156224867327 : True := trivial
theorem fin.tw16530489862217454893 : True := trivial
theorem fin.tw16540275574145912595 : True := trivial
theorem fin.tw16570786720924097770 : True := trivial
theorem fin.tw16889484823980962733 : True := trivial
theorem fin.tw16906536467411238026 : True := trivial
theorem fin.tw16934629359412608497 : True := trivial
theorem fin.tw17041991840579044601 : True := trivial
theorem fin.tw17067295170570645592 : True := trivial
theorem fin.tw17108682257543074861 : True := trivial
theorem fin.tw17123178472405020103 : True := trivial
theorem fin.tw17130245016438642246 : True := trivial
theorem fin.tw1713156846745171867 : True := trivial
theorem fin.tw17347454772498655404 : True := trivial
theorem fin.tw17416127249078093707 : True := trivial
theorem fin.tw17449020081951674710 : True := trivial
theorem fin.tw17512474026176034454 : True := trivial
theorem fin.tw17637551073024348614 : True := trivial
theorem fin.tw17656766251404061198 : True := trivial
theorem fin.tw17662344363894024548 : True := trivial
theorem fin.tw17698704350827878285 : True := trivial
theorem fin.tw17701328389417463424 : True := trivial
theorem fin.tw17717364068325071970 : True := trivial
theorem fin.tw17801579834951734752 : True := trivial
theorem fin.tw17933470926392208243 : True := trivial
theorem fin.tw18082680734076937219 : True := trivial
theorem fin.tw18105285910621931680 : True := trivial
theorem fin.tw18105942590061964161 : True := trivial
theorem fin.tw18164189302063226315 : True := trivial
theorem fin.tw18295790063311454060 : True := trivial
theorem fin.tw18373065035072037172 : True := trivial
theorem fin.tw18387650150990424433 : True := trivial
theorem fin.tw1921391257341544841 : True := trivial
theorem fin.tw1951045429614898598 : True := trivial
theorem fin.tw1976505206021243879 : True := trivial
theorem fin.tw2103456241558337223 : True := trivial
theorem fin.tw2304379251839397102 : True := trivial
theorem fin.tw2305881189932309285 : True := trivial
theorem fin.tw2316539691658765527 : True := trivial
theorem fin.tw2331231422344091171 : True := trivial
theorem fin.tw2377308710366028375 : True := trivial
theorem fin.tw251868834278440796 : True := trivial
theorem fin.tw2537931557510868981 : True := trivial
theorem fin.tw2789213428527533208 : True := trivial
theorem fin.tw2866121171748074186 : True := trivial
theorem fin.tw2976117146107443816 : True := trivial
theorem fin.tw3125960719983571848 : True := trivial
theorem fin.tw3173534031939492945 : True := trivial
theorem fin.tw3263211703599914710 : True := trivial
theorem fin.tw3268265519342814607 : True := trivial
theorem fin.tw3302319216010004292 : True := trivial
theorem fin.tw3314143786362844604 : True := trivial
theorem fin.tw3343445320678177929 : True := trivial
theorem fin.tw3459265974087741279 : True := trivial
theorem fin.tw357486453476387696 : True := trivial
theorem fin.tw3599858809825778643 : True := trivial
theorem fin.tw3683778510129048087 : True := trivial
theorem fin.tw3715642891792259534 : True := trivial
theorem fin.tw3762306804915933987 : True := trivial
theorem fin.tw3788772014149755174 : True := trivial
theorem fin.tw3794220679723124481 : True := trivial
theorem fin.tw3810338749695602999 : True := trivial
theorem fin.tw3810570522144960214 : True := trivial
theorem fin.tw3837020019201816242 : True := trivial
theorem fin.tw3912488439876925007 : True := trivial
theorem fin.tw3955986520655104412 : True := trivial
theorem fin.tw3974152918291533672 : True := trivial
theorem fin.tw3975253019698251321 : True := trivial
theorem fin.tw3998398428148030388 : True := trivial
theorem fin.tw4013537778516871869 : True := trivial
theorem fin.tw4180101509539245183 : True := trivial
theorem fin.tw4232310507111121658 : True := trivial
theorem fin.tw4265850918314828415 : True := trivial
theorem fin.tw428092273266315144 : True := trivial
theorem fin.tw4312942655851389009 : True := trivial
theorem fin.tw4326780796455107134 : True := trivial
theorem fin.tw4329306826757983850 : True := trivial
theorem fin.tw4412708023047810509 : True := trivial
theorem fin.tw4684940682943077961 : True := trivial
theorem fin.tw4723787954990577340 : True := trivial
theorem fin.tw4769821431679368130 : True := trivial
theorem fin.tw480829909506669009 : True := trivial
theorem fin.tw4868334931027891882 : True := trivial
theorem fin.tw4898026214463823928 : True := trivial
theorem fin.tw4924110625330727750 : True := trivial
theorem fin.tw4928979718650693569 : True := trivial
theorem fin.tw5071919506433949198 : True := trivial
theorem fin.tw5073790198343104882 : True := trivial
theorem fin.tw5115476493328737885 : True := trivial
theorem fin.tw5227809002895711924 : True := trivial
theorem fin.tw5250828734511838712 : True := trivial
theorem fin.tw5320702786494000081 : True := trivial
theorem fin.tw5634151482396758240 : True := trivial
theorem fin.tw5679570950571409650 : True := trivial
theorem fin.tw5796354222422608987 : True := trivial
theorem fin.tw5853953084782111080 : True := trivial
theorem fin.tw6058378993454661626 : True := trivial
theorem fin.tw6068950659093879613 : True := trivial
theorem fin.tw6081921254191324426 : True := trivial
theorem fin.tw612862322836996645 : True := trivial
theorem fin.tw6213507637468552686 : True := trivial
theorem fin.tw6232080684201472732 : True := trivial
theorem fin.tw6303907929938155814 : True := trivial
theorem fin.tw6341822008880759003 : True := trivial
theorem fin.tw6381419901266130222 : True := trivial
theorem fin.tw6435670951450185984 : True := trivial
theorem fin.tw6485783843944922600 : True := trivial
theorem fin.tw6515953530934532768 : True := trivial
theorem fin.tw6531376189190222733 : True := trivial
theorem fin.tw6566618420281934 : True := trivial
theorem fin.tw6634307039904815820 : True := trivial
theorem fin.tw6667815254911646788 : True := trivial
theorem fin.tw670465573061467203 : True := trivial
theorem fin.tw6766580051018981234 : True := trivial
theorem fin.tw6846200578177281708 : True := trivial
theorem fin.tw6956187926921108005 : True := trivial
theorem fin.tw6968583824967984638 : True := trivial
theorem fin.tw7047351209531925555 : True := trivial
theorem fin.tw7055459427971326715 : True := trivial
theorem fin.tw7177338460636591580 : True := trivial
theorem fin.tw7249652514872940865 : True := trivial
theorem fin.tw7321584467024264148 : True := trivial
theorem fin.tw7439575562449295702 : True := trivial
theorem fin.tw7451905468542833597 : True := trivial
theorem fin.tw7468727024169554154 : True := trivial
theorem fin.tw7522001649326652513 : True := trivial
theorem fin.tw7779959011674639804 : True := trivial
theorem fin.tw7830602891274557492 : True := trivial
theorem fin.tw783483362715066742 : True := trivial
theorem fin.tw7930893340574950883 : True := trivial
theorem fin.tw7995362448368537469 : True := trivial
theorem fin.tw807531904560671035 : True := trivial
theorem fin.tw8119881530291889089 : True := trivial
theorem fin.tw8272817396058243321 : True := trivial
theorem fin.tw828056024939588000 : True := trivial
theorem fin.tw8289400949097046189 : True := trivial
theorem fin.tw831961903226767527 : True := trivial
theorem fin.tw8330952907988395303 : True := trivial
theorem fin.tw8462624477310905004 : True := trivial
theorem fin.tw857469055436470443 : True := trivial
theorem fin.tw8643116662766533202 : True := trivial
theorem fin.tw8656503046869711584 : True := trivial
theorem fin.tw876206183137641144 : True := trivial
theorem fin.tw891787732878383699 : True := trivial
theorem fin.tw895571856199123645 : True := trivial
theorem fin.tw8999559765510592377 : True := trivial
theorem fin.tw9001875181463519149 : True := trivial
theorem fin.tw9059937348426287209 : True := trivial
theorem fin.tw9247658263007524724 : True := trivial
theorem fin.tw9445451236469955387 : True := trivial
theorem fin.tw9524518906428321964 : True := trivial
theorem fin.tw9544026089342320630 : True := trivial
theorem fin.tw9712136527352899355 : True := trivial
theorem fin.tw9725021084223525626 : True := trivial
theorem fin.tw9746214513668125432 : True := trivial
theorem fin.tw9746901515087519452 : True := trivial
theorem fin.tw9757074474933493440 : True := trivial
theorem fin.tw9806666330580929782 : True := trivial
theorem fin.tw982560976839675504 : True := trivial
theorem fin.tw9825859731914700964 : True := trivial
theorem fin.tw9913140749668108558 : True := trivial
theorem fin.tw9997704412844104603 : True := trivial
theorem fin.tw999798209818781672 : True := trivial
set_option Elab.async true
set_option maxHeartbeats 8000000 in
theorem fin : PySem.Challenge.rw_pq0944_01.Holds := by
  w_on
  o_law
  o_head (kHook Mine.hd.heap_1 [2, 3, 15, 17, 18, 20, 21, 22, 29, 30, 32, 33, 35, 36, 37, 39, 40, 42, 43, 44, 45, 46, 47, 50, 57, 58, 59, 62, 69, 70, 71, 74, 76, 77, 79, 80, 81, 84, 85, 86, 89, 90, 91, 94, 95, 96, 99, 100, 108, 110, 111, 113, 114, 115, 117, 118, 120, 121, 122, 123, 124, 125, 126, 129, 131, 132, 134, 135, 136, 138, 139, 141, 142, 143, 145, 146, 148, 149, 150, 152, 153, 155, 156, 157, 159, 160, 162, 163, 164, 166, 167, 169, 170, 178, 179, 181, 182, 184, 185, 186, 188, 189, 191, 192, 193, 195, 196, 198, 199, 200, 202, 203, 205, 206, 207, 209, 210, 212, 213, 214, 216, 217, 219, 220, 221, 223, 224, 226, 227, 228, 230, 231, 233, 234, 235, 237, 238, 240, 241, 242, 244, 245, 247, 248, 249, 251, 252, 254, 255, 256, 258, 259, 261, 262, 263, 265, 266, 268, 269, 270, 272, 273, 275, 276, 277, 279, 280, 282, 283, 284, 286, 287, 289, 290, 291, 293, 294, 296, 297, 298, 300, 301, 303, 304, 305, 307, 308, 310, 311, 312, 314, 315, 317, 318, 319, 321, 322, 324, 325, 326, 328, 329, 331, 332, 333, 335, 336, 338, 339, 340, 343, 344, 345, 346, 348, 349, 351, 352, 353, 354, 355, 356, 357, 360, 363, 364, 365, 367, 368, 370, 371, 372, 373, 375, 376, 378, 379, 380, 381, 383, 384, 386, 387, 388, 390, 391, 393, 394, 395, 398, 399, 400, 402, 403, 405, 406, 407, 409, 410, 412, 413, 414, 416, 417, 419, 420, 421, 423, 424, 426, 427, 428, 431, 432] (fun _ => by kernel_rfl))
  (case hw => w_witness2)
  intro w s₀ s₁ mg mb G Y fa o pm cd doc dV kV ho hd hcd hD hmg hg args vals as hpre hlay hrd hwl hlo
  have KX := kIn_of Y
  have X := (Ground.X G).1
  have V := (Ground.X G).2
  refine Ground.open G ?_
  intro T B D TE TW
  try (refine guard_noD D (by decide +kernel) ?_; clear D)
  obtain ⟨_, _, M⟩ := bmod_of_top T
  have TA := at_of_top T
  try (obtain ⟨_, _, he, B0⟩ := based_of_top T rfl hmg ho hd; have he' : cd = _ := he; subst he'; clear he)
  have e432 : nsIn (Mine.hd.heap_1 w.params) mainGlobals (Str.ofString "law") = some (some (.ref 432)) := by k_is
  have m432 := mg_of KX T.g e432
  obtain rfl : fa = 432 := by
    have hm : mg (Str.ofString "law") = some (.ref fa) := hmg
    rw [hm] at m432
    exact (Value.ref.inj (Option.some.inj m432))
  clear hmg
  wrow_args hpre hlay hrd hwl hlo
  rename_i ii hs0 hlay0 hL1 hr1 hl2 as1 as2 sa vals1 as3 hL ra w1 r0 hI hr hlen hcond
  show wpC (model Challenge.rw_pq0944_01.row.prog w) callerA (call (Value.ref 432) [Value.ref sa]) _ _ s₁
  refine wpC_mono (E := fun _ _ => False) (Q := fun v s' => ∃ h tk, v = .bool true ∧ s' = { s₁ with heap := h, toks := tk } ∧ s₁.heap.StaysIn h) ?_ ?_ (fun _ _ x => x.elim)
  · exact law_c KX T hL hI (by omega)
  · rintro _ _ ⟨h, tk, rfl, rfl, st⟩
    refine GoodW.toG ⟨.inl ⟨.bool true, .bool true, [], rfl, raisesW_false ?hn, .bool true, ?hp, unshared_nil⟩, st, rfl, hg⟩
    case hn => wrow_none_raised
    case hp => first | rfl | (with_unfolding_all rfl) | decide +kernel
end Mine
theorem PySem.Challenge.cw_pq0944_01_holds : PySem.Challenge.rw_pq0944_01.Holds :=
  Mine.fin
