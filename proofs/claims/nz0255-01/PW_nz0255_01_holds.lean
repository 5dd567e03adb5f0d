import PyProof.Rows.All
import Wide.All
import OpenK.AllK
import Wide.FinOn
import KE.KTryDeepN
import KE.KLcPair
import Lean
import PySem.Challenge.RW_nz0255_01
open PySem PySem.W PyProof.Rows PySem.Calls
set_option Elab.async false
set_option maxRecDepth 100000
set_option maxHeartbeats 8000000
set_option rowWalk.seconds 0
set_option linter.unusedVariables false
set_option linter.unusedSimpArgs false
namespace Mine
/-! C0 -/
/-! the logic over clean contexts: no code of the stack holds a bytearray -/
noncomputable def holder : Code → Bool
  | .builtin id _ => ["bytearray.__contains__", "bytearray.__mod__", "bytearray.__rmod__", "_struct.pack_into.held", "bytearray.find.held"].contains id || Builtin.Bytes.decodersThatHold.contains id
  | _ => false

noncomputable def Clean (Γ : Ctx) : Prop := holder Γ.code = false ∧ ∀ x ∈ Γ.below, holder x.1 = false

theorem Clean.goto {Γ : Ctx} (h : Clean Γ) {c : Code} (hc : holder c = false) : Clean (Γ.goto c) := ⟨hc, h.2⟩
theorem Clean.enter {Γ : Ctx} (h : Clean Γ) {c : Code} (hc : holder c = false) (hd : Option Value) (p : Pos) : Clean (Γ.enter c hd p) := by
  refine ⟨hc, fun x hx => ?_⟩
  rcases List.mem_cons.mp hx with rfl | hx
  · exact h.1
  · exact h.2 x hx

structure wpC {α : Type} (M : Model) (A : Around) (t : Sem α) (Q : α → Shared → Prop) (E : Value → Shared → Prop) (s : Shared) : Prop where
  go : ∀ Γ p, Γ.In A → Clean Γ → Sem.wp M Γ t (fun a _ s' => Q a s') (fun e _ s' => E e s') p s
noncomputable def codeC (M : Model) (A : Around) (c : Code) (R : Result → Shared → Prop) (s : Shared) : Prop :=
  ∀ Γ p, Γ.code = c → Γ.Below A → Clean Γ → wpCode M Γ R p s

section
variable {α β : Type} {M : Model} {A : Around} {E : Value → Shared → Prop} {s : Shared}
theorem c_any {t : Sem α} {Q : α → Shared → Prop} (h : wpAny M A t Q E s) : wpC M A t Q E s := ⟨fun Γ p hΓ _ => h Γ p hΓ⟩
theorem c_pure {a : α} {Q : α → Shared → Prop} (h : Q a s) : wpC M A (pure a) Q E s := c_any (wpAny_pure h)
theorem c_mono {t : Sem α} {Q Q' : α → Shared → Prop} {E' : Value → Shared → Prop} (h : wpC M A t Q E s) (hQ : ∀ a s, Q a s → Q' a s) (hE : ∀ e s, E e s → E' e s) : wpC M A t Q' E' s :=
  ⟨fun Γ p hΓ hC => Sem.wp_mono M Γ t (fun a _ s => hQ a s) (fun e _ s => hE e s) p s (h.go Γ p hΓ hC)⟩
theorem c_bind {m : Sem α} {f : α → Sem β} {Q : β → Shared → Prop} (h : wpC M A m (fun a s' => wpC M A (f a) Q E s') E s) : wpC M A (m >>= f) Q E s := ⟨fun Γ p hΓ hC => by
  rw [Sem.wp_bind']
  exact Sem.wp_mono M Γ m (fun a p' s' h' => h'.go Γ p' hΓ hC) (fun _ _ _ h' => h') p s (h.go Γ p hΓ hC)⟩
/-- the leaf first, by the library -/
theorem c_leaf {m : Sem α} {f : α → Sem β} {Q : β → Shared → Prop} (h : wpAny M A m (fun a s' => wpC M A (f a) Q E s') E s) : wpC M A (m >>= f) Q E s := c_bind (c_any h)
theorem c_onRaise {m : Sem α} {k : Value → Sem Unit} {Q : α → Shared → Prop} (h : wpC M A m Q (fun e s' => wpAny M A (k e) (fun _ s'' => E e s'') E s') s) : wpC M A (m.onRaise k) Q E s := ⟨fun Γ p hΓ hC => by
  rw [Sem.wp_onRaise]
  exact Sem.wp_mono M Γ m (fun _ _ _ h' => h') (fun e p' s' h' => h' Γ p' hΓ) p s (h.go Γ p hΓ hC)⟩
theorem c_holding {vs : List Value} {m : Sem α} {Q : α → Shared → Prop} (h : wpC M A m Q E s) : wpC M A (holding vs m) Q E s :=
  ⟨fun Γ p hΓ hC => by rw [Sem.wp_holding]; exact h.go Γ p hΓ hC⟩
theorem codeC_mono {c : Code} {R R' : Result → Shared → Prop} (h : codeC M A c R s) (hR : ∀ r s, R r s → R' r s) : codeC M A c R' s :=
  fun Γ p hc hΓ hC => wpCode_mono hR (h Γ p hc hΓ hC)
theorem c_run {c : Code} {Q : Flow → Shared → Prop} (hc : codeC M A c (fun r s' => match r with | .ok f => Q f s' | .error e => E e s') s) (hh : holder c = false) : wpC M A (run c) Q E s :=
  ⟨fun Γ p hΓ hC => by rw [Sem.wp_run]; exact hc _ p rfl (hΓ.enter c none p (by intro x; cases x)) (hC.enter hh none p)⟩
theorem c_runValue {c : Code} {Q : Value → Shared → Prop} (hc : codeC M A c (fun r s' => match r with | .ok (.ret v) => Q v s' | .ok _ => False | .error e => E e s') s) (hh : holder c = false) : wpC M A (runValue c) Q E s :=
  ⟨fun Γ p hΓ hC => by rw [Sem.wp_runValue]; exact hc _ p rfl (hΓ.enter c none p (by intro x; cases x)) (hC.enter hh none p)⟩
theorem c_call {f : Value} {pos : List Value} {kw : List (Str × Value)} {Q : Value → Shared → Prop}
    (hc : codeC M A (.call f ⟨pos, kw⟩) (fun r s' => match r with | .ok (.ret v) => Q v s' | .ok _ => False | .error e => E e s') s) : wpC M A (call f pos kw) Q E s := c_runValue hc rfl
theorem codeC_of_tree {c : Code} {R : Result → Shared → Prop}
    (h : wpC M (A.under c) (M.den c) (fun fin s' => match fin with | .done f => R (.ok f) s' | .again c' => c'.quiet = true ∧ holder c' = false ∧ codeC M A c' R s') (fun e s' => R (.error e) s') s) : codeC M A c R s := fun Γ p hc hΓ hC => by
  rw [wpCode_iff_wp, hc]
  refine Sem.wp_mono M Γ _ (fun fin p' s' h' => ?_) (fun _ _ _ h' => h') p s (h.go Γ p (hc ▸ hΓ.in) hC)
  cases fin with
  | done f => exact h'
  | again c' => exact ⟨h'.1, h'.2.2 (Γ.goto c') p' rfl (hΓ.goto c') (hC.goto h'.2.1)⟩
end

/-! the head, at the claim's own context -/
theorem clean_caller : Clean ⟨.builtin "claim.caller" {}, none, none, [], none⟩ := ⟨by decide +kernel, fun _ h => nomatch h⟩
theorem thread_endsC {prog : Program} {w : World} {t : Sem Fin} {s : Shared} {R : Result → Shared → Prop} (hreg : s.asleep)
    (h : wpC (model prog w) callerA t (fun fin s' => ∃ f, fin = .done f ∧ (R (.ok f) s' ∧ leftWithCleanup s'.gens = false)) (fun e s' => R (.error e) s' ∧ leftWithCleanup s'.gens = false) s) :
    ∃ n r s' s'', runN (denote table) prog w n s ⟨t, .builtin "claim.caller" {}, default, []⟩ = .halted (outcomeOf r) s' ∧
      schedN (denote table) prog w n (.single s ⟨t, .builtin "claim.caller" {}, default, []⟩) = .halted (outcomeOf r) s' ∧ s'.forget = s''.forget ∧ R r s'' := by
  obtain ⟨n, r, s₁, s₂, hs, hn, hfo, hR⟩ := wp_halts_full (M := model prog w) (R := R) (p := default) hreg
    (Sem.wp_mono _ _ t (fun fin p' s' h' => by obtain ⟨f, rfl, hf⟩ := h'; exact hf) (fun _ _ _ h' => h') default s (h.go _ default caller_in clean_caller))
  exact ⟨n, r, s₂, s₁, hn, hs, hfo, hR⟩

theorem hideG {P : Prop} (h : ∀ G : Prop, (P → G) → G) : P := h P id
theorem callFromC {c : ClaimW} {tree : List Value → Sem Fin} {w : World} {s : Shared} {free : Addr → Prop} {gens : Prop} {kept : Heap → Prop} (hz : s.asleep) (hgens : s.gens = #[])
    (hspec : ∀ args, c.pre args = true → WData.layableAll args = true → ∀ ord : List DictEntry → List DictEntry, (∀ l, (ord l).Perm l) →
      ∃ vs s₁, layAllW c.records (classAt s.heap) w.params ord args s = some (vs, s₁) ∧
        wpC (model c.prog w) callerA (tree vs) (fun fin s' => ∃ f, fin = .done f ∧ (c.Ends s args vs s₁ (.ok f) s' ∧ s'.os = s.os ∧ AllBare s'.gens ∧ kept s'.heap))
          (fun e s' => c.Ends s args vs s₁ (.error e) s' ∧ s'.os = s.os ∧ AllBare s'.gens ∧ kept s'.heap) s₁) :
    c.CallFrom (fun vs => ⟨tree vs, .builtin "claim.caller" {}, default, []⟩) w free gens kept s := by
  intro args hpre hlay ord hord
  refine hideG fun G hG => ?_
  obtain ⟨vs, s₁, hlaid, hcode⟩ := hspec args hpre hlay ord hord
  have hal := layAllW_rest _ _ _ hlaid
  obtain ⟨k, r, s', s'', hrun, hsched, hfo, hcase, hos, hkp⟩ := thread_endsC (prog := c.prog) (w := w) (t := tree vs) (s := s₁)
    (R := fun r s' => c.Ends s args vs s₁ r s' ∧ s'.os = s.os ∧ kept s'.heap) (Shared.asleep_of_life hal.2.2.2 hz)
    (c_mono hcode (by rintro fin s' ⟨f, e, h1, h2, h3, h4⟩; exact ⟨f, e, ⟨h1, h2, h4⟩, leftWithCleanup_false_of_bare h3⟩)
      (by rintro e s' ⟨h1, h2, h3, h4⟩; exact ⟨⟨h1, h2, h4⟩, leftWithCleanup_false_of_bare h3⟩))
  obtain ⟨eh, _, _, eo, _⟩ := Shared.forget_eq hfo
  have hcase' := hcase.congr eh
  have hkp' : kept s'.heap := by rw [eh]; exact hkp
  have hos' : s'.os = s.os := eo.trans hos
  have hlife : s'.heap.life = s.heap.life := (runN_life _ _ _ hrun).trans hal.2.2.2
  refine hG ⟨vs, s₁, hlaid, k, _, s', hsched, ?_, (fun _ i x hx => by rw [hgens] at hx; simp at hx), hkp', by rw [hlife], Shared.rest_eq hos'⟩
  rcases hcase' with ⟨v, rfl, d1, d2, d3, d4, d5⟩ | ⟨e, ob, cls, rfl, d1, d2, d3, d4, d5⟩
  · exact .inl ⟨v, rfl, d1, d2, d3, fun b o y _ => d4 b o y, d5⟩
  · exact .inr ⟨e, ob, cls, rfl, d1, d2, d3, d4, fun b o y _ => d5 b o y⟩
/-! C1J -/
section
theorem open_anyC {r : RowW} {run : Value → List Value → Sem Value} {tree : List Value → Sem Fin} {q : Program} {loose defs kps : List Str} {writes : Bool} {Xt : Shared → Bool} {XP : (Str → Option Value) → Heap → Prop} {α : Type} {Yf : Shared → α} {Ya : World → α} {YP : World → Heap → Prop} {N : Nat}
    (left : LeftO r.prog q loose Xt Yf Ya N) (hY : ∀ w s, Yf s = Ya w → YP w s.heap) (hYk : ∀ w h h', YP w h → (∀ b o, h.get? b = some o → h'.get? b = some o) → YP w h') (hX : ∀ s, Xt s = true → XP (s.heap.nsMap mainGlobals) s.heap) (hXk : ∀ mg h h', XP mg h → (∀ b o, h.get? b = some o → h'.get? b = some o) → XP mg h')
    (hRf : ∀ s, Xt s = true → RecFacts r.records s.heap) (hwr : (!writes || r.records.isEmpty) = true) (ok : (chainsOk q && opensWell r.prog && (frees r && r.within.isEmpty)) = true) (hb : r.prog.bare) (hw : r.promised)
    (ht : ∀ vs (w : World) (s : Shared) mg f (Q : Fin → Shared → Prop) (E : Value → Shared → Prop), s.heap.Ns mainGlobals mg → mg r.name = some f → wpC (model r.prog w) callerA (run f vs) (fun v s' => Q (.done (.ret v)) s') E s → wpC (model r.prog w) callerA (tree vs) Q E s)
    (pin : ∀ w s, s.heap.isNs mainGlobals = true → Ground q loose [] XP w s (s.heap.nsMap mainGlobals) (s.heap.nsMap builtinsNs) s.heap → ∀ n ∈ defs, isTheDefsW r.prog s.heap n)
    (call : ∀ (w : World) (s₀ s₁ : Shared) (mg mb : Str → Option Value), Ground q loose r.records XP w s₀ mg mb s₁.heap → YP w s₁.heap → ∀ (args : List WData) (vs : List Value) (as : List Addr),
      r.claim.pre args = true → WData.layableAll args = true → Laid r.records w s₀ s₁ args vs as → sysModules < s₀.heap.objs.size → ∃ f, mg r.name = some f ∧
        wpC (model r.prog w) callerA (run f vs) (fun v s' => GoodWG r.claim (classAt s₀.heap) (ExcName.means s₀.heap) args s₁ (.ok (.ret v)) s')
          (fun e s' => GoodWG r.claim (classAt s₀.heap) (ExcName.means s₀.heap) args s₁ (.error e) s') s₁) : r.claim.HoldsOpenBy (fun vs => ⟨tree vs, .builtin "claim.caller" {}, default, []⟩) defs kps writes := by
  obtain ⟨ok, k5⟩ := Bool.and_eq_true_iff.mp ok
  obtain ⟨hch, o1⟩ := Bool.and_eq_true_iff.mp ok
  obtain ⟨k5, k6⟩ := Bool.and_eq_true_iff.mp k5
  obtain ⟨hsame, hu, ha, hap, hm⟩ := frees_parts k5
  refine ⟨⟨hb, o1, by show r.makers.map _ = []; rw [hm]; rfl⟩, hw.witness, fun w => ⟨(left.behind hX hch w).1, fun s' hs' => ?_⟩⟩
  obtain ⟨s₀, hf, hg0, s, hT, hz, hgens, hg, G00, y⟩ := (left.behind (XP := fun mg h => XP mg h ∧ RecFacts r.records h) (fun s hs => ⟨hX s hs, hRf s hs⟩) hch w).2 s' hs'
  have G0 : Ground q loose [] XP w s (s.heap.nsMap mainGlobals) (s.heap.nsMap builtinsNs) s.heap := ⟨G00.T, G00.B, G00.D, G00.TE, G00.TD, G00.W, G00.X.1, G00.cls, G00.has, G00.apart, G00.once, G00.K⟩
  have RF := G00.X.2
  refine ⟨s₀, hf, hg0, s, hT, pin w s hg G0, RF.1, RF.2.1, ?_⟩
  have hgens : s.gens = #[] := Array.eq_empty_of_size_eq_zero (beq_iff_eq.mp hgens)
  have G : Ground q loose r.records XP w s _ _ s.heap := RF.ground G0
  refine callFromC (c := r.claim) hz hgens fun args hpre hlay ord hord => ?_
  obtain ⟨⟨vs, s₁⟩, hlaid⟩ := Option.isSome_iff_exists.mp (layAllW_isSome (P := w.params) (ord := ord) G.has args r.args s (pre_splitW hpre).1)
  have keeps := layAllW_keeps _ _ _ hlaid
  have hal := layAllW_rest _ _ _ hlaid
  obtain ⟨as, hrd, hin, hold⟩ := reads_layAllW hord _ _ _ hlaid hlay s₁.heap (fun _ _ e => e)
  have L : Laid r.records w s s₁ args vs as := ⟨⟨ord, hord, hlaid⟩, hrd, hin, hold, keeps, hal.1.trans hgens, hal.2.2.1⟩
  have G₁ := G.keeps hXk keeps
  obtain ⟨f, hf, h⟩ := call w s s₁ _ _ G₁ (hYk _ _ _ (hY w s y) keeps) args vs as hpre hlay L G.low
  have hi := ident_freeW hu ha hap
  have hwi : r.claim.within = [] := List.isEmpty_iff.mp k6
  exact ⟨vs, s₁, hlaid, ht vs w s₁ _ f _ _ G₁.T.g hf (c_mono h (fun v s' g => ⟨_, rfl, have z := g.laid (c := r.claim) hsame hwi hi L; ⟨z.1, z.2.1, z.2.2, fun q => ⟨namesKept_of hT hg kps keeps g.2.1.old, noTable hwr q⟩⟩⟩)
    fun e s' g => have z := g.laid (c := r.claim) hsame hwi hi L; ⟨z.1, z.2.1, z.2.2, fun q => ⟨namesKept_of hT hg kps keeps g.2.1.old, noTable hwr q⟩⟩)⟩

noncomputable abbrev WalkC (q : Program) (loose : List Str) (XP : (Str → Option Value) → Heap → Prop) (YP : World → Heap → Prop) (r : RowW) (d : DefRec) (kwd : List (Str × Expr)) (run : Value → List Value → Sem Value) : Prop :=
  ∀ (w : World) (s₀ s₁ : Shared) (mg mb : Str → Option Value), Ground q loose r.records XP w s₀ mg mb s₁.heap → YP w s₁.heap → ∀ (a : Addr) (o : Obj) (pm cd doc dV kV : Value), s₁.heap.get? a = some o →
    o.data = .func { docDef d.name d.params d.body d.scope pm cd doc with defaults := dV, kwdefaults := kV } → s₁.heap.CodeRec cd d.name → Dflts mg s₁.heap d.params kwd dV kV → mg d.name = some (.ref a) → s₁.gens = #[] →
    ∀ (args : List WData) (vals : List Value) (as : List Addr), r.claim.pre args = true → WData.layableAll args = true → ReadsAllW r.records (classAt s₀.heap) s₁.heap vals args as → WellAll w.params s₁.heap vals args → (∀ a ∈ as, (a == sysModules) = false) →
      wpC (model r.prog w) callerA (run (.ref a) vals) (fun v s' => GoodWG r.claim (classAt s₀.heap) (ExcName.means s₀.heap) args s₁ (.ok (.ret v)) s')
        (fun e s' => GoodWG r.claim (classAt s₀.heap) (ExcName.means s₀.heap) args s₁ (.error e) s') s₁

/-- the head that the library's line takes here: the same facts, the call over clean contexts -/
theorem PySem.W.holds_open {r : OpenRow} {q : Program} {loose : List Str} {Xt : Shared → Bool} {XP : (Str → Option Value) → Heap → Prop} {α : Type} {Yf : Shared → α} {Ya : World → α} {YP : World → Heap → Prop} {d : DefRec} {kwd : List (Str × Expr)} {N : Nat}
    (_left : True) (hY : ∀ w s, Yf s = Ya w → YP w s.heap) (hYk : ∀ w h h', YP w h → (∀ b o, h.get? b = some o → h'.get? b = some o) → YP w h')
    (hX : ∀ s, Xt s = true → XP (s.heap.nsMap mainGlobals) s.heap) (hXk : ∀ mg h h', XP mg h → (∀ b o, h.get? b = some o → h'.get? b = some o) → XP mg h')
    (hdef : defOf q r.name = some (d, kwd)) (hp : r.prog.theDef r.name = some (d.params, d.body, d.scope)) (hk : kwWritten? d.params.kwonlyargs d.params.kw_defaults = some kwd) (hRf : ∀ s, Xt s = true → RecFacts r.records s.heap) (hwr : (!r.writes || r.records.isEmpty) = true)
    (k1 : r.wellSaid = true) (ok : (chainsOk q && opensWell r.prog && (frees r.toRowW && r.within.isEmpty)) = true) (hb : r.prog.bare) (hw : r.toRowW.promised)
    (both : LeftO r.prog q loose Xt Yf Ya N ∧ WalkC q loose XP YP r.toRowW d kwd fun f vs => _root_.PySem.call f vs) : r.Holds := by
  obtain ⟨left, call⟩ := both
  refine ⟨k1, hw, open_anyC (r := r.toRowW) (run := fun f vs => _root_.PySem.call f vs) (tree := fun vs => do match ← nsGet mainNs r.name with
      | some f => do ret (← _root_.PySem.call f vs)
      | none => unsupported "claim.caller:no-such-global") left hY hYk hX hXk hRf hwr ok hb hw
    (fun vs w s mg f Q E hg hf h => c_leaf (wpAny_nsGet hg (by rw [hf]; exact c_bind (c_mono h (fun _ _ x => c_pure x) fun _ _ x => x))))
    (fun w s hg G n hn => ?_) fun w s₀ s₁ mg mb G Y args vs as hpre hlay L low => ?_⟩
  · obtain rfl : n = r.name := by split at hn <;> simp_all
    exact pinned_of_view hg G hdef hp hk
  · obtain ⟨a, o, pm, cd, doc, dV, kV, h1, h2, h3, h4, h5⟩ := G.fn hdef
    exact ⟨.ref a, h1, call w s₀ s₁ mg mb G Y a o pm cd doc dV kV h2 h3 h4 h5 (defOf_name hdef ▸ h1) L.gens args vs as hpre hlay L.reads L.well (L.low low)⟩


theorem well_said : PySem.Challenge.rw_nz0255_01.wellSaid = true := by
  unfold OpenLaw.wellSaid OpenRow.wellSaid OpenRow.partSaid looksOpen
  repeat' (with_reducible refine look_both ?_ ?_)
  all_goals decide +kernel
local macro_rules | `(tactic| o_law) => `(tactic| refine holds_law well_said fun said => ?_)
set_option hygiene false in
local macro_rules | `(tactic| k_head) => `(tactic| (refine (fun (h9 : True) => ?hgo) ?hl; rotate_left; exact True.intro; x_head))
set_option maxHeartbeats 8000000 in
open_top hd for PySem.Challenge.rw_nz0255_01
end
theorem top_off : True := by
  w_top off
  trivial
/-! HMS -/
noncomputable abbrev pw : Program := PySem.Challenge.pw_nz0255_01
noncomputable def a11 (_ : Params) : Obj := { cls := Value.type "tuple", data := Data.seq #[] }
noncomputable def a12 (_ : Params) : Obj := { cls := Value.none, data := Data.fields #[] }
noncomputable def a13 (_ : Params) : Obj := { cls := Value.type "code", data := Data.fields #[Value.str (Str.ofString "<module>") 182, Value.str (Str.ofString "<module>") 183, Value.str (Str.ofString "/claim/cut.py") 184, Value.int 1 0, Value.int 0 0, Value.int 0 0, Value.int 0 0, Value.int 0 0, Value.ref 11, Value.bool false, Value.int 181 0, Value.ref 12, Value.none, Value.none, Value.none, Value.none, Value.int 185 0, Value.int 1 0, Value.str (Str.ofString "/claim/cut.py") 186] }
noncomputable def a14 (_ : Params) : Obj := { cls := Value.type "frame", slots := #[some (Value.ref 13), some (Value.ref 3), some (Value.ref 3), none, some (Value.str (Str.ofString "__main__") 164), none, some (Value.ref 0)] }
noncomputable def tr0 (P : Params) : BT := (.node (boot_o_0 P) (.node (boot_o_1 P) (.node (boot_o_3 P) (.node (boot_o_7 P) .nil .nil) (.node (a11 P) .nil .nil)) (.node (boot_o_5 P) (.node (boot_o_9 P) .nil .nil) (.node (a13 P) .nil .nil))) (.node (boot_o_2 P) (.node (boot_o_4 P) (.node (boot_o_8 P) .nil .nil) (.node (a12 P) .nil .nil)) (.node (boot_o_6 P) (.node (boot_o_10 P) .nil .nil) (.node (a14 P) .nil .nil))))
noncomputable def pos0 : Pos := ⟨0, 0, 0, 0⟩
noncomputable def topEnvQ (q : Program) : Env := { scope := q.main.scope, locals := mainNs, globals := mainNs, cells := [], code := .ref 13, frame := some 14 }
noncomputable def bodyQ (q : Program) : List Stmt := behindTheImports q
noncomputable def codeQ (q : Program) : Code := .body (bodyQ q) (topEnvQ q)
noncomputable abbrev topEnv : Env := topEnvQ pw
noncomputable abbrev bodyE : List Stmt := bodyQ pw
noncomputable abbrev codeE : Code := codeQ pw
noncomputable def st0 (w : World) (os : OsState) : SharedT := ⟨tr0 w.params, 15, {}, #[], boot_drawn, 187, os⟩
noncomputable def topAs : List Addr := List.range' 0 23 ++ List.range' 29 11 ++ List.range' 42 1 ++ List.range' 49 3 ++ List.range' 54 1 ++ List.range' 61 3 ++ List.range' 66 1 ++ List.range' 73 3 ++ List.range' 78 1 ++ List.range' 85 3 ++ List.range' 97 33 ++ List.range' 139 33 ++ List.range' 174 35 ++ List.range' 216 47 ++ List.range' 272 33 ++ List.range' 307 14 ++ List.range' 328 26 ++ List.range' 363 33 ++ List.range' 405 33 ++ List.range' 447 26 ++ List.range' 482 33 ++ List.range' 517 53
noncomputable def viewQ (q : Program) : Program := view q [0, 2, 3, 4, 5, 6, 8, 9, 11, 12, 13, 15, 16, 17, 18, 19, 20, 21, 23, 24, 25, 26, 27, 29, 30, 32, 34, 36, 37, 38, 39, 40, 41, 42, 43, 44]
noncomputable abbrev topView : Program := viewQ pw
noncomputable def lookQ (q : Program) (s₀ s : Shared) := ((staticsOk (importedModules q.main.body) s₀.heap s.heap && namesBound q s.heap && gensDone s && laidKept s₀.heap s.heap),
  openSeen (viewQ q) [] (importedModules q.main.body) (fun s => xlAt (viewQ q) [] s && recOk [] s) true s, topAs.map s.heap.get?)
noncomputable abbrev lookAt := lookQ pw
/-- a cell of the tree's heap, read from the tree itself -/
noncomputable def getT (s : SharedT) (a : Nat) : Option Obj := cond (Nat.blt a s.n) ((s.tree.get a).bind alive) none
theorem getT_get {s : SharedT} {a : Nat} {o : Obj} (h : getT s a = some o) : s.abs.heap.get? a = some o := by
  unfold getT at h
  cases e : Nat.blt a s.n with
  | false => rw [e] at h; exact nomatch h
  | true =>
    rw [e] at h
    obtain ⟨o', g, h⟩ := Option.bind_eq_some_iff.mp h
    exact (abs_get (Nat.le_of_ble_eq_true (show Nat.ble (a + 1) s.n = true from e)) g).trans h
theorem map_get {f g : Nat → Option Obj} (h : ∀ a o, f a = some o → g a = some o) (l : List Nat) : ∀ (m : List (Addr × Obj)), l.map f = (m.map fun p => some p.2) → l.map g = m.map fun p => some p.2 := by
  induction l with
  | nil => exact fun _ e => e
  | cons a l ih =>
    intro m e
    cases m with
    | nil => exact nomatch e
    | cons p m => exact congr (congrArg List.cons (h a p.2 (List.cons.inj e).1)) (ih m (List.cons.inj e).2)
noncomputable def lookT (q : Program) (s₀ : Shared) (s : SharedT) := ((staticsOk (importedModules q.main.body) s₀.heap s.abs.heap && namesBound q s.abs.heap && gensDone s.abs && laidKept s₀.heap s.abs.heap),
  openSeen (viewQ q) [] (importedModules q.main.body) (fun s => xlAt (viewQ q) [] s && recOk [] s) true s.abs, topAs.map (getT s))
noncomputable def boot0 (w : World) (os : OsState) : Shared := ⟨boot_heap w.params, #[], boot_drawn, boot_toks, os⟩
/-! the state behind the last statement: the ledger's cells and, between them, the cells that nothing reaches -/
noncomputable def en (P : Params) (x : String) (t : Tok) (v : Value) : DictEntry := { hash := PyData.keyHash P (Str.ofString x), key := Value.str (Str.ofString x) t, val := v }
noncomputable def obPrep : Obj := { cls := Value.type "builtin_function_or_method", data := Data.fields #[Value.builtin "type.__prepare__", Value.type "type"] }
noncomputable def obNil : Obj := { cls := Value.type "tuple", data := Data.seq #[] }
noncomputable def obNo : Obj := { cls := Value.none, data := Data.fields #[] }
noncomputable def obSup (a : Addr) : Obj := { cls := Value.type "super", data := Data.fields #[Value.ref a, Value.ref a, Value.ref a] }
noncomputable def obSub (a : Addr) : Obj := { cls := Value.type "builtin_function_or_method", data := Data.fields #[Value.builtin "object.__init_subclass__", Value.ref a] }
noncomputable def obCode (n : String) (t1 t2 t3 : Tok) (l : Nat) (r1 r2 : Addr) (x l2 : Nat) (t5 : Tok) : Obj := { cls := Value.type "code", data := Data.fields #[Value.str (Str.ofString n) t1, Value.str (Str.ofString n) t2, Value.str (Str.ofString "/claim/cut.py") t3, Value.int (Int.ofNat l) 0, Value.int 0 0, Value.int 0 0, Value.int 0 0, Value.int 0 0, Value.ref r1, Value.bool false, Value.int 181 0, Value.ref r2, Value.none, Value.none, Value.none, Value.none, Value.int (Int.ofNat x) 0, Value.int (Int.ofNat l2) 0, Value.str (Str.ofString "/claim/cut.py") t5] }
noncomputable def obFrame (a b : Addr) (n : String) (t : Tok) : Obj := { cls := Value.type "frame", slots := #[some (Value.ref a), some (Value.ref 3), some (Value.ref b), none, some (Value.str (Str.ofString n) t), none, some (Value.ref 0)] }
noncomputable def iv (n : Nat) (t : Tok) : Value := Value.int (Int.ofNat n) t
noncomputable def exObj (P : Params) : List Obj := [obPrep,
  { cls := Value.type "dict", data := Data.dict #[en P "__module__" (nat_lit 203) (Value.str (Str.ofString "pixelpress.errors") (nat_lit 194)), en P "__qualname__" (nat_lit 205) (Value.str (Str.ofString "PressError") (nat_lit 204)), en P "__firstlineno__" (nat_lit 207) (iv (nat_lit 5) (nat_lit 206)), en P "__init__" (nat_lit 215) (Value.ref (nat_lit 35)), en P "__static_attributes__" (nat_lit 217) (Value.ref (nat_lit 36))] (nat_lit 5) },
  obNil,
  { cls := Value.none, data := Data.fields #[iv (nat_lit 7) (nat_lit 0), iv (nat_lit 4) (nat_lit 0), Value.ref (nat_lit 34)] },
  obCode "PressError" (nat_lit 198) (nat_lit 199) (nat_lit 200) (nat_lit 5) (nat_lit 25) (nat_lit 26) (nat_lit 201) (nat_lit 5) (nat_lit 202),
  obFrame (nat_lit 27) (nat_lit 24) "pixelpress.errors" (nat_lit 194),
  obSup (nat_lit 38),
  obSub (nat_lit 38),
  obPrep,
  { cls := Value.type "dict", data := Data.dict #[en P "__module__" (nat_lit 232) (Value.str (Str.ofString "pixelpress.errors") (nat_lit 194)), en P "__qualname__" (nat_lit 234) (Value.str (Str.ofString "TableError") (nat_lit 233)), en P "__firstlineno__" (nat_lit 236) (iv (nat_lit 10) (nat_lit 235)), en P "__static_attributes__" (nat_lit 237) (Value.ref (nat_lit 49))] (nat_lit 4) },
  obNil,
  obNo,
  obCode "TableError" (nat_lit 227) (nat_lit 228) (nat_lit 229) (nat_lit 10) (nat_lit 45) (nat_lit 46) (nat_lit 230) (nat_lit 10) (nat_lit 231),
  obFrame (nat_lit 47) (nat_lit 44) "pixelpress.errors" (nat_lit 194),
  obSup (nat_lit 51),
  obSub (nat_lit 51),
  obPrep,
  { cls := Value.type "dict", data := Data.dict #[en P "__module__" (nat_lit 248) (Value.str (Str.ofString "pixelpress.errors") (nat_lit 194)), en P "__qualname__" (nat_lit 250) (Value.str (Str.ofString "CodeError") (nat_lit 249)), en P "__firstlineno__" (nat_lit 252) (iv (nat_lit 12) (nat_lit 251)), en P "__static_attributes__" (nat_lit 253) (Value.ref (nat_lit 61))] (nat_lit 4) },
  obNil,
  obNo,
  obCode "CodeError" (nat_lit 243) (nat_lit 244) (nat_lit 245) (nat_lit 12) (nat_lit 57) (nat_lit 58) (nat_lit 246) (nat_lit 12) (nat_lit 247),
  obFrame (nat_lit 59) (nat_lit 56) "pixelpress.errors" (nat_lit 194),
  obSup (nat_lit 63),
  obSub (nat_lit 63),
  obPrep,
  { cls := Value.type "dict", data := Data.dict #[en P "__module__" (nat_lit 264) (Value.str (Str.ofString "pixelpress.errors") (nat_lit 194)), en P "__qualname__" (nat_lit 266) (Value.str (Str.ofString "CutError") (nat_lit 265)), en P "__firstlineno__" (nat_lit 268) (iv (nat_lit 14) (nat_lit 267)), en P "__static_attributes__" (nat_lit 269) (Value.ref (nat_lit 73))] (nat_lit 4) },
  obNil,
  obNo,
  obCode "CutError" (nat_lit 259) (nat_lit 260) (nat_lit 261) (nat_lit 14) (nat_lit 69) (nat_lit 70) (nat_lit 262) (nat_lit 14) (nat_lit 263),
  obFrame (nat_lit 71) (nat_lit 68) "pixelpress.errors" (nat_lit 194),
  obSup (nat_lit 75),
  obSub (nat_lit 75),
  obPrep,
  { cls := Value.type "dict", data := Data.dict #[en P "__module__" (nat_lit 280) (Value.str (Str.ofString "pixelpress.errors") (nat_lit 194)), en P "__qualname__" (nat_lit 282) (Value.str (Str.ofString "RangeError") (nat_lit 281)), en P "__firstlineno__" (nat_lit 284) (iv (nat_lit 16) (nat_lit 283)), en P "__static_attributes__" (nat_lit 285) (Value.ref (nat_lit 85))] (nat_lit 4) },
  obNil,
  obNo,
  obCode "RangeError" (nat_lit 275) (nat_lit 276) (nat_lit 277) (nat_lit 16) (nat_lit 81) (nat_lit 82) (nat_lit 278) (nat_lit 16) (nat_lit 279),
  obFrame (nat_lit 83) (nat_lit 80) "pixelpress.errors" (nat_lit 194),
  obSup (nat_lit 87),
  obSub (nat_lit 87),
  obNil,
  obPrep,
  { cls := Value.type "dict", data := Data.dict #[en P "__module__" (nat_lit 298) (Value.str (Str.ofString "pixelpress.bits") (nat_lit 289)), en P "__qualname__" (nat_lit 300) (Value.str (Str.ofString "BitWriter") (nat_lit 299)), en P "__firstlineno__" (nat_lit 302) (iv (nat_lit 19) (nat_lit 301)), en P "__init__" (nat_lit 309) (Value.ref (nat_lit 103)), en P "put" (nat_lit 318) (Value.ref (nat_lit 110)), en P "pad" (nat_lit 325) (Value.ref (nat_lit 117)), en P "octets" (nat_lit 332) (Value.ref (nat_lit 124)), en P "__static_attributes__" (nat_lit 336) (Value.ref (nat_lit 125))] (nat_lit 8) },
  obNil,
  { cls := Value.none, data := Data.fields #[iv (nat_lit 21) (nat_lit 0), iv (nat_lit 4) (nat_lit 0), Value.ref (nat_lit 102), iv (nat_lit 26) (nat_lit 0), iv (nat_lit 4) (nat_lit 0), Value.ref (nat_lit 109), iv (nat_lit 36) (nat_lit 0), iv (nat_lit 4) (nat_lit 0), Value.ref (nat_lit 116), iv (nat_lit 40) (nat_lit 0), iv (nat_lit 4) (nat_lit 0), Value.ref (nat_lit 123)] },
  obCode "BitWriter" (nat_lit 293) (nat_lit 294) (nat_lit 295) (nat_lit 19) (nat_lit 93) (nat_lit 94) (nat_lit 296) (nat_lit 19) (nat_lit 297),
  obFrame (nat_lit 95) (nat_lit 92) "pixelpress.bits" (nat_lit 289),
  obSup (nat_lit 127),
  obSub (nat_lit 127),
  obNil,
  obPrep,
  { cls := Value.type "dict", data := Data.dict #[en P "__module__" (nat_lit 351) (Value.str (Str.ofString "pixelpress.bits") (nat_lit 289)), en P "__qualname__" (nat_lit 353) (Value.str (Str.ofString "BitReader") (nat_lit 352)), en P "__firstlineno__" (nat_lit 355) (iv (nat_lit 42) (nat_lit 354)), en P "__init__" (nat_lit 363) (Value.ref (nat_lit 145)), en P "left" (nat_lit 370) (Value.ref (nat_lit 152)), en P "bit" (nat_lit 378) (Value.ref (nat_lit 159)), en P "bits" (nat_lit 388) (Value.ref (nat_lit 166)), en P "__static_attributes__" (nat_lit 391) (Value.ref (nat_lit 167))] (nat_lit 8) },
  obNil,
  { cls := Value.none, data := Data.fields #[iv (nat_lit 44) (nat_lit 0), iv (nat_lit 4) (nat_lit 0), Value.ref (nat_lit 144), iv (nat_lit 48) (nat_lit 0), iv (nat_lit 4) (nat_lit 0), Value.ref (nat_lit 151), iv (nat_lit 51) (nat_lit 0), iv (nat_lit 4) (nat_lit 0), Value.ref (nat_lit 158), iv (nat_lit 58) (nat_lit 0), iv (nat_lit 4) (nat_lit 0), Value.ref (nat_lit 165)] },
  obCode "BitReader" (nat_lit 346) (nat_lit 347) (nat_lit 348) (nat_lit 42) (nat_lit 135) (nat_lit 136) (nat_lit 349) (nat_lit 42) (nat_lit 350),
  obFrame (nat_lit 137) (nat_lit 134) "pixelpress.bits" (nat_lit 289),
  obSup (nat_lit 169),
  obSub (nat_lit 169),
  obNil,
  obPrep,
  { cls := Value.type "dict", data := Data.dict #[en P "__module__" (nat_lit 455) (Value.str (Str.ofString "pixelpress.progressive_ac") (nat_lit 424)), en P "__qualname__" (nat_lit 457) (Value.str (Str.ofString "AcFirstWriter") (nat_lit 456)), en P "__firstlineno__" (nat_lit 459) (iv (nat_lit 85) (nat_lit 458)), en P "__init__" (nat_lit 468) (Value.ref (nat_lit 222)), en P "start" (nat_lit 475) (Value.ref (nat_lit 229)), en P "put_run" (nat_lit 484) (Value.ref (nat_lit 236)), en P "put_value" (nat_lit 494) (Value.ref (nat_lit 243)), en P "code" (nat_lit 506) (Value.ref (nat_lit 250)), en P "finish" (nat_lit 513) (Value.ref (nat_lit 257)), en P "__static_attributes__" (nat_lit 518) (Value.ref (nat_lit 258))] (nat_lit 10) },
  obNil,
  { cls := Value.none, data := Data.fields #[iv (nat_lit 87) (nat_lit 0), iv (nat_lit 4) (nat_lit 0), Value.ref (nat_lit 221), iv (nat_lit 93) (nat_lit 0), iv (nat_lit 4) (nat_lit 0), Value.ref (nat_lit 228), iv (nat_lit 96) (nat_lit 0), iv (nat_lit 4) (nat_lit 0), Value.ref (nat_lit 235), iv (nat_lit 104) (nat_lit 0), iv (nat_lit 4) (nat_lit 0), Value.ref (nat_lit 242), iv (nat_lit 115) (nat_lit 0), iv (nat_lit 4) (nat_lit 0), Value.ref (nat_lit 249), iv (nat_lit 129) (nat_lit 0), iv (nat_lit 4) (nat_lit 0), Value.ref (nat_lit 256)] },
  obCode "AcFirstWriter" (nat_lit 450) (nat_lit 451) (nat_lit 452) (nat_lit 85) (nat_lit 212) (nat_lit 213) (nat_lit 453) (nat_lit 85) (nat_lit 454),
  obFrame (nat_lit 214) (nat_lit 211) "pixelpress.progressive_ac" (nat_lit 424),
  obSup (nat_lit 260),
  obSub (nat_lit 260),
  obNil,
  obPrep,
  { cls := Value.type "dict", data := Data.dict #[en P "__module__" (nat_lit 533) (Value.str (Str.ofString "pixelpress.progressive_ac") (nat_lit 424)), en P "__qualname__" (nat_lit 535) (Value.str (Str.ofString "AcFirstReader") (nat_lit 534)), en P "__firstlineno__" (nat_lit 537) (iv (nat_lit 132) (nat_lit 536)), en P "__init__" (nat_lit 546) (Value.ref (nat_lit 278)), en P "start" (nat_lit 554) (Value.ref (nat_lit 285)), en P "read" (nat_lit 569) (Value.ref (nat_lit 292)), en P "finish" (nat_lit 576) (Value.ref (nat_lit 299)), en P "__static_attributes__" (nat_lit 581) (Value.ref (nat_lit 300))] (nat_lit 8) },
  obNil,
  { cls := Value.none, data := Data.fields #[iv (nat_lit 134) (nat_lit 0), iv (nat_lit 4) (nat_lit 0), Value.ref (nat_lit 277), iv (nat_lit 140) (nat_lit 0), iv (nat_lit 4) (nat_lit 0), Value.ref (nat_lit 284), iv (nat_lit 144) (nat_lit 0), iv (nat_lit 4) (nat_lit 0), Value.ref (nat_lit 291), iv (nat_lit 166) (nat_lit 0), iv (nat_lit 4) (nat_lit 0), Value.ref (nat_lit 298)] },
  obCode "AcFirstReader" (nat_lit 528) (nat_lit 529) (nat_lit 530) (nat_lit 132) (nat_lit 268) (nat_lit 269) (nat_lit 531) (nat_lit 132) (nat_lit 532),
  obFrame (nat_lit 270) (nat_lit 267) "pixelpress.progressive_ac" (nat_lit 424),
  obSup (nat_lit 302),
  obSub (nat_lit 302),
  obNil,
  obPrep,
  { cls := Value.type "dict", data := Data.dict #[en P "__module__" (nat_lit 624) (Value.str (Str.ofString "pixelpress.huffman") (nat_lit 589)), en P "__qualname__" (nat_lit 626) (Value.str (Str.ofString "HuffTable") (nat_lit 625)), en P "__firstlineno__" (nat_lit 628) (iv (nat_lit 194) (nat_lit 627)), en P "__init__" (nat_lit 642) (Value.ref (nat_lit 334)), en P "code" (nat_lit 651) (Value.ref (nat_lit 341)), en P "read" (nat_lit 663) (Value.ref (nat_lit 348)), en P "__static_attributes__" (nat_lit 668) (Value.ref (nat_lit 349))] (nat_lit 7) },
  obNil,
  { cls := Value.none, data := Data.fields #[iv (nat_lit 196) (nat_lit 0), iv (nat_lit 4) (nat_lit 0), Value.ref (nat_lit 333), iv (nat_lit 207) (nat_lit 0), iv (nat_lit 4) (nat_lit 0), Value.ref (nat_lit 340), iv (nat_lit 213) (nat_lit 0), iv (nat_lit 4) (nat_lit 0), Value.ref (nat_lit 347)] },
  obCode "HuffTable" (nat_lit 619) (nat_lit 620) (nat_lit 621) (nat_lit 194) (nat_lit 324) (nat_lit 325) (nat_lit 622) (nat_lit 194) (nat_lit 623),
  obFrame (nat_lit 326) (nat_lit 323) "pixelpress.huffman" (nat_lit 589),
  obSup (nat_lit 351),
  obSub (nat_lit 351),
  obNil,
  obPrep,
  { cls := Value.type "dict", data := Data.dict #[en P "__module__" (nat_lit 685) (Value.str (Str.ofString "pixelpress.progressive_dc") (nat_lit 676)), en P "__qualname__" (nat_lit 687) (Value.str (Str.ofString "DcRefineWriter") (nat_lit 686)), en P "__firstlineno__" (nat_lit 689) (iv (nat_lit 221) (nat_lit 688)), en P "__init__" (nat_lit 698) (Value.ref (nat_lit 369)), en P "start" (nat_lit 705) (Value.ref (nat_lit 376)), en P "code" (nat_lit 714) (Value.ref (nat_lit 383)), en P "finish" (nat_lit 721) (Value.ref (nat_lit 390)), en P "__static_attributes__" (nat_lit 724) (Value.ref (nat_lit 391))] (nat_lit 8) },
  obNil,
  { cls := Value.none, data := Data.fields #[iv (nat_lit 223) (nat_lit 0), iv (nat_lit 4) (nat_lit 0), Value.ref (nat_lit 368), iv (nat_lit 227) (nat_lit 0), iv (nat_lit 4) (nat_lit 0), Value.ref (nat_lit 375), iv (nat_lit 230) (nat_lit 0), iv (nat_lit 4) (nat_lit 0), Value.ref (nat_lit 382), iv (nat_lit 233) (nat_lit 0), iv (nat_lit 4) (nat_lit 0), Value.ref (nat_lit 389)] },
  obCode "DcRefineWriter" (nat_lit 680) (nat_lit 681) (nat_lit 682) (nat_lit 221) (nat_lit 359) (nat_lit 360) (nat_lit 683) (nat_lit 221) (nat_lit 684),
  obFrame (nat_lit 361) (nat_lit 358) "pixelpress.progressive_dc" (nat_lit 676),
  obSup (nat_lit 393),
  obSub (nat_lit 393),
  obNil,
  obPrep,
  { cls := Value.type "dict", data := Data.dict #[en P "__module__" (nat_lit 739) (Value.str (Str.ofString "pixelpress.progressive_dc") (nat_lit 676)), en P "__qualname__" (nat_lit 741) (Value.str (Str.ofString "DcRefineReader") (nat_lit 740)), en P "__firstlineno__" (nat_lit 743) (iv (nat_lit 235) (nat_lit 742)), en P "__init__" (nat_lit 751) (Value.ref (nat_lit 411)), en P "start" (nat_lit 759) (Value.ref (nat_lit 418)), en P "read" (nat_lit 768) (Value.ref (nat_lit 425)), en P "finish" (nat_lit 775) (Value.ref (nat_lit 432)), en P "__static_attributes__" (nat_lit 778) (Value.ref (nat_lit 433))] (nat_lit 8) },
  obNil,
  { cls := Value.none, data := Data.fields #[iv (nat_lit 237) (nat_lit 0), iv (nat_lit 4) (nat_lit 0), Value.ref (nat_lit 410), iv (nat_lit 241) (nat_lit 0), iv (nat_lit 4) (nat_lit 0), Value.ref (nat_lit 417), iv (nat_lit 244) (nat_lit 0), iv (nat_lit 4) (nat_lit 0), Value.ref (nat_lit 424), iv (nat_lit 249) (nat_lit 0), iv (nat_lit 4) (nat_lit 0), Value.ref (nat_lit 431)] },
  obCode "DcRefineReader" (nat_lit 734) (nat_lit 735) (nat_lit 736) (nat_lit 235) (nat_lit 401) (nat_lit 402) (nat_lit 737) (nat_lit 235) (nat_lit 738),
  obFrame (nat_lit 403) (nat_lit 400) "pixelpress.progressive_dc" (nat_lit 676),
  obSup (nat_lit 435),
  obSub (nat_lit 435),
  obNil,
  obPrep,
  { cls := Value.type "dict", data := Data.dict #[en P "__module__" (nat_lit 795) (Value.str (Str.ofString "pixelpress.scans") (nat_lit 786)), en P "__qualname__" (nat_lit 797) (Value.str (Str.ofString "Scan") (nat_lit 796)), en P "__firstlineno__" (nat_lit 799) (iv (nat_lit 252) (nat_lit 798)), en P "__init__" (nat_lit 813) (Value.ref (nat_lit 453)), en P "is_alone" (nat_lit 820) (Value.ref (nat_lit 460)), en P "is_finer" (nat_lit 827) (Value.ref (nat_lit 467)), en P "__static_attributes__" (nat_lit 835) (Value.ref (nat_lit 468))] (nat_lit 7) },
  obNil,
  { cls := Value.none, data := Data.fields #[iv (nat_lit 254) (nat_lit 0), iv (nat_lit 4) (nat_lit 0), Value.ref (nat_lit 452), iv (nat_lit 263) (nat_lit 0), iv (nat_lit 4) (nat_lit 0), Value.ref (nat_lit 459), iv (nat_lit 266) (nat_lit 0), iv (nat_lit 4) (nat_lit 0), Value.ref (nat_lit 466)] },
  obCode "Scan" (nat_lit 790) (nat_lit 791) (nat_lit 792) (nat_lit 252) (nat_lit 443) (nat_lit 444) (nat_lit 793) (nat_lit 252) (nat_lit 794),
  obFrame (nat_lit 445) (nat_lit 442) "pixelpress.scans" (nat_lit 786),
  obSup (nat_lit 470),
  obSub (nat_lit 470),
  obNil,
  obPrep,
  { cls := Value.type "dict", data := Data.dict #[en P "__module__" (nat_lit 852) (Value.str (Str.ofString "pixelpress.sinks") (nat_lit 843)), en P "__qualname__" (nat_lit 854) (Value.str (Str.ofString "CodeSink") (nat_lit 853)), en P "__firstlineno__" (nat_lit 856) (iv (nat_lit 269) (nat_lit 855)), en P "__init__" (nat_lit 864) (Value.ref (nat_lit 488)), en P "symbol" (nat_lit 875) (Value.ref (nat_lit 495)), en P "bits" (nat_lit 884) (Value.ref (nat_lit 502)), en P "finish" (nat_lit 892) (Value.ref (nat_lit 509)), en P "__static_attributes__" (nat_lit 895) (Value.ref (nat_lit 510))] (nat_lit 8) },
  obNil,
  { cls := Value.none, data := Data.fields #[iv (nat_lit 271) (nat_lit 0), iv (nat_lit 4) (nat_lit 0), Value.ref (nat_lit 487), iv (nat_lit 275) (nat_lit 0), iv (nat_lit 4) (nat_lit 0), Value.ref (nat_lit 494), iv (nat_lit 279) (nat_lit 0), iv (nat_lit 4) (nat_lit 0), Value.ref (nat_lit 501), iv (nat_lit 282) (nat_lit 0), iv (nat_lit 4) (nat_lit 0), Value.ref (nat_lit 508)] },
  obCode "CodeSink" (nat_lit 847) (nat_lit 848) (nat_lit 849) (nat_lit 269) (nat_lit 478) (nat_lit 479) (nat_lit 850) (nat_lit 269) (nat_lit 851),
  obFrame (nat_lit 480) (nat_lit 477) "pixelpress.sinks" (nat_lit 843),
  obSup (nat_lit 512),
  obSub (nat_lit 512)]
noncomputable def fillL (l : List (Addr × Obj)) : Nat → List Obj → List Obj :=
  List.rec (fun _ e => e) (fun p _ ih n e => e.take (p.1 - n) ++ p.2 :: ih (p.1 + 1) (e.drop (p.1 - n))) l
noncomputable def evL (l : List Obj) : Bool → List Obj :=
  List.rec (fun _ => []) (fun x _ ih b => cond b (x :: ih false) (ih true)) l
noncomputable def ofL (k : Nat) : List Obj → BT :=
  Nat.rec (fun _ => .nil) (fun _ ih l => List.rec .nil (fun x r _ => .node x (ih (evL r true)) (ih (evL r false))) l) k
noncomputable def finL (P : Params) : List Obj := fillL (hd.heap_1 P) 0 (exObj P)
/-- the module's names and lines, as they stood when fewer were bound -/
noncomputable def cutD (v : Value) (m : Nat) (d : Data) : Data := match d with
  | .dict es _ => .dict (match es.toList.take m with | e :: r => ({ e with val := v } :: r).toArray | [] => #[]) m
  | .fields vs => .fields (vs.toList.take m).toArray
  | d => d
noncomputable def cutO (v : Value) (m : Nat) (o : Obj) : Obj := ⟨o.cls, o.dict, cutD v m o.data, o.slots⟩
noncomputable def midT (P : Params) (os : OsState) (n : Nat) (x : String) (u m k t : Nat) : SharedT :=
  ⟨ofL 11 ((((finL P).take n).modify 3 (cutO (Value.str (Str.ofString x) u) m)).modify 12 (cutO .none k)), n, {}, #[], boot_drawn, t, os⟩
noncomputable def finT (P : Params) (os : OsState) : SharedT := ⟨ofL 11 (finL P), 570, {}, #[], boot_drawn, 973, os⟩
noncomputable def segL (q : Program) (w : World) (a n : Nat) (p : Pos) (s : SharedT) := (segRunT treeTable q w 11 (some (.ref 6)) 1 1500 s (piecesOf (((bodyQ q).drop a).take n) (topEnvQ q) (codeQ q) p [topFrame pos0])).map fun r => (r.1, r.2.2.1, r.2.2.2, r.2.1)
noncomputable def lookF (q : Program) (w : World) (os : OsState) (s : SharedT) := lookT q (boot0 w os) s
noncomputable def topG (q : Program) := (codeQ q, openGood (viewQ q) [])
theorem twins : (fun (_ : Program → World → Nat → Nat → Pos → SharedT → Option (Flow × Code × Pos × SharedT)) (_ : Program → World → OsState → SharedT → _) (_ : Program → Code × _) => true) segL lookF topG = true := by k_qdec
noncomputable def pos1 : Pos := ⟨16, 0, 17, 8⟩
noncomputable def pos2 : Pos := ⟨85, 0, 131, 33⟩
noncomputable def pos3 : Pos := ⟨221, 0, 234, 33⟩
noncomputable def pos4 : Pos := ⟨365, 0, 373, 93⟩
noncomputable abbrev mid1 (w : World) (os : OsState) : SharedT := midT w.params os 90 "pixelpress.errors" 194 15 18 289
noncomputable abbrev mid2 (w : World) (os : OsState) : SharedT := midT w.params os 265 "pixelpress.progressive_ac" 424 26 42 526
noncomputable abbrev mid3 (w : World) (os : OsState) : SharedT := midT w.params os 398 "pixelpress.progressive_dc" 676 33 57 732
theorem run1 (w : World) (os : OsState) : PySem.W.Fast.tw12065274924371292643 pw w 0 7 pos0 (st0 w os) = some (.next, (topG pw).1, pos1, mid1 w os) := by kernel_rfl
theorem run2 (w : World) (os : OsState) : PySem.W.Fast.tw12065274924371292643 pw w 7 14 pos1 (mid1 w os) = some (.next, (topG pw).1, pos2, mid2 w os) := by kernel_rfl
theorem run3 (w : World) (os : OsState) : PySem.W.Fast.tw12065274924371292643 pw w 21 9 pos2 (mid2 w os) = some (.next, (topG pw).1, pos3, mid3 w os) := by kernel_rfl
theorem run4 (w : World) (os : OsState) : PySem.W.Fast.tw12065274924371292643 pw w 30 15 pos3 (mid3 w os) = some (.next, (topG pw).1, pos4, finT w.params os) := by kernel_rfl
theorem top_looks (w : World) (os : OsState) : PySem.W.Fast.tw6502775415989476250 pw w os (finT w.params os) = (true, (topG pw).2, (hd.heap_1 w.params).map fun p => some p.2) := by kernel_rfl

theorem top_pre (w : World) (os : OsState) : topGo treeTable pw w 11 (some (.ref 6)) 12 (boot0 w os) (topStub pw) = some ((st0 w os).abs, ⟨denote treeTable codeE, codeE, pos0, [topFrame pos0]⟩) := by kernel_rfl
theorem top_blk (w : World) (os : OsState) : segRun treeTable pw w 11 (some (.ref 6)) 1 1 (st0 w os).abs (blockOf bodyE topEnv codeE pos0 [topFrame pos0]) = some (.next, (st0 w os).abs, codeE, pos0) := by kernel_rfl
theorem top_fin (w : World) (s : Shared) (p : Pos) : topRun treeTable pw w 11 (some (.ref 6)) 2 s ⟨doneF .next, codeE, p, [topFrame pos0]⟩ = some s := by
  obtain ⟨h, g, d, t, os⟩ := s
  kernel_rfl
theorem top_open (w : World) : (fencedOpening treeTable pw w 9366).map (fun s => (s.heap, s.gens, s.drawn, s.toks)) = some (boot_heap w.params, Array.mk [], boot_drawn, boot_toks) :=
  boot_open (by kernel_rfl) (by decide +kernel) (fun s => by kernel_rfl) w
theorem top_size (w : World) : ((boot_heap w.params).isNs mainGlobals && (#[] : Array GenState).size == 0, (boot_heap w.params).objs.size, (boot_heap w.params).nsMap mainGlobals "__annotations__") = (true, 11, some (.ref 6)) := by kernel_rfl
theorem view_is : hd.view_1 = topView := by kernel_rfl
theorem as_is (P : Params) : (hd.heap_1 P).map (·.1) = topAs := by kernel_rfl
theorem take_run {σ γ δ ε : Type} {x : Option (Flow × σ × γ × δ)} {L : σ → ε} {fl : Flow} {c : γ} {p : δ} {g : ε} (h : x.map (fun r => (r.1, r.2.2.1, r.2.2.2, L r.2.1)) = some (fl, c, p, g)) : ∃ s, x = some (fl, s, c, p) ∧ L s = g := by
  obtain ⟨⟨a, s, b, d⟩, h1, h2⟩ := Option.map_eq_some_iff.mp h
  obtain ⟨rfl, rfl, rfl, rfl⟩ : a = fl ∧ b = c ∧ d = p ∧ L s = g := by simpa using h2
  exact ⟨s, h1, rfl⟩
theorem segL_eq (w : World) (a n : Nat) (p : Pos) (s : SharedT) : segL pw w a n p s = (segRunT treeTable pw w 11 (some (.ref 6)) 1 1500 s (piecesOf ((bodyE.drop a).take n) topEnv codeE p [topFrame pos0])).map fun r => (r.1, r.2.2.1, r.2.2.2, r.2.1) := by delta segL; exact Eq.refl _
theorem topG_1 : (topG pw).1 = codeE := by delta topG; exact Eq.refl _
theorem topG_2 : (topG pw).2 = openGood topView [] := by delta topG; exact Eq.refl _
theorem seg_of {w : World} {a n : Nat} {p p' : Pos} {s s' : SharedT} (h : PySem.W.Fast.tw12065274924371292643 pw w a n p s = some (.next, (topG pw).1, p', s')) :
    segRun treeTable pw w 11 (some (.ref 6)) 1 1500 s.abs (piecesOf ((bodyE.drop a).take n) topEnv codeE p [topFrame pos0]) = some (.next, s'.abs, codeE, p') := by
  have h := (congrFun (congrFun (congrFun (congrFun (congrFun (congrFun PySem.W.Fast.te12065274924371292643 pw) w) a) n) p) s).trans h
  rw [segL_eq, topG_1] at h
  obtain ⟨s1, e, rfl⟩ := take_run (L := fun sT : SharedT => sT) h
  exact segRun_of e
theorem lookF_eq (w : World) (os : OsState) (s : SharedT) : lookF pw w os s = lookT pw (boot0 w os) s := by delta lookF; exact Eq.refl _
theorem top_w3 (w : World) (os : OsState) : lookT pw (boot0 w os) (finT w.params os) = (true, (topG pw).2, (hd.heap_1 w.params).map fun p => some p.2) :=
  (lookF_eq w os _).symm.trans ((congrFun (congrFun (congrFun (congrFun PySem.W.Fast.te6502775415989476250 pw) w) os) _).trans (top_looks w os))
theorem body_is : (bodyE.drop 0).take 7 ++ ((bodyE.drop 7).take 14 ++ ((bodyE.drop 21).take 9 ++ ((bodyE.drop 30).take 15 ++ []))) = bodyE := by kernel_rfl
theorem prog_is : PySem.Challenge.rw_nz0255_01.row.prog = pw := by kernel_rfl
theorem recs_is : PySem.Challenge.rw_nz0255_01.row.records = [] := by kernel_rfl
theorem top_run (w : World) (os : OsState) : ∃ sT : SharedT, topRun treeTable pw w 11 (some (.ref 6)) 9366 (boot0 w os) (topStub pw) = some sT.abs ∧ lookAt (boot0 w os) sT.abs = (true, openGood topView [], (hd.heap_1 w.params).map fun p => some p.2) := by
  have r2 := top_w3 w os
  rw [topG_2] at r2
  have r := piece_app (rest := []) (seg_of (run4 w os)) (top_fin w (finT w.params os).abs _)
  have r := piece_app (seg_of (run3 w os)) r
  have r := piece_app (seg_of (run2 w os)) r
  have r := piece_app (seg_of (run1 w os)) r
  rw [body_is] at r
  have r := go_top (top_pre w os) (piece_block (top_blk w os) r)
  have r := topRun_mono 3351 _ _ _ _ r
  rw [show 12 + (1 + (1500 + (1500 + (1500 + (1500 + 2))))) + 3351 = 9366 from by decide] at r
  obtain ⟨e1, e2⟩ := Prod.mk.inj r2
  obtain ⟨e2, e3⟩ := Prod.mk.inj e2
  exact ⟨_, r, Prod.ext e1 (Prod.ext e2 (map_get (fun a o => getT_get) _ _ e3))⟩
theorem top_from (w : World) (os : OsState) : ∃ s : Shared, topFrom treeTable pw w 9366 (boot0 w os) = some s ∧ lookAt (boot0 w os) s = (true, openGood topView [], (hd.heap_1 w.params).map fun p => some p.2) := by
  obtain ⟨sT, r, r2⟩ := top_run w os
  refine ⟨sT.abs, ?_, r2⟩
  generalize sT.abs = s at *
  have l1 : (staticsOk (importedModules pw.main.body) (boot0 w os).heap s.heap && namesBound pw s.heap && gensDone s && laidKept (boot0 w os).heap s.heap) = true := (Prod.mk.inj r2).1
  have z : ((boot0 w os).heap.isNs mainGlobals && (boot0 w os).gens.size == 0) = true ∧ (boot0 w os).heap.objs.size = 11 ∧ (boot0 w os).heap.nsMap mainGlobals "__annotations__" = some (.ref 6) := by
    have := top_size w
    exact ⟨(Prod.mk.inj this).1, (Prod.mk.inj (Prod.mk.inj this).2).1, (Prod.mk.inj (Prod.mk.inj this).2).2⟩
  obtain ⟨z1, z2, z3⟩ := z
  unfold topFrom
  rw [z1]
  dsimp only
  rw [z2, z3, r]
  rw [Option.bind_some, l1]
theorem left_core (w : World) : (openEnds treeTable pw w 9366).map (fun s => (openSeen topView [] (importedModules pw.main.body) (fun s => xlAt topView [] s && recOk [] s) true s, topAs.map s.heap.get?)) = some (openGood topView [], (hd.heap_1 w.params).map fun p => some p.2) := by
  obtain ⟨⟨h, gs, d, k, os⟩, e0, e'⟩ := Option.map_eq_some_iff.mp (top_open w)
  have e' : (h, gs, d, k) = (boot_heap w.params, Array.mk [], boot_drawn, boot_toks) := e'
  cases e'
  obtain ⟨s, t, r2⟩ := top_from w os
  unfold openEnds
  rw [e0, Option.bind_some]
  rw [show topFrom treeTable pw w 9366 ⟨boot_heap w.params, Array.mk [], boot_drawn, boot_toks, os⟩ = some s from t, Option.map_some]
  exact congrArg some (Prod.mk.inj r2).2
theorem left_of {as : List Addr} (e : ∀ P, as = (hd.heap_1 P).map (·.1)) : LeftO PySem.Challenge.rw_nz0255_01.row.prog hd.view_1 [] (fun s => xlAt hd.view_1 [] s && recOk PySem.Challenge.rw_nz0255_01.row.records s) (kHook hd.heap_1 as e).obs (kHook hd.heap_1 as e).val 9366 := by
  intro w
  obtain rfl : as = topAs := (e w.params).trans (as_is w.params)
  rw [view_is, prog_is, recs_is]
  exact left_core w
theorem top_off2 : True := by
  w_top off
  trivial
set_option compiler.extract_closed false
theorem size_none : PySem.Str.length PySem.Str.empty ≤ sizeLine := Nat.le_of_ble_eq_true rfl
local macro_rules | `(tactic| size_fits) => `(tactic| first | (k_whole; with_unfolding_all exact Nat.le_of_ble_eq_true rfl) | ((fail_if_success k_whole); with_reducible exact size_none))
/-! C2 -/
noncomputable def Fill (_ : OpenLaw) (_ : Params → Frag) : Prop := True
theorem fill : Fill PySem.Challenge.rw_nz0255_01 hd.heap_1 := by k_fill; trivial
/-- a function on the road never raises -/
noncomputable abbrev NoE : Value → Shared → Prop := fun _ _ => False
/-- all objects stand but those named -/
noncomputable def Kept (as : List Addr) (h h' : Heap) : Prop := ∀ b o, h.get? b = some o → b ∉ as → h'.get? b = some o
theorem with_as {h₀ h : Heap} {L : Addr} {news : List (Addr × Obj)} {P : Prop} (_N : News h₀ L h news) (k : ∀ as : List Addr, news.map (·.1) = as → P) : P := k _ rfl
theorem kept_as {as l : List Addr} {h h' : Heap} (e : l = as) (k : Kept as h h') : Kept l h h' := e ▸ k
noncomputable def retOf : Flow → Value
  | .ret v => v
  | _ => .none
/-- what a call's end shows -/
noncomputable def Ends (h₀ : Heap) (L : Addr) (m : Str → Option Value) (as : List Addr) (h : Heap) (g : Heap) (L' : Addr) (R : Result → Shared → Prop) (PP : Flow → Shared → Prop) : Prop :=
  ∀ (fl : Flow) (s' : Shared) (m' : Str → Option Value) (news' : List (Addr × Obj)), Fr g L' s'.heap m' → News g L' s'.heap news' → (Fr h₀ L s'.heap m → News h₀ L s'.heap news' → Kept as h s'.heap → R (.ok (.ret (retOf fl))) s') → PP fl s'

section
variable {prog : Program} {w : World} {A A₀ : Around} {s : Shared} {K : Frag} {L : Addr} {h₀ base : Heap} {m mg mb : Str → Option Value} {news : List (Addr × Obj)} {p : Program} {loose : List Str} {mean : ExcName → Option Value}
theorem ends_of {as : List Addr} {h g : Heap} {L' : Addr} {R : Result → Shared → Prop} {RR : Value → Shared → Prop} (HG : ∀ b o, h.get? b = some o → b ∉ as → g.get? b = some o)
    (lv : ∀ v s', RR v s' → R (.ok (.ret v)) s') (lk : ∀ v s', LeaveK h₀ L m g R v s' → RR v s') : Ends h₀ L m as h g L' R (fun fl s' => R (.ok (.ret (retOf fl))) s') := fun _ _ m' news' F' N' k =>
  lv _ _ (lk _ _ ⟨L', m', news', F', N', fun F8 N8 => k F8 N8 fun b o e hn => F'.keep b o (HG b o e hn)⟩)
theorem code_defK {env : Env} {outer : List Env} {R : Result → Shared → Prop} {name qual : Str} {params : Arguments} {body : List Stmt} {scope : Scope} {dV kV doc pm cdv ct oc : Value} {an od : Option Addr} {osl : Array (Option Value)} {f : Addr} {args : Args} {binds : List (Str × Value)} {as : List Addr}
    (B : Below A₀ base outer h₀) (F : Fr h₀ L s.heap m) (X₀ : K.In h₀) (N : News h₀ L s.heap news) (T : Top p loose mean mg mb h₀) (hA : A.frames = some (env :: outer)) (hf : env.frame = some L) (hke : env.scope.kind = .function)
    (ho : K.lookup f = some ⟨oc, od, .func (fnOf name qual params body scope dV kV doc pm an cdv ct), osl⟩) (hcd : codeIn K cdv qual = true) (hroom : A.depth < recursionLimit)
    (hbind : BindsTo s (fnOf name qual params body scope dV kV doc pm an cdv ct) args binds) (hloc : ∀ y ∈ binds, scope.names.lookup y.1 = some .local) (has : news.map (·.1) = as)
    (h : ∀ g L' h₁ PP, Fr g L' h₁ (fun y => binds.reverse.lookup y) → News g L' h₁ news → Below A base (env :: outer) g → K.In g → Top p loose mean mg mb g → Ends h₀ L m as s.heap g L' R PP →
      wpAny (model prog w) (A.deeper (envOf qual scope L' f cdv)) (execs body (envOf qual scope L' f cdv)) PP NoE { s with heap := h₁, toks := s.toks + binds.length })
    (hco : scope.isCoroutine = false) (hgen : scope.isGenerator = false) (hk : scope.kind = .function)
    (hcell : ∀ x ∈ scope.names, x.2 ≠ .cell) : codeAny (model prog w) A (.call (.ref f) args) R s := by
  subst has
  obtain ⟨FG, BG, st, lv⟩ := groundX (R := R) B F N hA hf hke
  have X := X₀.keeps F.keep
  refine codeAny_call_def (fd := fnOf name qual params body scope dV kV doc pm an cdv ct) (body := body) (binds := binds) hroom (X _ _ ho) rfl (T.nolimit.keeps F.keep) (codeRec_of X hcd) rfl hbind hcell hloc (fun h₁ hns hk₁ => ?_) hco hgen hk
  refine wpAny_mono (h _ s.heap.objs.size h₁ _ ⟨hns, fun b o e => hk₁ b o (of_hideAll _ e), Nat.le_of_eq (hideAll_size _ _)⟩
    (fun p hp => ⟨hk₁ _ _ (N p hp).1, Nat.ne_of_lt (Heap.lt_size (N p hp).1), hideAll_none _ (List.mem_map_of_mem hp)⟩) BG (X₀.keeps st) (T.keeps st) (ends_of (fun b o e hn => hideAll_get _ e hn) (fun _ _ z => z) lv)) (fun fl s' hl => by cases fl <;> exact hl) fun _ _ y => y.elim
theorem code_defCK {env : Env} {outer : List Env} {R : Result → Shared → Prop} {name qual : Str} {params : Arguments} {body : List Stmt} {scope : Scope} {dV kV doc pm cdv ct oc : Value} {an od : Option Addr} {osl : Array (Option Value)} {f : Addr} {args : Args} {binds : List (Str × Value)} {as : List Addr}
    (B : Below A₀ base outer h₀) (F : Fr h₀ L s.heap m) (X₀ : K.In h₀) (N : News h₀ L s.heap news) (T : Top p loose mean mg mb h₀) (hA : A.frames = some (env :: outer)) (hf : env.frame = some L) (hke : env.scope.kind = .function)
    (ho : K.lookup f = some ⟨oc, od, .func (fnOf name qual params body scope dV kV doc pm an cdv ct), osl⟩) (hcd : codeIn K cdv qual = true) (hroom : A.depth < recursionLimit)
    (hbind : BindsTo s (fnOf name qual params body scope dV kV doc pm an cdv ct) args binds) (hkind : (binds.all fun y => scope.names.lookup y.1 == some .local || scope.names.lookup y.1 == some .cell) = true)
    (hnd : ((cellsFrom 0 scope.names []).map (·.1)).Nodup) (has : news.map (·.1) = as)
    (h : ∀ g L' h₁ tk cells PP, Fr g L' h₁ (bindL (envOfC qual scope L' f cdv).kindOf binds fun _ => none) → News g L' h₁ (cells ++ news) →
      CellsAre (bindC (envOfC qual scope L' f cdv).kindOf binds fun _ => none) (cellsFrom (L' + 1) scope.names []) cells → Below A base (env :: outer) g → K.In g → Top p loose mean mg mb g → (∀ p ∈ news, p.1 < L') → Ends h₀ L m as s.heap g L' R PP →
      wpAny (model prog w) (A.deeper (envOfC qual scope L' f cdv)) (execs body (envOfC qual scope L' f cdv)) PP NoE { s with heap := h₁, toks := tk })
    (hco : scope.isCoroutine = false) (hgen : scope.isGenerator = false) (hk : scope.kind = .function) : codeAny (model prog w) A (.call (.ref f) args) R s := by
  subst has
  obtain ⟨FG, BG, st, lv⟩ := groundX (R := R) B F N hA hf hke
  have X := X₀.keeps F.keep
  refine codeAny_call_function (fd := fnOf name qual params body scope dV kV doc pm an cdv ct) hroom (X _ _ ho) rfl hco hgen rfl (codeRec_of X hcd) (hbind _ _ _ _ ?_)
  refine wpAny_newFunctionEnv_cells hk (kindsX hkind _) fun env' he s' x => ?_
  subst he
  refine ⟨(T.nolimit.keeps F.keep).keeps x.toInCall.keep, codeAny_func ?_⟩
  obtain ⟨h₁, tk, rfl, _⟩ := x.done
  have hk₁ := x.toInCall.keep
  obtain ⟨cells, NC, Y⟩ := Cl.news (h₀ := s.heap) (Nat.le_refl _) fun n c hm => ⟨x.cell n c (lookup_of_mem_nodup (cellsFrom_names scope.names 0 (s.heap.objs.size + 1) [] [] rfl ▸ hnd) hm), x.above n c hm⟩
  refine wpAny_mono (h _ s.heap.objs.size h₁ tk cells _ ⟨x.toInCall.ns, fun b o e => hk₁ b o (of_hideAll _ e), Nat.le_of_eq (hideAll_size _ _)⟩ (fun p hp => ?_) Y BG (X₀.keeps st) (T.keeps st) (fun p hp => Heap.lt_size (N p hp).1) (ends_of (fun b o e hn => hideAll_get _ e hn) (fun _ _ z => z) lv)) (fun fl s' hl => by cases fl <;> exact hl) fun _ _ y => y.elim
  rcases List.mem_append.mp hp with hp | hp
  · refine ⟨(NC p hp).1, (NC p hp).2.1, ?_⟩
    cases q : (hideAll s.heap (news.map (·.1))).get? p.1 with
    | none => rfl
    | some o => have := of_hideAll _ q; rw [(NC p hp).2.2] at this; cases this
  · exact ⟨hk₁ _ _ (N p hp).1, Nat.ne_of_lt (Heap.lt_size (N p hp).1), hideAll_none _ (List.mem_map_of_mem hp)⟩
end
/-! C3 -/
/-! the composites over clean contexts -/
section
variable {α β : Type} {M : Model} {A : Around} {E : Value → Shared → Prop} {s : Shared} {env : Env}
theorem c_at {pos : Pos} {f : Unit → Sem α} {Q : α → Shared → Prop} (h : wpC M A (f ()) Q E s) : wpC M A (standAt pos >>= f) Q E s := c_leaf (wpAny_standAt h)
theorem c_execs_nil {Q : Flow → Shared → Prop} (h : Q .next s) : wpC M A (execs [] env) Q E s := c_any (wpAny_execs_nil h)
theorem c_execs_cons {st rest} {Q : Flow → Shared → Prop}
    (h : wpC M A (exec st env) (fun f s' => match f with | .next => wpC M A (execs rest env) Q E s' | f => Q f s') E s) : wpC M A (execs (st :: rest) env) Q E s := by
  rw [execs_cons]
  refine c_bind (c_mono h (fun f s' h' => ?_) fun _ _ x => x)
  cases f <;> first | exact h' | exact c_pure h'
theorem c_Expr {e pos} {Q : Flow → Shared → Prop} (h : wpC M A (eval e env) (fun v s' => v = .none ∧ Q .next s') E s)
    (hi : interactive env = false := by rfl) (hs : swapsWith e none pos.line env = pure false := by rfl) : wpC M A (exec (.Expr e pos) env) Q E s := by
  rw [exec_Expr env e pos hi hs]
  refine c_at (c_bind (c_mono h (fun v s' h' => ?_) fun _ _ x => x))
  obtain ⟨rfl, h'⟩ := h'
  rw [dropValue_plain (fun a e => by cases e)]
  exact c_pure h'
theorem c_Assign_Name {x pos' value pos} {Q : Flow → Shared → Prop} (h : wpC M A (eval value env) (fun v s₁ => wpAny M A (storeName env x v) (fun _ => Q .next) E s₁) E s)
    (hs : swapsWith value (some (.Name x pos')) pos.line env = pure false := by rfl) : wpC M A (exec (.Assign [.Name x pos'] value pos) env) Q E s := by
  rw [exec_Assign_Name env x pos' value pos hs]
  refine c_at (c_bind (c_mono h (fun v s' h' => c_at (c_leaf ?_)) fun _ _ x => x))
  exact wpAny_bindName (wpAny_mono h' (fun _ _ z => c_pure z) fun _ _ z => z)
theorem c_Assign_Attr {o attr pos' value pos} {Q : Flow → Shared → Prop} (h : wpC M A (eval value env) (fun v s₁ => wpAny M A (eval o env) (fun ov s₂ => wpAny M A (setAttr ov attr v) (fun _ => Q .next) E s₂) E s₁) E s)
    (hs : swapsWith value (some (.Attribute o attr pos')) pos.line env = pure false := by rfl) : wpC M A (exec (.Assign [.Attribute o attr pos'] value pos) env) Q E s := by
  rw [plainObj_exec_Assign_Attribute o attr pos' value pos hs]
  refine c_at (c_bind (c_mono h (fun v s' h' => ?_) fun _ _ x => x))
  rw [assign_Attribute]
  refine c_leaf (wpAny_bind (wpAny_holding (wpAny_mono h' (fun ov s₂ h₂ => wpAny_bind (wpAny_standAt (wpAny_bind (wpAny_holding (wpAny_mono h₂ (fun _ s₃ h₃ => ?_) fun _ _ z => z))))) fun _ _ z => z)))
  intro Γ p _
  rw [Sem.wp_release]
  exact ⟨fun Γ p hΓ _ => by rw [Sem.wp_pure']; exact h₃⟩
theorem c_Return {e pos} {Q : Flow → Shared → Prop} (h : wpC M A (eval e env) (fun v => Q (.ret v)) E s) : wpC M A (exec (.Return (some e) pos) env) Q E s := by
  rw [exec_Return_some]
  exact c_at (c_bind (c_mono h (fun _ _ z => c_pure z) fun _ _ z => z))
theorem c_If {test body orelse pos} {Q : Flow → Shared → Prop}
    (h : wpC M A (isTrue test env (eval test env)) (fun b s₂ => if b then wpC M A (execs body env) Q E s₂ else wpC M A (execs orelse env) Q E s₂) E s) : wpC M A (exec (.If test body orelse pos) env) Q E s := by
  rw [exec_If]
  refine c_at (c_bind (c_mono h (fun b s' h' => ?_) fun _ _ z => z))
  cases b <;> exact h'
theorem c_Call_Name {id p pos args} {Q : Value → Shared → Prop} (h : wpAny M A (eval (.Name id p) env) (fun f s₁ => wpC M A (callWith pos f [] (backTo pos (starEach args env)) []) Q E s₁) E s) :
    wpC M A (eval (.Call (.Name id p) args [] pos) env) Q E s := by
  show wpC M A (do callWith pos (← eval (.Name id p) env) [] (backTo pos (starEach args env)) (backToKw pos (keywordEach [] env))) Q E s
  exact c_leaf h
theorem c_Call_meth {o name apos pos args} {Q : Value → Shared → Prop}
    (h : wpAny M A (eval o env) (fun ov s₁ => wpAny M A (getMethod ov name (do return (← importBound o env).getD true)) (fun fp s₂ => wpC M A (callWith pos fp.1 fp.2 (backTo pos (starEach args env)) []) Q E s₂) E s₁) E s)
    (hb : attributeBase o name env (eval o env) = eval o env := by rfl) (hf : methodCallForm (args.length + 0) (backTo pos (starEach args env)) [] = true := by rfl) (hl : (apos.endLine == pos.line) = true := by rfl) :
    wpC M A (eval (.Call (.Attribute o name apos) args [] pos) env) Q E s := by
  show wpC M A (do
    let ov ← attributeBase o name env (eval o env)
    standAt apos.atName
    methodCall o name apos pos env ov (args.length + 0) (backTo pos (starEach args env)) []) Q E s
  rw [hb]
  refine c_leaf (wpAny_mono h (fun ov s₁ h₁ => c_at ?_) fun _ _ z => z)
  unfold methodCall
  rw [hf]
  have e : methodCallPos true o env apos pos = pure pos := by unfold methodCallPos; rw [hl]; rfl
  rw [e]
  refine c_leaf (wpAny_holding (wpAny_mono h₁ (fun fp s₂ h₂ => ?_) fun _ _ z => z))
  obtain ⟨f, first⟩ := fp
  exact c_bind (c_pure h₂)
theorem c_callWith {P : Heap → Prop} {pos : Pos} {f : Value} {first : List Value} {args : List (Bool × Sem Value)} {Q : Value → Shared → Prop} (hplain : args.any (·.1) = false)
    (hk : ∀ h, P h → ∃ k, (k = Keeper.frame ∨ k = Keeper.machine ∨ k = Keeper.boundFrame) ∧ Looks M h (keeperOf f) k)
    (h : wpC M A (evalArgs f true args []) (fun a s₁ => P s₁.heap ∧ wpC M A (call f (first ++ a.pos) a.kw) Q E s₁) E s) : wpC M A (callWith pos f first args []) Q E s := by
  unfold callWith
  refine c_bind (c_holding (c_mono h (fun a s₁ h₁ => c_at ?_) fun _ _ x => x))
  obtain ⟨k, hk', L⟩ := hk _ h₁.1
  have hp : (args.any (·.1) || ([] : List (Option Str × Sem Value)).any (·.1.isNone)) = false := by rw [hplain]; rfl
  simp only [hp]
  refine c_leaf (L.here ?_)
  have keep : ∀ {vs : List Value} {t : Sem Value}, wpC M A t Q E s₁ → wpC M A (t.keep vs) Q E s₁ := fun ht => ⟨fun Γ p hΓ hC => by rw [Sem.wp_keep]; exact ht.go Γ p hΓ hC⟩
  have tail : ∀ {t : Sem Value}, wpC M A t Q E s₁ → wpC M A (t >>= fun r => holding [r] point >>= fun _ => pure r) Q E s₁ :=
    fun ht => c_bind (c_mono ht (fun r s₂ hr => c_leaf (wpAny_holding (wpAny_point (c_pure hr)))) fun _ _ x => x)
  have marked (mk : Value) : wpC M A (callMarked mk f (first ++ a.pos) a.kw) Q E s₁ := by unfold callMarked; exact keep h₁.2
  rcases hk' with rfl | rfl | rfl <;> dsimp only <;> first | exact tail h₁.2 | (split <;> first | exact tail h₁.2 | exact tail (marked _))
theorem c_spliced_nil {Q : List Value → Shared → Prop} (h : Q [] s) : wpC M A (spliced []) Q E s := c_any (spliced_nil h)
theorem c_spliced_cons {x : Sem Value} {rest : List (Bool × Sem Value)} {Q : List Value → Shared → Prop}
    (h : wpC M A x (fun v s₁ => wpC M A (spliced rest) (fun vs s₂ => Q (v :: vs) s₂) E s₁) E s) : wpC M A (spliced ((false, x) :: rest)) Q E s := by
  rw [spliced]
  refine c_bind (c_mono h (fun v s₁ h₁ => ?_) fun _ _ x => x)
  simp only [Bool.false_eq_true, if_false]
  exact c_bind (c_pure (c_bind (c_holding (c_mono h₁ (fun vs s₂ h₂ => c_pure h₂) fun _ _ x => x))))
theorem c_evalArgs {f : Value} {x : Sem Value} {rest : List (Bool × Sem Value)} {Q : Args → Shared → Prop}
    (h : wpC M A (spliced ((false, x) :: rest)) (fun vs s' => Q ⟨vs, []⟩ s') E s) : wpC M A (evalArgs f true ((false, x) :: rest) []) Q E s := by
  unfold evalArgs
  show wpC M A (spliced ((false, x) :: rest) >>= _) Q E s
  refine c_bind (c_mono h (fun vs s' h' => ?_) fun _ _ x => x)
  refine c_holding ?_
  exact c_bind (c_pure (c_bind (c_pure (c_pure h'))))
theorem c_evalArgs_nil {f : Value} {Q : Args → Shared → Prop} (h : Q ⟨[], []⟩ s) : wpC M A (evalArgs f true [] []) Q E s := c_any (evalArgs_nil3 h)

/-- a call of the text's own def or class, its arguments leaves -/
theorem c_callK {K : Frag} {pos : Pos} {f : Value} {first : List Value} {e : Expr} {rest : List Expr} {Q : Value → Shared → Prop} (hk : keepIn K f = true)
    (h : wpC M A (spliced (backTo pos (starEach (e :: rest) env))) (fun vs s₁ => K.In s₁.heap ∧ wpC M A (call f (first ++ vs)) Q E s₁) E s)
    (he : starEach (e :: rest) env = (false, eval e env) :: starEach rest env := by rfl) (hplain : (backTo pos (starEach rest env)).any (·.1) = false := by rfl) :
    wpC M A (callWith pos f first (backTo pos (starEach (e :: rest) env)) []) Q E s := by
  rw [he] at h ⊢
  exact c_callWith (by show (false || (backTo pos (starEach rest env)).any (·.1)) = false; rw [hplain]; rfl) (keeps_K hk) (c_evalArgs h)
theorem c_callK0 {K : Frag} {pos : Pos} {f : Value} {first : List Value} {Q : Value → Shared → Prop} (X : K.In s.heap) (hk : keepIn K f = true) (h : wpC M A (call f (first ++ [])) Q E s) :
    wpC M A (callWith pos f first (backTo pos (starEach [] env)) []) Q E s := c_callWith rfl (keeps_K hk) (c_evalArgs_nil ⟨X, h⟩)
end
/-! C4 -/
section
variable {prog : Program} {w : World} {A : Around} {s : Shared} {R : Result → Shared → Prop} {E : Value → Shared → Prop}
theorem codeC_func {body env} (h : wpC (model prog w) (A.deeper env) (execs body env) (fun f s' => R (.ok (.ret (match f with | .ret v => v | _ => .none))) s') NoE s) :
    codeC (model prog w) A (.func body env) R s := by
  refine codeC_of_tree ?_
  show wpC _ (A.deeper env) (do point; match ← (execs body env).onRaise (leaving env) with | .ret v => ret v | _ => ret .none) _ _ s
  refine c_leaf (wpAny_point (c_bind (c_onRaise (c_mono h (fun f s' h' => ?_) fun _ _ h' => h'.elim))))
  cases f <;> exact c_pure h'
theorem codeC_call_def {a : Addr} {o : Obj} {fd : FuncData} {body : List Stmt} {args : Args} {binds : List (Str × Value)}
    (hroom : A.depth < recursionLimit) (ho : s.heap.get? a = some o) (hdata : o.data = .func fd) (hlim : s.heap.NoLimit) (hcd : s.heap.CodeRec fd.code fd.qualname)
    (hbody : fd.body = .stmts body) (hbind : BindsTo s fd args binds)
    (hcell : ∀ x ∈ fd.scope.names, x.2 ≠ .cell) (hloc : ∀ x ∈ binds, fd.scope.names.lookup x.1 = some .local)
    (h : ∀ h₀, h₀.Ns s.heap.objs.size (fun x => binds.reverse.lookup x) → (∀ b o, s.heap.get? b = some o → h₀.get? b = some o) →
      wpC (model prog w) (A.deeper (callEnv fd s.heap.objs.size a)) (execs body (callEnv fd s.heap.objs.size a)) (fun f s' => R (.ok (.ret (match f with | .ret v => v | _ => .none))) s') NoE
        { s with heap := h₀, toks := s.toks + binds.length })
    (hco : fd.scope.isCoroutine = false) (hgen : fd.scope.isGenerator = false) (hk : fd.scope.kind = .function) : codeC (model prog w) A (.call (.ref a) args) R s := by
  refine codeC_of_tree ?_
  show wpC _ A.in1 (callAny (.ref a) args) _ _ s
  simp only [callAny]
  refine c_leaf (wpAny_load ho ?_)
  refine hideG fun G9 hG9 => ?_
  obtain ⟨c, oc, vs, tq, hc, hoc, hdc, hq⟩ := hcd
  refine hG9 ?_
  clear hG9 G9
  simp only [hdata, callFunction, hco, hgen, hbody, hc]
  refine c_leaf (m := field (.ref c) 1) (wpAny_field hoc hdc hq (c_bind (c_pure ?_)))
  have hb := hbind
  rw [← hc]
  refine c_leaf (hb _ _ _ _ ?_)
  refine c_leaf (wpAny_newFunctionEnv hcell hloc (fun h₀ hns₀ hsb₀ => ?_) hk)
  refine c_leaf (wpAny_enterFrame (hlim.fresh _ hsb₀) hroom (c_pure (And.intro rfl (And.intro rfl (codeC_func (h h₀ hns₀ fun b o e => ?_))))))
  exact hsb₀.extBut b o (Nat.ne_of_lt (Heap.lt_size e)) (Heap.get?_push_of_some _ e)
end
section
variable {prog : Program} {w : World} {A A₀ : Around} {s : Shared} {K : Frag} {L : Addr} {h₀ base : Heap} {m mg mb : Str → Option Value} {news : List (Addr × Obj)} {p : Program} {loose : List Str} {mean : ExcName → Option Value}
theorem codeC_defK {env : Env} {outer : List Env} {R : Result → Shared → Prop} {name qual : Str} {params : Arguments} {body : List Stmt} {scope : Scope} {dV kV doc pm cdv ct oc : Value} {an od : Option Addr} {osl : Array (Option Value)} {f : Addr} {args : Args} {binds : List (Str × Value)} {as : List Addr}
    (B : Below A₀ base outer h₀) (F : Fr h₀ L s.heap m) (X₀ : K.In h₀) (N : News h₀ L s.heap news) (T : Top p loose mean mg mb h₀) (hA : A.frames = some (env :: outer)) (hf : env.frame = some L) (hke : env.scope.kind = .function)
    (ho : K.lookup f = some ⟨oc, od, .func (fnOf name qual params body scope dV kV doc pm an cdv ct), osl⟩) (hcd : codeIn K cdv qual = true) (hroom : A.depth < recursionLimit)
    (hbind : BindsTo s (fnOf name qual params body scope dV kV doc pm an cdv ct) args binds) (hloc : ∀ y ∈ binds, scope.names.lookup y.1 = some .local) (has : news.map (·.1) = as)
    (h : ∀ g L' h₁ PP, Fr g L' h₁ (fun y => binds.reverse.lookup y) → News g L' h₁ news → Below A base (env :: outer) g → K.In g → Top p loose mean mg mb g → Ends h₀ L m as s.heap g L' R PP →
      wpC (model prog w) (A.deeper (envOf qual scope L' f cdv)) (execs body (envOf qual scope L' f cdv)) PP NoE { s with heap := h₁, toks := s.toks + binds.length })
    (hco : scope.isCoroutine = false) (hgen : scope.isGenerator = false) (hk : scope.kind = .function)
    (hcell : ∀ x ∈ scope.names, x.2 ≠ .cell) : codeC (model prog w) A (.call (.ref f) args) R s := by
  subst has
  refine hideG fun G9 hG9 => ?_
  obtain ⟨FG, BG, st, lv⟩ := groundX (R := R) B F N hA hf hke
  refine hG9 ?_
  clear hG9 G9
  have X := X₀.keeps F.keep
  refine codeC_call_def (fd := fnOf name qual params body scope dV kV doc pm an cdv ct) (body := body) (binds := binds) hroom (X _ _ ho) rfl (T.nolimit.keeps F.keep) (codeRec_of X hcd) rfl hbind hcell hloc (fun h₁ hns hk₁ => ?_) hco hgen hk
  exact c_mono (h _ s.heap.objs.size h₁ _ ⟨hns, fun b o e => hk₁ b o (of_hideAll _ e), Nat.le_of_eq (hideAll_size _ _)⟩
    (fun p hp => ⟨hk₁ _ _ (N p hp).1, Nat.ne_of_lt (Heap.lt_size (N p hp).1), hideAll_none _ (List.mem_map_of_mem hp)⟩) BG (X₀.keeps st) (T.keeps st) (ends_of (fun b o e hn => hideAll_get _ e hn) (fun _ _ z => z) lv)) (fun fl s' hl => by cases fl <;> exact hl) fun _ _ y => y.elim
end

/-! loops -/
section
variable {prog : Program} {w : World} {A : Around} {s : Shared} {R : Result → Shared → Prop} {env : Env}
theorem codeC_block {orelse : List Stmt} (h : wpC (model prog w) A (execs orelse env) (fun f s₃ => R (.ok f) s₃) NoE s) : codeC (model prog w) A (.block orelse env) R s := by
  refine codeC_of_tree ?_
  have e : A.under (.block orelse env) = A := Around.under_of_weight rfl
  rw [e]
  show wpC _ A (do return Fin.done (← (execs orelse env).onRaise (fun x => do noteFrame x env; theTreesLotGoes x))) _ _ s
  exact c_bind (c_onRaise (c_mono h (fun f s' h' => c_pure h') fun _ _ h' => h'.elim))
theorem codeC_forLoop {target it body} (I : Nat → Shared → Prop)
    (turn : ∀ n s, I n s → wpC (model prog w) A (pyNext it) (fun r s₁ => match r with
      | none => R (.ok .next) s₁
      | some v => wpAny (model prog w) A (letOwnedTupleGo target it v) (fun _ s₁' => wpC (model prog w) A (assign target env v) (fun _ s₂ => wpC (model prog w) A (execs body env) (fun f s₃ => match f with
            | .next | .cont => ∃ m, m < n ∧ I m s₃
            | .brk => R (.ok .next) s₃
            | .ret v => R (.ok (.ret v)) s₃) NoE s₂) NoE s₁') NoE s₁) NoE s)
    (n : Nat) (h : I n s) : codeC (model prog w) A (.forLoop target it body [] env) R s := by
  induction n using Nat.strongRecOn generalizing s with
  | _ n ih =>
    refine codeC_of_tree ?_
    have e : A.under (.forLoop target it body [] env) = A := Around.under_of_weight rfl
    rw [e]
    show wpC _ A ((forTurn target it body [] env).onRaise (fun x => do noteFrame x env; theTreesLotGoes x)) _ _ s
    refine c_onRaise (c_mono (Q := fun fin s' => match fin with | .done f => R (.ok f) s' | .again c' => c'.quiet = true ∧ holder c' = false ∧ codeC (model prog w) A c' R s') (E := NoE) ?_ (fun _ _ z => z) fun _ _ h' => h'.elim)
    simp only [forTurn]
    refine c_at (c_bind (c_onRaise (c_mono (turn n s h) (fun r s₁ h₁ => ?_) fun _ _ h' => h'.elim)))
    cases r with
    | none => exact c_pure ⟨rfl, rfl, codeC_block (c_execs_nil h₁)⟩
    | some v =>
      dsimp only at h₁ ⊢
      refine c_leaf (wpAny_mono h₁ (fun _ s₁' h₁' => c_bind (c_mono h₁' (fun _ s₂ h₂ => c_bind (c_mono h₂ (fun f s₃ h₃ => ?_) fun _ _ h' => h'.elim)) fun _ _ h' => h'.elim)) fun _ _ h' => h'.elim)
      cases f with
      | next => obtain ⟨m, hm, hI⟩ := h₃; exact c_pure ⟨rfl, rfl, ih m hm hI⟩
      | cont => obtain ⟨m, hm, hI⟩ := h₃; exact c_pure ⟨rfl, rfl, ih m hm hI⟩
      | brk => exact c_pure h₃
      | ret v => exact c_pure h₃
theorem c_For {E : Value → Shared → Prop} {target iter body pos} {Q : Flow → Shared → Prop}
    (h : wpAny (model prog w) A (eval iter env) (fun x s₁ => wpAny (model prog w) A (pyIter x) (fun it s₂ => codeC (model prog w) A (.forLoop target it body [] env) (fun r s' => match r with | .ok f => Q f s' | .error _ => False) s₂) E s₁) E s)
    (hs : ∀ x, foldedSetIterable iter env x = pure x) : wpC (model prog w) A (exec (.For target iter body [] pos) env) Q E s := by
  rw [exec_For]
  refine c_at (c_leaf (wpAny_mono h (fun x s₁ h₁ => ?_) fun _ _ z => z))
  rw [hs]
  refine c_bind (c_pure (c_at (c_leaf (wpAny_holding (wpAny_mono h₁ (fun it s₂ h₂ => ?_) fun _ _ z => z)))))
  unfold runOwn
  refine c_onRaise (c_mono (E := NoE) (c_run (codeC_mono h₂ fun r s' z => ?_) rfl) (fun _ _ z => z) fun _ _ z => z.elim)
  cases r <;> exact z
theorem codeC_whileLoop {test body} (I : Nat → Shared → Prop)
    (turn : ∀ n s, I n s → wpC (model prog w) A (isTrue test env (eval test env)) (fun b s₁ => match b with
      | false => R (.ok .next) s₁
      | true => wpC (model prog w) A (execs body env) (fun f s₃ => match f with
            | .next | .cont => ∃ m, m < n ∧ I m s₃
            | .brk => R (.ok .next) s₃
            | .ret v => R (.ok (.ret v)) s₃) NoE s₁) NoE s) (n : Nat) (h : I n s) : codeC (model prog w) A (.whileLoop test body [] env) R s := by
  induction n using Nat.strongRecOn generalizing s with
  | _ n ih =>
    refine codeC_of_tree ?_
    have e : A.under (.whileLoop test body [] env) = A := Around.under_of_weight rfl
    rw [e]
    show wpC _ A ((whileTurn test body [] env).onRaise (fun x => do noteFrame x env; theTreesLotGoes x)) _ _ s
    refine c_onRaise (c_mono (Q := fun fin s' => match fin with | .done f => R (.ok f) s' | .again c' => c'.quiet = true ∧ holder c' = false ∧ codeC (model prog w) A c' R s') (E := NoE) ?_ (fun _ _ z => z) fun _ _ h' => h'.elim)
    simp only [whileTurn]
    refine c_bind (c_mono (turn n s h) (fun b s₁ h₁ => ?_) fun _ _ h' => h')
    cases b with
    | false => exact c_bind (c_execs_nil (c_pure h₁))
    | true =>
      refine c_bind (c_mono h₁ (fun f s₃ h₃ => ?_) fun _ _ h' => h')
      cases f with
      | next => obtain ⟨m, hm, hI⟩ := h₃; exact c_pure ⟨rfl, rfl, ih m hm hI⟩
      | cont => obtain ⟨m, hm, hI⟩ := h₃; exact c_pure ⟨rfl, rfl, ih m hm hI⟩
      | brk => exact c_pure h₃
      | ret v => exact c_pure h₃
theorem c_While {E : Value → Shared → Prop} {test body pos} {Q : Flow → Shared → Prop}
    (h : codeC (model prog w) A (.whileLoop test body [] env) (fun r s' => match r with | .ok f => Q f s' | .error _ => False) s) : wpC (model prog w) A (exec (.While test body [] pos) env) Q E s := by
  rw [exec_While]
  refine c_at ?_
  unfold runOwn
  refine c_onRaise (c_mono (E := NoE) (c_run (codeC_mono h fun r s' z => ?_) rfl) (fun _ _ z => z) fun _ _ z => z.elim)
  cases r <;> exact z
end
/-! C5 -/
section
open Builtin Builtin.Bytes
/-! bytearrays -/
noncomputable abbrev baObj (bs : Array UInt8) : Obj := { cls := .type "bytearray", data := .bytearray bs }
section
variable {M : Model} {prog : Program} {w : World} {A : Around} {s : Shared} {E : Value → Shared → Prop}
theorem c_exported {self : Value} {Q : Bool → Shared → Prop} (h : Q false s) : wpC M A (exported self) Q E s := by
  refine ⟨fun Γ p hΓ hC => ?_⟩
  unfold exported
  rw [Sem.wp_bind']
  show Q (((Γ.code, p) :: Γ.below).any _) s
  rw [List.any_eq_false.mpr]
  · exact h
  · have all : ∀ x ∈ ((Γ.code, p) :: Γ.below), holder x.1 = false := fun x hx => by
      rcases List.mem_cons.mp hx with rfl | hx
      · exact hC.1
      · exact hC.2 x hx
    rintro ⟨c, q⟩ hx
    have hc := all _ hx
    cases c
    case builtin id args =>
      obtain ⟨pos, kw⟩ := args
      have n1 : id ≠ "bytearray.__contains__" := fun e => by subst e; cases hc
      have n2 : id ≠ "bytearray.__mod__" := fun e => by subst e; cases hc
      have n3 : id ≠ "bytearray.__rmod__" := fun e => by subst e; cases hc
      have n4 : id ≠ "_struct.pack_into.held" := fun e => by subst e; cases hc
      have n5 : id ≠ "bytearray.find.held" := fun e => by subst e; cases hc
      have hc' := (Bool.or_eq_false_iff.mp hc).2
      unfold Builtin.Bytes.exported.match_1 Builtin.Bytes.exported._sparseCasesOn_1
      dsimp only
      rw [dif_neg n1, dif_neg n2, dif_neg n3, dif_neg n4, dif_neg n5]
      cases pos with
      | nil => exact Bool.false_ne_true
      | cons v r =>
        show ¬ (Builtin.Bytes.sameRef v self && Builtin.Bytes.decodersThatHold.contains id) = true
        rw [hc', Bool.and_false]; exact Bool.false_ne_true
    all_goals exact Bool.false_ne_true
theorem c_checkResize {a : Addr} {bs : Array UInt8} {Q : Unit → Shared → Prop} (ho : s.heap.get? a = some (baObj bs)) (h : Q () s) : wpC M A (checkResize (.ref a)) Q E s := by
  unfold checkResize
  show wpC M A ((exported (.ref a) <||> (do return (← exportsOf (.ref a)) > 0)) >>= _) Q E s
  refine c_bind ?_
  unfold orM
  refine c_bind (c_exported ?_)
  show wpC M A (if (toBool false) = true then pure false else _) _ E s
  simp only [toBool, Bool.false_eq_true, if_false]
  unfold exportsOf
  refine c_bind (c_leaf (wpAny_load ho (c_pure (c_pure ?_))))
  simp only [gt_iff_lt, Nat.lt_irrefl, decide_false, Bool.false_eq_true, if_false]
  exact c_pure h
theorem wpAny_byteValue {x : Int} {t : Tok} {Q : UInt8 → Shared → Prop} (h0 : 0 ≤ x) (h1 : x < 256) (h : Q x.toNat.toUInt8 s) : wpAny M A (byteValue (.int x t)) Q E s := by
  unfold byteValue
  have e : asIndex (.int x t) = pure x := rfl
  rw [e]
  refine wpAny_bind (wpAny_pure ?_)
  have e1 : (decide (x < 0) || decide (x ≥ 256)) = false := by simp; omega
  simp only [e1, Bool.false_eq_true, if_false]
  exact wpAny_pure h
theorem slot_ba_append : Slot "bytearray" "append" "bytearray.append" :=
  .of (owner := "bytearray") (n := "append") (by rw [typeLookup_type, builtinLookup_eq_fast]; kernel_rfl) (by decide +kernel) (by decide +kernel) (by decide +kernel)
    (by first | exact .inl (by decide +kernel) | exact .inr (by decide +kernel)) (by rw [isSubtype_type]; kernel_rfl)
theorem entry_ba_append : entryFor table "bytearray.append" = some Builtin.«bytearray.append» := entryFor_of_tree (by kernel_rfl)
theorem args_ba_append (a b : Value) : argsOk "bytearray.append" ⟨[a, b], []⟩ := by unfold argsOk; kernel_rfl
theorem type_ba_append : typeOf (.builtin "bytearray.append") = pure (.type "method_descriptor") := by show builtinType _ = _; rw [builtinType_eq_fast]; kernel_rfl
theorem ba_getattribute : typeLookup (.type "bytearray") "__getattribute__" = pure (some (.builtin "bytearray.__getattribute__")) := by rw [typeLookup_type, builtinLookup_eq_fast]; kernel_rfl
theorem ba_getattr_none : typeLookup (.type "bytearray") "__getattr__" = pure none := by rw [typeLookup_type, builtinLookup_eq_fast]; kernel_rfl
theorem canon_ba : (Manifest.canonical "bytearray.__getattribute__" != "object.__getattribute__") = false := by decide +kernel
theorem getMethod_ba_append {l : Addr} {o : Obj} {pl : Sem Bool} {Q : Value × List Value → Shared → Prop} (ho : s.heap.get? l = some o) (hc : o.cls = .type "bytearray") (hd : o.dict = none)
    (h : Q (.builtin "bytearray.append", [.ref l]) s) : wpAny M A (getMethod (.ref l) "append" pl) Q E s := by
  have hT : s.TypeIs (.ref l) "bytearray" := ⟨o, ho, hc⟩
  unfold getMethod
  refine wpAny_bind (wpAny_specialOf hT ba_getattribute ?_)
  show wpAny M A (if (Manifest.canonical "bytearray.__getattribute__" != "object.__getattribute__") = true then _ else _) Q E s
  rw [canon_ba, if_neg Bool.false_ne_true]
  refine wpAny_bind (wpAny_specialOf hT ba_getattr_none ?_)
  refine wpAny_bind (wpAny_specialOf hT slot_ba_append.lookup ?_)
  refine wpAny_bind (wpAny_of_eq type_ba_append ?_)
  refine wpAny_bind (wpAny_load ho ?_)
  rw [hd]
  exact wpAny_bind (wpAny_rule (wpAny_pure h))
theorem holder_id {id : String} {args : Args} (h : (["bytearray.__contains__", "bytearray.__mod__", "bytearray.__rmod__", "_struct.pack_into.held", "bytearray.find.held"].contains id || decodersThatHold.contains id) = false) : holder (.builtin id args) = false := h
theorem codeC_builtin {id : String} {args : Args} {b : Builtin} {R : Result → Shared → Prop} (hb : entryFor table id = some b)
    (h : wpC (model prog w) (A.under (.builtin id args)) (b args) (fun fin s' => match fin with | .done f => R (.ok f) s' | .again c' => c'.quiet = true ∧ holder c' = false ∧ codeC (model prog w) A c' R s') (fun e s' => R (.error e) s') s) :
    codeC (model prog w) A (.builtin id args) R s := by
  refine codeC_of_tree ?_
  show wpC _ _ (match entryFor table id with | some b => b args | none => unsupported ((withoutEnding? id "#data").getD id)) _ _ s
  rw [hb]; exact h
theorem codeC_call_builtin {id : String} {args : Args} {b : Builtin} {R : Result → Shared → Prop} (hq : plainId id = true) (hh : holder (.builtin id args) = false) (hb : entryFor table id = some b)
    (h : wpAny (model prog w) A.in1 (checkBuiltinCall id args) (fun _ s₁ => wpC (model prog w) A.in1 (b args)
      (fun fin s' => match fin with | .done f => R (.ok f) s' | .again c' => c'.quiet = true ∧ holder c' = false ∧ codeC (model prog w) A c' R s') (fun e s' => R (.error e) s') s₁) (fun e s' => R (.error e) s') s) :
    codeC (model prog w) A (.call (.builtin id) args) R s := by
  refine codeC_of_tree ?_
  show wpC _ A.in1 (do checkBuiltinCall id args; again (.builtin id args)) _ _ s
  refine c_leaf (wpAny_mono h (fun _ s₁ h₁ => c_pure ⟨plainId_quiet hq _, hh, codeC_builtin hb ?_⟩) fun _ _ h' => h')
  rw [Around.under_plainId hq]; exact h₁
theorem mapBytearray_push (bs : Array UInt8) (c : UInt8) : Obj.mapBytearray (·.push c) (baObj bs) = baObj (bs.push c) := rfl
theorem c_append {a : Addr} {bs : Array UInt8} {x : Int} {t : Tok} {Q : Value → Shared → Prop} (ho : s.heap.get? a = some (baObj bs)) (h0 : 0 ≤ x) (h1 : x < 256) (hsz : bs.size < 1000)
    (h : ∀ h', Heap.SameBut a s.heap h' → h'.get? a = some (baObj (bs.push x.toNat.toUInt8)) → Q .none { s with heap := h' }) : wpC (model prog w) A (call (.builtin "bytearray.append") [.ref a, .int x t]) Q E s := by
  have hT : s.TypeIs (.ref a) "bytearray" := ⟨_, ho, rfl⟩
  refine c_call (codeC_call_builtin slot_ba_append.plain (holder_id (by decide +kernel)) entry_ba_append (slot_ba_append.check _ _ _ _ _ _ _ _ hT (args_ba_append _ _) ?_))
  show wpC _ _ (byteValue (.int x t) >>= fun c => checkResize (.ref a) >>= fun _ => write (.ref a) (·.push c) >>= fun _ => ret .none) _ _ s
  refine c_leaf (wpAny_byteValue h0 h1 (c_bind (c_checkResize ho ?_)))
  show wpC _ _ (updateBytearray a _ >>= _) _ _ s
  unfold updateBytearray lookBehind
  have hg : (s.heap.update a (Obj.mapBytearray (·.push x.toNat.toUInt8))).get? a = some (baObj (bs.push x.toNat.toUInt8)) := Heap.get?_update_self _ ho rfl
  refine c_bind (c_leaf (wpAny_load ho (c_leaf (wpAny_update ho (c_leaf (wpAny_loadPart hg ?_))))))
  have e : (baObj (bs.push x.toNat.toUInt8)).data.pastItsLine = none := by
    show (if (bs.push x.toNat.toUInt8).size > sizeLine then _ else _) = none
    rw [if_neg (by rw [Array.size_push, sizeLine_eq]; omega)]
  rw [e]
  exact c_pure (c_pure (h _ (Heap.SameBut.update ..) hg))

theorem slot_ba_init : Slot "bytearray" "__init__" "bytearray.__init__" :=
  .of (owner := "bytearray") (n := "__init__") (by rw [typeLookup_type, builtinLookup_eq_fast]; kernel_rfl) (by decide +kernel) (by decide +kernel) (by decide +kernel)
    (by first | exact .inl (by decide +kernel) | exact .inr (by decide +kernel)) (by rw [isSubtype_type]; kernel_rfl)
theorem entry_ba_init : entryFor table "bytearray.__init__" = some Builtin.«bytearray.__init__» := entryFor_of_tree (by kernel_rfl)
theorem args_ba_init (a : Value) : argsOk "bytearray.__init__" ⟨[a], []⟩ := by unfold argsOk; kernel_rfl
theorem mro_ba : mroOf (.type "bytearray") = pure [.type "bytearray", .type "object"] := by rw [mroOf_type]; kernel_rfl
theorem lookup_ba_new : typeLookup (.type "bytearray") "__new__" = pure (some (.builtin "bytearray.__new__")) := by rw [typeLookup_type, builtinLookup_eq_fast]; kernel_rfl
theorem called_ba : TypeCalled "bytearray" "bytearray.__new__" "bytearray.__init__" :=
  ⟨by decide +kernel, by decide +kernel, ⟨_, _, mro_ba⟩, madeBy_type mro_ba lookup_ba_new (by decide +kernel), by decide +kernel, by rw [isSubtype_type]; kernel_rfl, slot_ba_init⟩
theorem typeCall_ba : checkTypeCall "bytearray" ⟨[], []⟩ = pure () := by kernel_rfl
theorem newCall_ba : checkBuiltinCall "bytearray.__new__" ⟨[.type "bytearray"], []⟩ = pure () := by kernel_rfl
theorem entry_ba_new : entryFor table "bytearray.__new__" = some Builtin.«list.__new__» :=
  entryFor_alias (id' := "list.__new__") (by rw [fastTable_eq_tree]; kernel_rfl) (by kernel_rfl) (by kernel_rfl) (by rw [fastTable_eq_tree]; kernel_rfl)
theorem plain_ba_new : plainId "bytearray.__new__" = true := by decide +kernel
theorem sub_ba_self : isSubtype (.type "bytearray") (.type "bytearray") = pure true := by rw [isSubtype_type]; kernel_rfl
theorem code_ba_new {Q₁ : Value → Shared → Prop} (h : Q₁ (.ref s.heap.objs.size) { s with heap := s.heap.push (baObj #[]) }) :
    codeAny (model prog w) A (.call (.builtin "bytearray.__new__") ⟨[.type "bytearray"], []⟩) (wants Q₁ E) s := by
  refine codeAny_of_tree ?_
  show wpAny _ A.in1 (do checkBuiltinCall "bytearray.__new__" ⟨[.type "bytearray"], []⟩; again (.builtin "bytearray.__new__" ⟨[.type "bytearray"], []⟩)) _ _ s
  refine wpAny_bind (wpAny_of_eq newCall_ba (wpAny_pure ⟨plainId_quiet plain_ba_new _, codeAny_builtin_stack entry_ba_new rfl fun p st => ?_⟩))
  rw [Around.under_plainId plain_ba_new _]
  have hsub := sub_ba_self
  have hown : ("bytearray.__new__".splitOn ".__new__").headD "" = "bytearray" := by rw [split_bytearray]; rfl
  obtain ⟨hp, g, d, tk, os⟩ := s
  simp only [hown]
  wp_walk
  exact h
theorem lookup_ba_rel : typeLookup (.type "bytearray") "__release_buffer__" = pure (some (.builtin "bytearray.__release_buffer__")) := by rw [typeLookup_type, builtinLookup_eq_fast]; kernel_rfl
theorem rel_ends : (!("bytearray.__release_buffer__".endsWith ("." ++ "__release_buffer__"))) = false := by decide +kernel
theorem rel_owner : "bytearray.__release_buffer__".dropRight ("__release_buffer__".length + 1) = "bytearray" := by decide +kernel
theorem wpAny_ba_release {a : Addr} {Q : Bool → Shared → Prop} (hT : s.TypeIs (.ref a) "bytearray") (h : Q false s) : wpAny M A (ownRelease (.ref a)) Q E s := by
  unfold ownRelease slotIsOwn
  refine wpAny_bind (wpAny_bind (wpAny_specialOf hT lookup_ba_rel ?_))
  simp only [rel_ends, Bool.false_eq_true, if_false]
  rw [rel_owner]
  exact wpAny_isInstance hT sub_ba_self (wpAny_pure h)
theorem ba_bind0 : bindOptional "bytearray.__init__" "bytearray" ["source", "encoding", "errors"] [] [] = pure [none, none, none] := by kernel_rfl
theorem c_iff {α : Type} {M : Model} {A : Around} {s : Shared} {Q : α → Shared → Prop} {E : Value → Shared → Prop} {x y : Sem α} (h : wpC M A y Q E s) : wpC M A (if (false = true) then x else y) Q E s := by rw [if_neg Bool.false_ne_true]; exact h
theorem c_ba_init {a : Addr} {R : Result → Shared → Prop} (ho : s.heap.get? a = some (baObj #[])) (h : ∀ h', Heap.SameBut a s.heap h' → h'.get? a = some (baObj #[]) → R (.ok (.ret .none)) { s with heap := h' }) :
    codeC (model prog w) A (.call (.builtin "bytearray.__init__") ⟨[.ref a], []⟩) R s := by
  have hT : s.TypeIs (.ref a) "bytearray" := ⟨_, ho, rfl⟩
  refine codeC_call_builtin slot_ba_init.plain (holder_id (by decide +kernel)) entry_ba_init (slot_ba_init.check _ _ _ _ _ _ _ _ hT (args_ba_init _) ?_)
  unfold Builtin.«bytearray.__init__»
  refine c_leaf (wpAny_ba_release hT ?_)
  refine c_iff ?_
  dsimp only
  rw [ba_bind0]
  refine c_bind (c_pure ?_)
  dsimp only [checkCodecArg]
  refine c_bind (c_pure ?_)
  refine c_bind (c_pure ?_)
  refine c_bind ?_
  unfold orM
  refine c_bind (c_exported ?_)
  show wpC _ _ (if (toBool false) = true then pure false else _) _ _ _
  refine c_iff ?_
  unfold exportsOf
  refine c_bind (c_leaf (wpAny_load ho (c_pure (c_pure ?_))))
  simp only [gt_iff_lt, Nat.lt_irrefl, decide_false, Bool.false_eq_true, if_false]
  show wpC _ _ (updateBytearray a _ >>= _) _ _ s
  unfold updateBytearray lookBehind
  have hg : (s.heap.update a (Obj.mapBytearray fun _ => #[])).get? a = some (baObj #[]) := Heap.get?_update_self _ ho rfl
  refine c_bind (c_leaf (wpAny_load ho (c_leaf (wpAny_update ho (c_leaf (wpAny_loadPart hg ?_))))))
  exact c_pure (c_pure (h _ (Heap.SameBut.update ..) hg))
theorem c_bytearray {Q : Value → Shared → Prop} (h : ∀ h', (∀ b o, s.heap.get? b = some o → h'.get? b = some o) → h'.get? s.heap.objs.size = some (baObj #[]) → Q (.ref s.heap.objs.size) { s with heap := h' }) :
    wpC (model prog w) A (call (.type "bytearray") []) Q E s := by
  obtain ⟨c, tl, hmro⟩ := called_ba.mro
  have hmade := called_ba.made
  have hsub := called_ba.sub
  refine c_call (codeC_of_tree ?_)
  show wpC _ _ (callAny (.type "bytearray") _) _ _ _
  refine c_pure ⟨Code.quiet_builtin _ (by decide +kernel), holder_id (by decide +kernel), codeC_builtin F.entry_type_call ?_⟩
  rw [Around.under_plain (weight_type_call_type "bytearray" [] []) rfl]
  have h1 := called_ba.notType
  have h2 := called_ba.canCreate
  unfold Builtin.«type.__call__»
  simp only [h1, Bool.false_eq_true, if_false, h2, typeCall_ba, pure_bind, hmro, List.isEmpty_cons, hmade]
  refine c_leaf (wpAny_holding (wpAny_call (codeAny_mono (code_ba_new (Q₁ := fun v s' => v = .ref s.heap.objs.size ∧ s' = { s with heap := s.heap.push (baObj #[]) }) (E := fun _ _ => False) ⟨rfl, rfl⟩) fun r s₁ hr => ?_)))
  rcases r with e | (v | _ | _ | _)
  all_goals first | exact hr.elim | skip
  obtain ⟨rfl, rfl⟩ := hr
  have hT : ({ s with heap := s.heap.push (baObj #[]) } : Shared).TypeIs (.ref s.heap.objs.size) "bytearray" := ⟨_, Heap.get?_push_size _ rfl, rfl⟩
  refine c_leaf (wpAny_isInstance hT hsub ?_)
  simp only [Bool.not_true, Bool.false_eq_true, if_false]
  unfold callSpecial?
  refine c_bind (c_holding (c_leaf (wpAny_specialOf hT called_ba.init.lookup ?_)))
  simp only [called_ba.init.bind, pure_bind]
  refine c_holding (c_bind (c_call (c_ba_init (a := s.heap.objs.size) (Heap.get?_push_size _ rfl) fun h' hs hg => ?_)))
  exact c_pure (c_pure (h h' (fun b o e => (hs.2 b (Nat.ne_of_lt (Heap.lt_size e))).trans (Heap.get?_push_of_some _ e)) hg))
end
end
/-! C6 -/
section
variable {prog : Program} {w : World} {A : Around} {K : Frag} {C x : Addr} {s : Shared} {h₀ : Heap} {L : Addr} {m : Str → Option Value} {news : List (Addr × Obj)} {R : Result → Shared → Prop}
theorem codeC_call_builtin_at {id : String} {args : Args} {b : Builtin} (hq : (Code.builtin id args).quiet = true) (hh : holder (.builtin id args) = false) (hb : entryFor table id = some b)
    (h : wpAny (model prog w) A.in1 (checkBuiltinCall id args) (fun _ s₁ => wpC (model prog w) (A.under (.builtin id args)) (b args)
      (fun fin s' => match fin with | .done f => R (.ok f) s' | .again c' => c'.quiet = true ∧ holder c' = false ∧ codeC (model prog w) A c' R s') (fun e s' => R (.error e) s') s₁) (fun e s' => R (.error e) s') s) :
    codeC (model prog w) A (.call (.builtin id) args) R s := by
  refine codeC_of_tree ?_
  show wpC _ A.in1 (do checkBuiltinCall id args; again (.builtin id args)) _ _ s
  exact c_leaf (wpAny_mono h (fun _ s₁ h₁ => c_pure ⟨hq, hh, codeC_builtin hb h₁⟩) fun _ _ h' => h')
theorem c_makeK {rest : List Value} {fI : Addr} (F : Fr h₀ L s.heap m) (N : News h₀ L s.heap news) (X : K.In s.heap) (hm : makesIn K C = true)
    (hi : findIn K (.ref C) "__init__" = some (some (.ref fI))) (hf : typeIn K (.ref fI) = some (.type "function"))
    (h : ∀ x dx h', Fr h₀ L h' m → News h₀ L h' ((x, instObj C dx) :: (dx, emptyDict) :: news) → (∀ p ∈ news, p.1 < dx) → dx < x → Kept [] s.heap h' → s.heap.objs.size ≤ dx →
      codeC (model prog w) (A.under (.builtin "type.__call__" ⟨.ref C :: rest, []⟩)) (.call (.ref fI) ⟨.ref x :: rest, []⟩) (InitBack x R) { s with heap := h' }) :
    codeC (model prog w) A (.call (.ref C) ⟨rest, []⟩) R s := by
  obtain ⟨h', g, d, t, os⟩ := s
  have Y := makes_of (M := model prog w) X hm
  have hi' : Looks (model prog w) h' (typeLookup (.ref C) "__init__") (some (.ref fI)) := looks_findIn X hi
  have hb : ∀ self, Looks (model prog w) h' (bindSpecial (.ref fI) self) (.ref fI, [self]) := fun self => bind_fn X self hf
  have Y' := Y
  obtain ⟨⟨oc, od, cd, sl, hC, e1, e2, e4⟩, made, base, self, top, call, typ⟩ := Y
  have k : ∀ b o, h'.get? b = some o → ((h'.push emptyDict).push (instObj C h'.objs.size)).get? b = some o := fun b o e => Heap.get?_push_of_some _ (Heap.get?_push_of_some _ e)
  have hx : ((h'.push emptyDict).push (instObj C h'.objs.size)).get? (h'.objs.size + 1) = some (instObj C h'.objs.size) := by
    have := Heap.get?_push_size (h'.push emptyDict) (o := instObj C h'.objs.size) rfl
    rwa [Heap.size_push] at this
  have t1 : Looks (model prog w) ((h'.push emptyDict).push (instObj C h'.objs.size)) (typeOf (.ref (h'.objs.size + 1))) (.ref C) := (Looks.ld hx).andThen .now
  have z := h (h'.objs.size + 1) h'.objs.size _ ((F.push _).push _) (by
    have := (N.push F emptyDict).push (F.push _) (instObj C h'.objs.size)
    rwa [Heap.size_push] at this) (fun p hp => Heap.lt_size (N p hp).1) (Nat.lt_succ_self _) (fun b o e _ => k b o e) (Nat.le_refl _)
  refine codeC_of_tree ?_
  show wpC _ _ (callAny (.ref C) _) _ _ _
  refine c_leaf (m := load C) (wpAny_load hC ?_)
  show wpC _ _ (callAny.viaDunder (.ref C) _) _ _ _
  unfold callAny.viaDunder
  refine c_leaf (call.at ?_)
  dsimp only
  rw [tc_bind]
  refine c_bind (c_pure (c_bind (c_pure ?_)))
  refine c_pure (a := Fin.again (.call (.builtin "type.__call__") ⟨.ref C :: rest, []⟩)) ⟨rfl, rfl, ?_⟩
  refine codeC_call_builtin_at (Code.quiet_builtin _ (by decide +kernel)) (holder_id (by decide +kernel)) entry_typeCall ?_
  with_reducible refine check_slot (by exact tc_kind) (by exact tc_split) (by exact typ) (by exact tc_args _ _ _) ?_
  unfold Builtin.«type.__call__»
  have hmro : Looks (model prog w) h' (mroOf (.ref C)) cd.mro := ((Looks.ld (part := none) hC).andThen .now).andThen .now
  have q1 : (Value.ref C == Value.type "type") = false := rfl
  refine c_iff ?_
  refine c_leaf (hmro.at ?_)
  rw [e4]
  refine c_iff ?_
  refine c_leaf (made.at ?_)
  dsimp only
  refine c_bind (c_pure ?_)
  refine c_leaf (wpAny_holding (wpAny_call (codeAny_mono (new_K (R := fun r s' => r = .ok (.ret (.ref (h'.objs.size + 1))) ∧ s' = ⟨(h'.push emptyDict).push (instObj C h'.objs.size), g, d, t, os⟩) Y' hi' (.inl rfl) ⟨rfl, rfl⟩) fun r s₁ hr => ?_)))
  obtain ⟨rfl, rfl⟩ := hr
  have ii : Looks (model prog w) ((h'.push emptyDict).push (instObj C h'.objs.size)) (isInstance (.ref (h'.objs.size + 1)) (.ref C)) true := t1.andThen (self.keeps k)
  refine c_leaf (ii.at ?_)
  simp only [Bool.not_true, Bool.false_eq_true, if_false]
  unfold callSpecial? specialOf
  refine c_bind (c_holding (c_bind (c_leaf (t1.at (c_any ((hi'.keeps k).at ?_))))))
  dsimp only
  refine c_holding (c_leaf (((hb (.ref (h'.objs.size + 1))).keeps k).at ?_))
  refine c_bind (c_call (codeC_mono z fun r s' zz => ?_))
  rcases r with e | (v | _ | _ | _) <;> first | exact zz | exact zz.elim | skip
  obtain ⟨rfl, zz⟩ := zz
  exact c_pure (c_pure zz)
end
/-! C7 -/
/-! the ledger behind a call that was told on a part of it -/
theorem keep_all {h₀ h h' : Heap} {L : Addr} {big : List (Addr × Obj)} (N : News h₀ L h big) (k : Kept [] h h') : News h₀ L h' big :=
  fun p hp => ⟨k _ _ (N p hp).1 (by simp), (N p hp).2⟩
theorem keep_new {h₀ h h' : Heap} {L : Addr} {big new : List (Addr × Obj)} (N : News h₀ L h big) (k : Kept [] h h') (N' : News h₀ L h' new) : News h₀ L h' (new ++ big) := fun p hp => by
  rcases List.mem_append.mp hp with q | q
  · exact N' p q
  · exact keep_all N k p q
theorem above_of {h₀ h : Heap} {L r : Addr} {big : List (Addr × Obj)} (N : News h₀ L h big) (hr : h.objs.size ≤ r) : ∀ p ∈ big, p.1 < r := fun p hp => Nat.lt_of_lt_of_le (Heap.lt_size (N p hp).1) hr
/-! C8 -/
section
open PySem.Spec
theorem ind_lt {i k n : Nat} (e : i + (k + 1) = n) : i < n := e ▸ Nat.lt_add_of_pos_right (Nat.succ_pos k)
theorem ind_next {i k n : Nat} (e : i + (k + 1) = n) : i + 1 + k = n := by rw [← e, Nat.add_assoc, Nat.add_comm 1 k]
section
variable {prog : Program} {w : World} {A : Around} {E : Value → Shared → Prop} {s : Shared} {h₀ : Heap} {L : Addr} {m : Str → Option Value} {env : Env}
/-- a range by any step, as a comprehension's source -/
noncomputable def StepSrc (prog : Program) (w : World) (A : Around) (h₀ : Heap) (L : Addr) (m : Str → Option Value) (env : Env) (elt : Expr) (x : Str) (scope : Scope) (cl : List (Str × Addr)) (Q : Value → Shared → Prop) (xv : Value) (s₁ : Shared) : Prop :=
  ∃ r a b c t u v n news, xv = .ref r ∧ A.handled = none ∧ Fr h₀ L s₁.heap m ∧ News h₀ L s₁.heap news ∧ IsRange s₁.heap r a b c t u v ∧ Builtin.Range.small a b c = true ∧ Builtin.Range.rangeSize a b c = ((n : Nat) : Int) ∧ n ≤ sizeLine ∧
    ∀ g, LCg.CompRest prog w A h₀ L m env elt x scope cl { s₁ with heap := g } (fun _ => True) (fun i v => i < n ∧ ∃ t, v = .int (a + (i : Int) * c) t) (LCg.FinE h₀ L m { s₁ with heap := g } Q) n 0 [] news
theorem comp_step {elt iter : Expr} {x : Str} {px : Pos} {scope : Scope} {cl : List (Str × Addr)} {pos : Pos} {Q : Value → Shared → Prop} (_F₀ : Fr h₀ L s.heap m)
    (hclos : closureFor scope env = pure cl) (hcell : ∀ y ∈ scope.names, y.2 ≠ .cell) (hkind : scope.kind = .function)
    (hnames : ∀ y ∈ scope.names, y.2 = .local → scope.names.lookup y.1 = some .local) (hx : scope.names.lookup x = some .local)
    (h : wpAny (model prog w) A (eval iter env) (StepSrc prog w A h₀ L m env elt x scope cl Q) E s)
    (hs : ∀ x, foldedSetIterable iter env x = pure x := by intro _; rfl) :
    wpAny (model prog w) A (eval (.ListComp elt [⟨.Name x px, iter, [], 0⟩] scope pos) env) Q E s := by
  rw [eval_ListComp]
  refine wpAny_comprehension_free (use := none) rfl hs hclos hkind hnames (wpAny_mono h (fun xv s₁ h₁ => ?_) fun _ _ e => e)
  obtain ⟨r, a, b, c, t, u, v, n, news, rfl, hh, F, N, hr, hsm, hn, hsz, R⟩ := h₁
  refine wpAny_pyIter_range hr hsm ?_
  refine LCg.block_U ((Walks.range hh s₁.heap.objs.size a c n).bound) hsz (fun i h st => ⟨_, st⟩) (fun i h h' o nw st e e' _ _ _ => by
      have st' : h.get? s₁.heap.objs.size = some _ := st
      show h'.get? s₁.heap.objs.size = some _
      rw [e', ← e]; exact st') hcell hkind hx (by show IsRangeIter _ _ _ _ _; rw [hn]; simpa using Heap.get?_push_size _ rfl) (fun b hb => ?_)
    (F.keeps fun _ _ e => Heap.get?_push_of_some _ e) (N.grown fun _ _ e => Heap.get?_push_of_some _ e) (Nat.ne_of_lt F.ns.lt) (next_is_new F) (fun p hp => Nat.ne_of_lt (Heap.lt_size (N p hp).1)) trivial (R _) ?_
  · rw [List.mem_singleton.mp hb]
    show s₁.heap.objs.size < (s₁.heap.push _).objs.size
    rw [Heap.size_push]; exact Nat.lt_succ_self _
  · intro D C h tk m' ys news' F' N' o1 hn hC₀ hD₀ hCL hDL hCD offC fin
    refine ⟨m', hn, fun h'' hs'' => fin D h'' tk (F'.change hs'' hCL hC₀) (fun p hp => ?_) o1⟩
    refine ⟨hs''.extBut _ _ ?_ (N' p hp).1, (N' p hp).2⟩
    rcases List.mem_cons.mp hp with rfl | hp
    · exact Ne.symm hCD
    · exact offC p hp
theorem comp_ind {elt : Expr} {x : Str} {scope : Scope} {cl : List (Str × Addr)} {S : List (Addr × Obj) → Prop} {P : Nat → Value → Prop} {Fin : List Value → List (Addr × Obj) → Prop} {n : Nat} {news : List (Addr × Obj)}
    (J : Nat → List Value → List (Addr × Obj) → Prop) (h0 : J 0 [] news)
    (step : ∀ i ys nw, i < n → J i ys nw → ∀ v I oI C oC D m₂ h tk (E' : Value → Shared → Prop), P i v → LCg.NsObj oC m₂ → m₂ x = some v → Fr h₀ L h m → News h₀ L h ((I, oI) :: (C, oC) :: (D, LCg.lst ys) :: nw) → LCg.Off3 I C D nw → ((@Ne Nat I C) ∧ (@Ne Nat I D) ∧ (@Ne Nat C D)) →
      wpAny (model prog w) A (eval elt (compEnvC scope cl C env)) (LCg.CompEnd h₀ L m { s with heap := h, toks := tk } I oI C oC D (LCg.lst ys) S (fun y nw' => J (i + 1) (ys ++ [y]) nw')) E' { s with heap := h, toks := tk })
    (fin : ∀ ys nw, J n ys nw → Fin ys nw) : LCg.CompRest prog w A h₀ L m env elt x scope cl s S P Fin n 0 [] news := by
  have main : ∀ k i ys nw, i + k = n → J i ys nw → LCg.CompRest prog w A h₀ L m env elt x scope cl s S P Fin k i ys nw := by
    intro k
    induction k with
    | zero => intro i ys nw e hJ; have e : i = n := e; subst e; exact .zero (fin _ _ hJ)
    | succ k ih =>
      intro i ys nw e hJ
      refine .succ fun v I oI C oC D m₂ h tk E' hP hN hm F N off ne => ?_
      refine wpAny_mono (step i ys nw (ind_lt e) hJ v I oI C oC D m₂ h tk E' hP hN hm F N off ne) (fun y s' hE => ?_) fun _ _ z => z
      refine hideG fun G9 hG9 => ?_
      obtain ⟨h', tk', news', e1, F', N', off', hS, hr⟩ := hE
      refine hG9 ?_
      clear hG9 G9
      exact ⟨h', tk', news', e1, F', N', off', hS, ih _ _ _ (ind_next e) hr⟩
  exact main n 0 [] news (Nat.zero_add n) h0
end

/-! bits and their texts -/
noncomputable def natBits : Nat → Nat → List Bool
  | 0, _ => []
  | k + 1, x => x.testBit k :: natBits k x
noncomputable def figs (bs : List Bool) : Str := ⟨(bs.map fun b => if b then 49 else 48).toArray⟩
theorem natBits_length : ∀ k x, (natBits k x).length = k
  | 0, _ => rfl
  | k + 1, x => by rw [natBits, List.length_cons, natBits_length k x]
theorem figs_length (bs : List Bool) : (figs bs).length = bs.length := by simp [figs, Str.length]
theorem figs_append (a b : List Bool) : figs (a ++ b) = figs a ++ figs b := by
  apply Str.ext'
  simp [figs, Str.cps_append]
theorem bit_text (x : Int) (i : Nat) (hx : 0 ≤ x) : (x.fdiv (2 ^ i)).fmod 2 = if x.toNat.testBit i then 1 else 0 := by
  obtain ⟨n, rfl⟩ := Int.eq_ofNat_of_zero_le hx
  have e : ((n : Int).fdiv (2 ^ i)).fmod 2 = ((n / 2 ^ i % 2 : Nat) : Int) := by
    rw [Int.fdiv_eq_ediv_of_nonneg _ (Int.pow_nonneg (by decide)), Int.fmod_eq_emod_of_nonneg _ (by decide)]
    push_cast; rfl
  rw [e]
  simp only [Int.toNat_natCast, Nat.testBit_eq_decide_div_mod_eq]
  rcases Nat.mod_two_eq_zero_or_one (n / 2 ^ i) with h | h <;> rw [h] <;> simp
theorem digit_text (b : Bool) : Str.ofString (toString (if b then (1 : Int) else 0)) = figs [b] := by cases b <;> decide +kernel
theorem ofString_empty : Str.ofString "" = Str.empty := by decide +kernel
theorem join_figs (bs : List Bool) : Txt.join (Str.ofString "") (bs.map fun b => figs [b]) = figs bs := by
  show Builtin.Str.glued _ _ = _
  rw [StrLaws.glued_eq_join, ofString_empty]
  induction bs with
  | nil => rfl
  | cons b r ih =>
    cases r with
    | nil => rfl
    | cons c r =>
      show figs [b] ++ Str.empty ++ Str.join Str.empty (figs [c] :: r.map fun b => figs [b]) = _
      have ih' : Str.join Str.empty (figs [c] :: r.map fun b => figs [b]) = figs (c :: r) := ih
      rw [ih', show figs (b :: c :: r) = figs [b] ++ figs (c :: r) from figs_append [b] (c :: r)]
      apply Str.ext'
      simp [Str.cps_append, Str.empty]
theorem natBits_map (x n : Nat) : natBits n x = (List.range n).map fun j => x.testBit (n - 1 - j) := by
  induction n with
  | zero => rfl
  | succ n ih =>
    rw [natBits, ih, List.range_succ_eq_map, List.map_cons, List.map_map]
    refine congr (congrArg _ rfl) (List.map_congr_left fun j hj => ?_)
    show _ = x.testBit (n - (j + 1))
    rw [Nat.add_comm j, ← Nat.sub_sub]
theorem strs_snoc {y : Str} {t : Tok} {vs : List Value} {ys : List Str} (h : StrsAre vs ys) : StrsAre (vs ++ [.str y t]) (ys ++ [y]) := by
  induction h with
  | nil => exact .cons y t .nil
  | cons a b h ih => exact .cons a b ih
theorem range_down (n : Nat) : Builtin.Range.rangeSize ((n : Int) - 1) (-1) (-1) = n := by
  unfold Builtin.Range.rangeSize
  rw [if_neg (by decide)]
  cases n with
  | zero => rfl
  | succ k =>
    rw [show ((k + 1 : Nat) : Int) - 1 = (k : Int) from Int.add_sub_cancel (k : Int) 1, if_pos (Int.lt_of_lt_of_le (by decide) (Int.natCast_nonneg k)), Int.sub_neg, Int.add_sub_cancel, Int.neg_neg, Int.ediv_one]
    rfl
theorem range_up (n : Nat) : Builtin.Range.rangeSize 0 n 1 = n := by
  unfold Builtin.Range.rangeSize
  rw [if_pos (by decide)]
  cases n with
  | zero => rfl
  | succ k =>
    rw [Int.sub_zero, show ((k + 1 : Nat) : Int) - 1 = (k : Int) from Int.add_sub_cancel (k : Int) 1, if_pos (show (0 : Int) < ((k + 1 : Nat) : Int) from Int.ofNat_lt.mpr (Nat.succ_pos k)), Int.ediv_one]
    rfl
theorem pow_toNat (i : Int) : (2 : Int) ^ i.toNat = ((2 ^ i.toNat : Nat) : Int) := by push_cast; rfl
theorem sum_ones {α : Type} (f : α → List Bool) (l : List α) (h : ∀ a, (f a).length = 1) : ((l.map fun j => figs (f j)).map (·.length)).sum = l.length := by
  induction l with
  | nil => rfl
  | cons a r ih => simp only [List.map_cons, List.sum_cons, ih, figs_length, h, List.length_cons, Nat.add_comm]
end
/-! M1 -/
theorem fm {α : Type} {P : α → Prop} {a : α} {l : List α} (h : P a) (t : ∀ x ∈ l, P x) : ∀ x ∈ a :: l, P x := List.forall_mem_cons.mpr ⟨h, t⟩
/-! bits, bytes -/
noncomputable def bval (l : List Bool) : Nat := l.foldl (fun a b => 2 * a + b.toNat) 0
theorem bval_fold (l : List Bool) : ∀ a : Nat, l.foldl (fun a b => 2 * a + b.toNat) a = a * 2 ^ l.length + bval l := by
  induction l with
  | nil => intro a; simp [bval]
  | cons b r ih =>
    intro a
    simp only [List.foldl_cons, bval, List.length_cons]
    rw [ih, ih (2 * 0 + b.toNat), Nat.pow_succ, Nat.add_mul, Nat.mul_zero, Nat.zero_add, Nat.mul_comm 2 a, Nat.mul_assoc, Nat.mul_comm 2, Nat.add_assoc]
theorem bval_append (a b : List Bool) : bval (a ++ b) = bval a * 2 ^ b.length + bval b := by
  rw [bval, List.foldl_append, bval_fold]; rfl
theorem bval_cons (b : Bool) (r : List Bool) : bval (b :: r) = b.toNat * 2 ^ r.length + bval r := by
  have := bval_append [b] r
  simpa [bval] using this
theorem bval_lt (l : List Bool) : bval l < 2 ^ l.length := by
  induction l with
  | nil => decide
  | cons b r ih =>
    rw [bval_cons, List.length_cons, Nat.pow_succ, Nat.mul_two]
    exact Nat.add_lt_add_of_le_of_lt (Nat.le_trans (Nat.mul_le_mul_right _ (Bool.toNat_le b)) (Nat.le_of_eq (Nat.one_mul _))) ih
theorem bval_natBits (x : Nat) : ∀ k, bval (natBits k x) = x % 2 ^ k
  | 0 => by simp [natBits, bval, Nat.mod_one]
  | k + 1 => by
    rw [natBits, bval_cons, natBits_length, bval_natBits x k, Nat.pow_succ, Nat.mod_mul, Nat.testBit_eq_decide_div_mod_eq, Nat.add_comm, Nat.mul_comm]
    rcases Nat.mod_two_eq_zero_or_one (x / 2 ^ k) with h | h <;> simp [h]
theorem bval_natBits_lt {x k : Nat} (h : x < 2 ^ k) : bval (natBits k x) = x := by rw [bval_natBits, Nat.mod_eq_of_lt h]
theorem bitOr_nat (a b : Nat) : Builtin.bitOr (a : Int) (b : Int) = ((a ||| b : Nat) : Int) := by
  have h1 : ∀ c : Nat, decide (0 ≤ Builtin.bitNot (c : Int)) = false := fun c => decide_eq_false (Int.not_le.mpr (Int.lt_of_lt_of_le (Int.sub_lt_self _ (by decide)) (Int.neg_nonpos_of_nonneg (Int.natCast_nonneg c))))
  have h2 : ∀ c : Int, Builtin.bitNot (Builtin.bitNot c) = c := fun c => by rw [Builtin.bitNot, Builtin.bitNot, Int.neg_sub, Int.sub_neg, Int.add_comm, Int.add_sub_cancel]
  unfold Builtin.bitOr Builtin.bitAnd
  rw [h1, h1]
  simp only [h2, Int.toNat_natCast]
theorem or_bits (a v k : Nat) (h : v < 2 ^ k) : Builtin.bitOr ((a : Int) * 2 ^ k) (v : Int) = ((a * 2 ^ k + v : Nat) : Int) := by
  have e : ((a : Int) * 2 ^ k) = ((a * 2 ^ k : Nat) : Int) := by push_cast; rfl
  rw [e, bitOr_nat, ← Nat.shiftLeft_eq, Nat.shiftLeft_add_eq_or_of_lt h]
noncomputable def octsN (n : Nat) (l : List Bool) : Array UInt8 := ((List.range n).map fun i => (bval ((l.drop (8 * i)).take 8)).toUInt8).toArray
theorem octsN_size (n : Nat) (l : List Bool) : (octsN n l).size = n := by simp [octsN]
theorem octsN_succ (n : Nat) (l : List Bool) : octsN (n + 1) l = (octsN n l).push (bval ((l.drop (8 * n)).take 8)).toUInt8 := by
  simp [octsN, List.range_succ]
theorem octsN_append {n : Nat} {l r : List Bool} (h : 8 * n ≤ l.length) : octsN n (l ++ r) = octsN n l := by
  unfold octsN
  refine congrArg List.toArray (List.map_congr_left fun i hi => ?_)
  have := List.mem_range.mp hi
  have h1 : 8 * i + 8 ≤ l.length := Nat.le_trans (Nat.mul_le_mul_left 8 this) h
  rw [List.drop_append_of_le_length (Nat.le_of_add_right_le h1), List.take_append_of_le_length (by rw [List.length_drop]; exact Nat.le_sub_of_add_le' h1)]
/-- the writer has taken in these bits -/
inductive WOk (bl : List Bool) (bs : Array UInt8) (r z : Int) : Prop
  | mk (n k : Nat) (ez : z = (k : Int)) (h : 8 * n + k = bl.length) (eb : bs = octsN n bl) (er : r = (bval (bl.drop (8 * n)) : Nat))
theorem WOk.init : WOk [] #[] 0 0 := ⟨0, 0, rfl, rfl, rfl, rfl⟩
theorem WOk.bounds {bl : List Bool} {bs : Array UInt8} {r z : Int} (h : WOk bl bs r z) (hz : z < 8) : 0 ≤ z ∧ 0 ≤ r ∧ r < 128 ∧ 8 * bs.size ≤ bl.length := by
  obtain ⟨n, k, rfl, h1, rfl, rfl⟩ := h
  have := bval_lt (bl.drop (8 * n))
  rw [List.length_drop, ← h1, Nat.add_sub_cancel_left] at this
  exact ⟨Int.natCast_nonneg _, Int.natCast_nonneg _, Int.ofNat_lt.mpr (Nat.lt_of_lt_of_le this (Nat.pow_le_pow_right (by decide) (Nat.le_of_lt_succ (Int.ofNat_lt.mp hz)))), by rw [octsN_size, ← h1]; exact Nat.le_add_right _ _⟩
theorem WOk.put {bl : List Bool} {bs : Array UInt8} {r z v : Int} {k : Nat} (h : WOk bl bs r z) (h0 : 0 ≤ v) (hv : v < 2 ^ k) :
    WOk (bl ++ natBits k v.toNat) bs (Builtin.bitOr (r * 2 ^ k) v) (z + (k : Int)) := by
  obtain ⟨n, j, rfl, h1, rfl, rfl⟩ := h
  obtain ⟨v, rfl⟩ := Int.eq_ofNat_of_zero_le h0
  have hv' : v < 2 ^ k := by exact_mod_cast hv
  have hn : 8 * n ≤ bl.length := h1 ▸ Nat.le_add_right _ _
  refine ⟨n, j + k, rfl, ?_, (octsN_append hn).symm, ?_⟩
  · rw [List.length_append, natBits_length, ← h1, Nat.add_assoc]
  · rw [or_bits _ _ _ hv', List.drop_append_of_le_length hn, bval_append, natBits_length, Int.toNat_natCast, bval_natBits_lt hv']
theorem take_drop_bval {l : List Bool} {j : Nat} (h : 8 + j = l.length) : bval l / 2 ^ j = bval (l.take 8) ∧ bval l % 2 ^ j = bval (l.drop 8) := by
  have hj : l.length - 8 = j := h ▸ Nat.add_sub_cancel_left _ _
  have e : bval l = bval (l.take 8) * 2 ^ j + bval (l.drop 8) := by
    have := bval_append (l.take 8) (l.drop 8)
    rwa [List.take_append_drop, List.length_drop, hj] at this
  have hl : bval (l.drop 8) < 2 ^ j := by
    have := bval_lt (l.drop 8)
    rwa [List.length_drop, hj] at this
  rw [e]
  constructor
  · rw [Nat.mul_comm, Nat.mul_add_div (Nat.two_pow_pos j), Nat.div_eq_of_lt hl, Nat.add_zero]
  · rw [Nat.mul_comm, Nat.mul_add_mod, Nat.mod_eq_of_lt hl]
theorem WOk.emit {bl : List Bool} {bs : Array UInt8} {r z : Int} (h : WOk bl bs r z) (hz : 8 ≤ z) :
    0 ≤ r.fdiv (2 ^ (z - 8).toNat) ∧ r.fdiv (2 ^ (z - 8).toNat) < 256 ∧
      WOk bl (bs.push (r.fdiv (2 ^ (z - 8).toNat)).toNat.toUInt8) (Builtin.bitAnd r (1 * 2 ^ (z - 8).toNat - 1)) (z - 8) := by
  obtain ⟨n, k, rfl, h1, rfl, rfl⟩ := h
  obtain ⟨j, rfl⟩ := Nat.exists_eq_add_of_le (Int.ofNat_le.mp hz)
  have ej : ((8 + j : Nat) : Int) - 8 = (j : Int) := by rw [Int.natCast_add, Int.add_comm]; exact Int.add_sub_cancel _ _
  rw [ej, Int.toNat_natCast]
  have hl : 8 + j = (bl.drop (8 * n)).length := by rw [List.length_drop, ← h1, Nat.add_sub_cancel_left]
  obtain ⟨e1, e2⟩ := take_drop_bval hl
  have ed : ((bval (bl.drop (8 * n)) : Nat) : Int).fdiv (2 ^ j) = (bval ((bl.drop (8 * n)).take 8) : Nat) := by
    rw [Int.fdiv_eq_ediv_of_nonneg _ (Int.pow_nonneg (by decide)), ← e1]
    push_cast; rfl
  rw [ed]
  have hb := bval_lt ((bl.drop (8 * n)).take 8)
  rw [List.length_take_of_le (hl ▸ Nat.le_add_right _ _)] at hb
  refine ⟨Int.natCast_nonneg _, Int.ofNat_lt.mpr hb, n + 1, j, rfl, ?_, ?_, ?_⟩
  · rw [Nat.mul_succ, Nat.add_assoc]; exact h1
  · rw [octsN_succ]; rfl
  · rw [Int.one_mul, kbt_mask, Nat.mul_succ, ← List.drop_drop, ← e2]
    push_cast; rfl
theorem WOk.size {bl : List Bool} {bs : Array UInt8} {r z : Int} (h : WOk bl bs r z) : ∃ n : Nat, z = n ∧ 8 * bs.size + n = bl.length := by
  obtain ⟨n, k, rfl, h1, rfl, rfl⟩ := h
  exact ⟨k, rfl, by rw [octsN_size]; exact h1⟩
theorem WOk.done {bl : List Bool} {bs : Array UInt8} {r : Int} (h : WOk bl bs r 0) : 8 * bs.size = bl.length ∧ bs = octsN (bl.length / 8) bl ∧ r = 0 := by
  obtain ⟨n, k, ez, h1, rfl, rfl⟩ := h
  obtain rfl : 0 = k := Int.ofNat.inj ez
  have e : 8 * n = bl.length := h1
  refine ⟨by rw [octsN_size, e], by rw [← e, Nat.mul_div_cancel_left _ (by decide)], ?_⟩
  rw [e, List.drop_length]; rfl
theorem WOk.few {bl : List Bool} {bs : Array UInt8} {r z : Int} (h : WOk bl bs r z) (_hz : z < 24) (hl : bl.length < 2020) : bs.size < 1000 := by
  obtain ⟨n, _, hs⟩ := h.size
  exact Nat.lt_of_mul_lt_mul_left (a := 8) (Nat.lt_of_le_of_lt (Nat.le_add_right _ n) (hs ▸ Nat.lt_trans hl (by decide)))
theorem less8 {z : Int} (h : 8 ≤ z) : (z - 8).toNat < z.toNat := (Int.toNat_lt_toNat (Int.lt_of_lt_of_le (by decide) h)).mpr (Int.sub_lt_self z (by decide))
noncomputable def padded (bl : List Bool) : List Bool := bl ++ List.replicate ((8 - bl.length % 8) % 8) true
noncomputable def pack (bl : List Bool) : Array UInt8 := octsN ((padded bl).length / 8) (padded bl)
theorem padded_length (bl : List Bool) : (padded bl).length = bl.length + (8 - bl.length % 8) % 8 := by simp [padded]
theorem padded_mod (bl : List Bool) : (padded bl).length % 8 = 0 := by
  have h : ∀ r : Fin 8, (r.val + (8 - r.val) % 8 % 8) % 8 = 0 := by decide
  rw [padded_length, Nat.add_mod]
  exact h ⟨_, Nat.mod_lt _ (by decide)⟩
theorem ones_bits : ∀ k : Nat, natBits k (2 ^ k - 1) = List.replicate k true := by
  intro k
  have : ∀ j, j ≤ k → natBits j (2 ^ k - 1) = List.replicate j true := by
    intro j
    induction j with
    | zero => intro _; rfl
    | succ j ih =>
      intro h
      rw [natBits, ih (by omega), List.replicate_succ, Nat.testBit_two_pow_sub_one, decide_eq_true (by omega)]
  exact this k (Nat.le_refl _)
/-! C9 -/
/-- the walk stops here -/
structure Stop (P : Prop) : Prop where
  out : P
section
variable {prog : Program} {w : World} {A : Around} {s : Shared} {R : Result → Shared → Prop} {E : Value → Shared → Prop} {env : Env}
theorem codeC_while {test body} (I : Nat → Shared → Prop)
    (turn : ∀ n s, I n s → wpC (model prog w) A (isTrue test env (eval test env)) (fun b s₁ => (b = false → R (.ok .next) s₁) ∧ (b = true →
      wpC (model prog w) A (execs body env) (fun f s₃ => match f with
            | .next | .cont => ∃ m, m < n ∧ I m s₃
            | .brk => R (.ok .next) s₃
            | .ret v => R (.ok (.ret v)) s₃) NoE s₁)) NoE s) (n : Nat) (h : I n s) : codeC (model prog w) A (.whileLoop test body [] env) R s :=
  codeC_whileLoop I (fun n s hI => c_mono (turn n s hI) (fun b s₁ h₁ => by cases b; exact h₁.1 rfl; exact h₁.2 rfl) fun _ _ z => z) n h
/-- a while on the road: a datum `x` tells the frame, the ledger and what else holds -/
theorem c_whileL {σ : Type} {g : Heap} {L : Addr} {test body} {pos : Pos} {Q : Flow → Shared → Prop} (mm : σ → Str → Option Value) (led : σ → List (Addr × Obj)) (J : σ → Prop) (μ : σ → Nat) (x₀ : σ) (F₀ : Fr g L s.heap (mm x₀)) (N₀ : News g L s.heap (led x₀)) (J₀ : J x₀)
    (turn : ∀ x h tk (PP : Flow → Shared → Prop), J x → Fr g L h (mm x) → News g L h (led x) → (∀ y h' tk', J y → μ y < μ x → Fr g L h' (mm y) → News g L h' (led y) → PP .next { s with heap := h', toks := tk' }) →
      wpAny (model prog w) A (isTrue test env (eval test env)) (fun b s₁ => Stop ((b = false → Q .next s₁) ∧ (b = true → wpC (model prog w) A (execs body env) PP NoE s₁))) NoE { s with heap := h, toks := tk }) :
    wpC (model prog w) A (exec (.While test body [] pos) env) Q NoE s := by
  refine c_While (codeC_while (fun n s' => ∃ x h tk, n = μ x ∧ s' = { s with heap := h, toks := tk } ∧ J x ∧ Fr g L h (mm x) ∧ News g L h (led x)) ?_ (μ x₀) ⟨x₀, s.heap, s.toks, rfl, rfl, J₀, F₀, N₀⟩)
  rintro n s' ⟨x, h, tk, rfl, rfl, Jx, Fx, Nx⟩
  refine c_any (wpAny_mono (turn x h tk (fun f s₃ => match f with | .next => ∃ m, m < μ x ∧ ∃ y h' tk', m = μ y ∧ s₃ = { s with heap := h', toks := tk' } ∧ J y ∧ Fr g L h' (mm y) ∧ News g L h' (led y) | _ => False) Jx Fx Nx fun y h' tk' Jy hy Fy Ny => ⟨μ y, hy, y, h', tk', rfl, rfl, Jy, Fy, Ny⟩) (fun b s₁ z => ⟨z.out.1, fun hb => c_mono (z.out.2 hb) (fun f s₃ y => ?_) fun _ _ y => y⟩) fun _ _ y => y)
  cases f <;> first | exact y | exact y.elim
theorem c_callB {id : String} {pos : Pos} {first : List Value} {e : Expr} {rest : List Expr} {Q : Value → Shared → Prop}
    (h : wpC (model prog w) A (spliced (backTo pos (starEach (e :: rest) env))) (fun vs s₁ => wpC (model prog w) A (call (.builtin id) (first ++ vs)) Q E s₁) E s)
    (he : starEach (e :: rest) env = (false, eval e env) :: starEach rest env := by rfl) (hplain : (backTo pos (starEach rest env)).any (·.1) = false := by rfl) :
    wpC (model prog w) A (callWith pos (.builtin id) first (backTo pos (starEach (e :: rest) env)) []) Q E s := by
  rw [he] at h ⊢
  exact c_callWith (P := fun _ => True) (by show (false || (backTo pos (starEach rest env)).any (·.1)) = false; rw [hplain]; rfl)
    (fun h _ => ⟨.machine, .inr (.inl rfl), (Looks.of_pure rfl : Looks _ h (keeperOf (.builtin id)) .machine)⟩) (c_evalArgs (c_mono h (fun _ _ z => ⟨trivial, z⟩) fun _ _ z => z))
end
section
variable {α β : Type} {M : Model} {A : Around} {E : Value → Shared → Prop} {s : Shared} {env : Env}
theorem k_any {t : Sem α} {Q : α → Shared → Prop} (h : wpAny M A t (fun a s' => Stop (Q a s')) E s) : wpC M A t Q E s := c_any (wpAny_mono h (fun _ _ z => z.out) fun _ _ z => z)
theorem k_arg {a t : Sem α} {Q : α → Shared → Prop} (h : wpAny M A t (fun a s' => Stop (Q a s')) E s) : wpC M A (if false = true then a else t) Q E s := by
  rw [if_neg Bool.false_ne_true]; exact k_any h
theorem k_stmt {st rest} {Q : Flow → Shared → Prop}
    (h : wpAny M A (exec st env) (fun f s' => Stop (match f with | .next => wpC M A (execs rest env) Q E s' | f => Q f s')) E s) : wpC M A (execs (st :: rest) env) Q E s := c_execs_cons (k_any h)
theorem k_meth {o name apos pos args} {Q : Value → Shared → Prop}
    (h : wpAny M A (eval o env) (fun ov s₁ => wpAny M A (getMethod ov name (do return (← importBound o env).getD true)) (fun fp s₂ => Stop (wpC M A (callWith pos fp.1 fp.2 (backTo pos (starEach args env)) []) Q E s₂)) E s₁) E s)
    (hb : attributeBase o name env (eval o env) = eval o env := by rfl) (hf : methodCallForm (args.length + 0) (backTo pos (starEach args env)) [] = true := by rfl) (hl : (apos.endLine == pos.line) = true := by rfl) :
    wpC M A (eval (.Call (.Attribute o name apos) args [] pos) env) Q E s :=
  c_Call_meth (wpAny_mono h (fun _ _ z => wpAny_mono z (fun _ _ z => z.out) fun _ _ z => z) fun _ _ z => z) hb hf hl
theorem k_name {id p pos args} {Q : Value → Shared → Prop} (h : wpAny M A (eval (.Name id p) env) (fun f s₁ => Stop (wpC M A (callWith pos f [] (backTo pos (starEach args env)) []) Q E s₁)) E s) :
    wpC M A (eval (.Call (.Name id p) args [] pos) env) Q E s := c_Call_Name (wpAny_mono h (fun _ _ z => z.out) fun _ _ z => z)
theorem k_if {test body orelse pos} {Q : Flow → Shared → Prop}
    (h : wpAny M A (isTrue test env (eval test env)) (fun b s₂ => Stop ((b = true → wpC M A (execs body env) Q E s₂) ∧ (b = false → wpC M A (execs orelse env) Q E s₂))) E s) : wpC M A (exec (.If test body orelse pos) env) Q E s :=
  c_If (c_any (wpAny_mono h (fun b s₂ z => by cases b; exact z.out.2 rfl; exact z.out.1 rfl) fun _ _ z => z))
end
theorem stop_any {α : Type} {M : Model} {A : Around} {t : Sem α} {Q : α → Shared → Prop} {E : Value → Shared → Prop} {s : Shared} (h : Stop (wpAny M A t Q E s)) : wpAny M A t Q E s := h.out
theorem stopCall {M : Model} {A : Around} {f : Value} {vs : List Value} {Q E : Value → Shared → Prop} {s : Shared} (h : Stop (wpAny M A (call f vs) Q E s)) : wpAny M A (call f vs) Q E s := h.out
theorem room_lt {d k j r : Nat} (h : d + k < r) (hj : j ≤ k) : d + j < r := Nat.lt_of_le_of_lt (Nat.add_le_add_left hj d) h
theorem lt_dp {d k r : Nat} (h : d + k < r) : d < r := Nat.lt_of_le_of_lt (Nat.le_add_right d k) h
theorem at_news {h₀ h : Heap} {L a : Addr} {o : Obj} {news : List (Addr × Obj)} (N : News h₀ L h news) (hm : (a, o) ∈ news) : h.get? a = some o := (N _ hm).1
theorem ne_of {h₀ h : Heap} {L a b : Addr} {oa ob : Obj} {news : List (Addr × Obj)} (N : News h₀ L h news) (ha : (a, oa) ∈ news) (hb : (b, ob) ∈ news) (hne : oa ≠ ob) : @Ne Nat a b := fun e => by
  have e : a = b := e
  subst e
  exact hne (Option.some.inj ((N _ ha).1.symm.trans (N _ hb).1))
theorem upd_fr {h₀ h h' : Heap} {L a : Addr} {m : Str → Option Value} {o : Obj} {news : List (Addr × Obj)} (F : Fr h₀ L h m) (N : News h₀ L h news) (hm : (a, o) ∈ news) (hs : Heap.SameBut a h h') : Fr h₀ L h' m :=
  F.change hs (N _ hm).2.1 (N _ hm).2.2
theorem upd_news {h₀ h h' : Heap} {L a : Addr} {o o' : Obj} {news news' : List (Addr × Obj)} (N : News h₀ L h news) (U : Upd a o o' news news') (hs : Heap.SameBut a h h') (hg : h'.get? a = some o') : News h₀ L h' news' := by
  obtain ⟨pre, post, rfl, rfl, h1, h2⟩ := U.split
  intro p hp
  rcases List.mem_append.mp hp with q | q
  · exact ⟨hs.extBut _ _ (h1 p q) (N p (List.mem_append_left _ q)).1, (N p (List.mem_append_left _ q)).2⟩
  · rcases List.mem_cons.mp q with rfl | q
    · exact ⟨hg, (N (a, o) (List.mem_append_right _ (.head _))).2⟩
    · exact ⟨hs.extBut _ _ (h2 p q) (N p (List.mem_append_right _ (.tail _ q))).1, (N p (List.mem_append_right _ (.tail _ q))).2⟩
/-! M2 -/
theorem two_pos (k : Nat) : (0 : Int) < 2 ^ k := Int.pow_pos (by decide)
theorem pad_v (k : Nat) : 0 ≤ (1 : Int) * 2 ^ k - 1 ∧ (1 : Int) * 2 ^ k - 1 < 2 ^ k := by
  rw [Int.one_mul]
  exact ⟨Int.le_sub_one_of_lt (two_pos k), Int.sub_lt_self _ (by decide)⟩
theorem two_less (k : Nat) : ((1 : Int) * 2 ^ k - 1).toNat = 2 ^ k - 1 := by
  rw [Int.one_mul, show ((2 : Int) ^ k) = ((2 ^ k : Nat) : Int) by push_cast; rfl]
  exact Int.toNat_sub _ 1
theorem pad_some {bl : List Bool} {bs : Array UInt8} {r z : Int} (W : WOk bl bs r z) (hz8 : z < 8) (h0 : 0 < z) : bl ++ natBits (8 - z).toNat ((1 : Int) * 2 ^ (8 - z).toNat - 1).toNat = padded bl := by
  obtain ⟨n, rfl, hs⟩ := W.size
  have e1 : (8 - bl.length % 8) % 8 = (8 - (n : Int)).toNat := by
    rw [← hs, Nat.mul_add_mod, Nat.mod_eq_of_lt (Int.ofNat_lt.mp hz8), Nat.mod_eq_of_lt (Nat.sub_lt (by decide) (Int.ofNat_lt.mp h0))]
    exact (Int.toNat_sub 8 n).symm
  unfold padded
  rw [e1, two_less, ones_bits]
theorem pad_none {bl : List Bool} {bs : Array UInt8} {r z : Int} (W : WOk bl bs r z) (h0 : z = 0) : padded bl = bl := by
  obtain ⟨n, rfl, hs⟩ := W.size
  obtain rfl : n = 0 := Int.ofNat.inj h0
  unfold padded
  rw [← hs, Nat.add_zero, Nat.mul_mod_right]
  exact List.append_nil _
theorem pad_zero {bl : List Bool} {bs : Array UInt8} {r z : Int} (W : WOk (padded bl) bs r z) (hz8 : z < 8) : z = 0 ∧ bs = pack bl ∧ r = 0 := by
  obtain ⟨n, rfl, hs⟩ := W.size
  have := padded_mod bl
  rw [← hs, Nat.mul_add_mod, Nat.mod_eq_of_lt (Int.ofNat_lt.mp hz8)] at this
  subst this
  exact ⟨rfl, W.done.2⟩
theorem pack_few {bl : List Bool} (h : bl.length < 2000) : (pack bl).size ≤ 16777216 := by
  unfold pack
  rw [octsN_size, padded_length]
  exact Nat.le_trans (Nat.div_le_self _ _) (Nat.le_trans (Nat.add_le_add (Nat.le_of_lt h) (Nat.le_of_lt (Nat.mod_lt _ (by decide)))) (by decide))
/-! C10 -/
section
variable {prog : Program} {w : World} {M : Model} {A : Around} {E : Value → Shared → Prop} {s : Shared} {env : Env}
theorem k_assign_attr {o attr pos' value pos} {Q : Flow → Shared → Prop} (h : wpC M A (eval value env) (fun v s₁ => wpAny M A (eval o env) (fun ov s₂ => wpAny M A (setAttr ov attr v) (fun _ s₃ => Stop (Q .next s₃)) E s₂) E s₁) E s)
    (hs : swapsWith value (some (.Attribute o attr pos')) pos.line env = pure false := by rfl) : wpC M A (exec (.Assign [.Attribute o attr pos'] value pos) env) Q E s :=
  c_Assign_Attr (c_mono h (fun _ _ z => wpAny_mono z (fun _ _ z => wpAny_mono z (fun _ _ z => z.out) fun _ _ z => z) fun _ _ z => z) fun _ _ z => z) hs
theorem k_assign_name {x pos' value pos} {Q : Flow → Shared → Prop} (h : wpC M A (eval value env) (fun v s₁ => wpAny M A (storeName env x v) (fun _ s₂ => Stop (Q .next s₂)) E s₁) E s)
    (hs : swapsWith value (some (.Name x pos')) pos.line env = pure false := by rfl) : wpC M A (exec (.Assign [.Name x pos'] value pos) env) Q E s :=
  c_Assign_Name (c_mono h (fun _ _ z => wpAny_mono z (fun _ _ z => z.out) fun _ _ z => z) fun _ _ z => z) hs
theorem c_callT0 {T : String} {pos : Pos} {Q : Value → Shared → Prop} (h : wpC (model prog w) A (call (.type T) []) Q E s) :
    wpC (model prog w) A (callWith pos (.type T) [] (backTo pos (starEach [] env)) []) Q E s :=
  c_callWith (P := fun _ => True) rfl (fun h _ => ⟨.machine, .inr (.inl rfl), (Looks.of_pure rfl : Looks _ h (keeperOf (.type T)) .machine)⟩) (c_evalArgs_nil ⟨trivial, h⟩)
end
theorem new_none {h₀ h : Heap} {L a : Addr} {m : Str → Option Value} (F : Fr h₀ L h m) (ha : h.get? a = none) : a ≠ L ∧ h₀.get? a = none := by
  constructor
  · rintro rfl
    obtain ⟨o, _, _, ho, _⟩ := F.ns
    rw [ha] at ho; cases ho
  · cases q : h₀.get? a with
    | none => rfl
    | some o => have := F.keep _ _ q; rw [ha] at this; cases this
theorem none_size (h : Heap) : h.get? h.objs.size = none := by
  cases q : h.get? h.objs.size with
  | none => rfl
  | some o => exact absurd (Heap.lt_size q) (Nat.lt_irrefl _)
theorem new_news {h₀ h h' : Heap} {L a : Addr} {m : Str → Option Value} {o : Obj} {news : List (Addr × Obj)} (F : Fr h₀ L h m) (N : News h₀ L h news) (k : ∀ b o, h.get? b = some o → h'.get? b = some o) (ha : h.get? a = none) (hg : h'.get? a = some o) :
    News h₀ L h' ((a, o) :: news) := fun p hp => by
  rcases List.mem_cons.mp hp with rfl | q
  · exact ⟨hg, new_none F ha⟩
  · exact ⟨k _ _ (N p q).1, (N p q).2⟩
theorem none_above {h : Heap} {a : Addr} (ha : h.objs.size ≤ a) : h.get? a = none := by
  cases q : h.get? a with
  | none => rfl
  | some o => exact absurd (Heap.lt_size q) (Nat.not_lt.mpr ha)
theorem kept_new {h h1 h' : Heap} {as : List Addr} (k : Kept [] h h1) (k' : Kept as h1 h') (ha : ∀ a ∈ as, h.objs.size ≤ a) : Kept [] h h' := fun b o e _ =>
  k' b o (k b o e (by simp)) fun hb => by rw [none_above (ha b hb)] at e; cases e
/-! C11 -/
section
open Builtin Builtin.Bytes
/-! bytes(bytearray) -/
section
variable {M : Model} {prog : Program} {w : World} {A : Around} {s : Shared} {E : Value → Shared → Prop}
theorem ba_no_bytes : typeLookup (.type "bytearray") "__bytes__" = pure none := by rw [typeLookup_type, builtinLookup_eq_fast]; kernel_rfl
theorem ba_no_index : typeLookup (.type "bytearray") "__index__" = pure none := by rw [typeLookup_type, builtinLookup_eq_fast]; kernel_rfl
theorem ba_buffer : typeLookup (.type "bytearray") "__buffer__" = pure (some (.builtin "bytearray.__buffer__")) := by rw [typeLookup_type, builtinLookup_eq_fast]; kernel_rfl
theorem buf_ends : (!("bytearray.__buffer__".endsWith ("." ++ "__buffer__"))) = false := by decide +kernel
theorem buf_owner : "bytearray.__buffer__".dropRight ("__buffer__".length + 1) = "bytearray" := by decide +kernel
theorem wpAny_ba_ownbuf {a : Addr} {Q : Bool → Shared → Prop} (hT : s.TypeIs (.ref a) "bytearray") (h : Q true s) : wpAny M A (slotIsOwn (.ref a) "__buffer__") Q E s := by
  unfold slotIsOwn
  refine wpAny_bind (wpAny_specialOf hT ba_buffer ?_)
  simp only [buf_ends, Bool.false_eq_true, if_false]
  rw [buf_owner]
  exact wpAny_isInstance hT sub_ba_self h
theorem bn_new {a : Addr} {bs : Array UInt8} {Q : Value → Shared → Prop} (ho : s.heap.get? a = some (baObj bs)) (hz : bs.size ≤ 16777216)
    (hQ : ∀ t k, Q (.bytes bs t) { s with toks := k }) :
    codeAny (model prog w) A (.call (.builtin "bytes.__new__") ⟨[.type "bytes", .ref a], []⟩) (wants Q E) s := by
  refine codeAny_of_tree ?_
  show wpAny _ A.in1 (do checkBuiltinCall "bytes.__new__" ⟨[.type "bytes", .ref a], []⟩; again (.builtin "bytes.__new__" ⟨[.type "bytes", .ref a], []⟩)) _ _ s
  refine wpAny_bind (wpAny_of_eq (F.bm_newCall _) (wpAny_pure ⟨plainId_quiet F.bm_plain _, codeAny_builtin F.bm_entry ?_⟩))
  rw [Around.under_plainId F.bm_plain _]
  have hT : s.TypeIs (.ref a) "bytearray" := ⟨_, ho, rfl⟩
  unfold Builtin.«bytes.__new__»
  refine wpAny_bind (wpAny_of_eq (a := true) rfl ?_)
  refine bm_if_false rfl ?_
  refine wpAny_bind (wpAny_of_eq F.bm_sub ?_)
  refine bm_if_false rfl ?_
  refine wpAny_bind (wpAny_of_eq (F.bm_bind _) ?_)
  refine wpAny_bind (wpAny_of_eq (a := ()) rfl ?_)
  refine wpAny_bind (wpAny_of_eq (a := ()) rfl ?_)
  refine bm_if_false rfl ?_
  refine wpAny_bind (wpAny_specialOf hT ba_no_bytes ?_)
  refine wpAny_bind (wpAny_bind ?_)
  show wpAny _ _ (load a >>= _) _ _ _
  refine wpAny_bind (wpAny_load ho ?_)
  refine wpAny_pure (wpAny_pure ?_)
  refine bm_if_false rfl ?_
  refine wpAny_bind (wpAny_specialOf hT ba_no_index ?_)
  refine bm_if_true rfl ?_
  first
    | show wpAny _ _ (Builtin.Bytes.buffer? "bytes.__new__" (.ref a) true >>= _) _ _ _
    | (refine wpAny_bind ?_; show wpAny _ _ (Builtin.Bytes.buffer? "bytes.__new__" (.ref a) true >>= _) _ _ _)
  refine wpAny_bind ?_
  unfold Builtin.Bytes.buffer?
  refine wpAny_bind (wpAny_specialOf hT ba_buffer ?_)
  refine wpAny_bind (wpAny_ba_ownbuf hT ?_)
  refine bm_if_false rfl ?_
  refine wpAny_bind (wpAny_specialOf hT ba_buffer ?_)
  refine wpAny_bind (wpAny_ba_release hT ?_)
  refine bm_if_false rfl ?_
  unfold payload payload?
  refine wpAny_bind (wpAny_bind (wpAny_bind (wpAny_load ho (wpAny_pure (wpAny_pure (wpAny_pure ?_))))))
  refine wpAny_bind (wpAny_rule ?_)
  refine wpAny_bind (wpAny_mkBytes ?_ (by rw [sizeLine_eq]; exact hz))
  refine wpAny_of_eq (a := Fin.done (.ret (.bytes bs s.toks))) ?_ (hQ _ _)
  with_unfolding_all rfl
theorem call_bytes_ba {a : Addr} {bs : Array UInt8} {Q : Value → Shared → Prop} (ho : s.heap.get? a = some (baObj bs)) (hz : bs.size ≤ 16777216)
    (hQ : ∀ t k, Q (.bytes bs t) { s with toks := k }) : wpAny (model prog w) A (call (.type "bytes") [.ref a]) Q E s := by
  refine callType_codes (Q₁ := fun obj s₁ => s₁.TypeIs obj "bytes" ∧ Q obj s₁) F.bm_called (F.bm_typeCall _) F.entry_object_init
    (bn_new ho hz fun t k => ⟨PySem.W.typeIs_bytes _ _ _, hQ t k⟩) fun obj s₁ h₁ => ?_
  exact ⟨h₁.1, F.args_object_init_2 obj _, object_init_meets F.bm_called.init.lookup F.bm_called.made (by decide) prog w A.in1 _ s₁ ⟨h₁.1, rfl, h₁.2⟩⟩
end
theorem units_make {A : Around} {C : Addr} {rest : List Value} : (A.under (.builtin "type.__call__" ⟨.ref C :: rest, []⟩)).units = A.units + 1 := by
  show A.units + (Code.builtin "type.__call__" ⟨.ref C :: rest, []⟩).cUnits = A.units + 1
  rfl
noncomputable def dlen (o : Obj) : Nat := match o.data with
  | .dict _ n => n
  | _ => 0
noncomputable def dkey (o : Obj) : Option Str := match o.data with
  | .dict es _ => (match es.toList with | e :: _ => (match e.key with | .str s _ => some s | _ => none) | [] => none)
  | _ => none
theorem notin_nil {a : Addr} : a ∉ ([] : List Addr) := by simp
theorem notin_cons {a b : Addr} {l : List Addr} (h : @Ne Nat a b) (h' : a ∉ l) : a ∉ b :: l := fun hm => by
  rcases List.mem_cons.mp hm with e | hm
  · exact h e
  · exact h' hm
theorem ltA {a b : Nat} (h : a < b) : @LT.lt Addr _ a b := h
end
/-! M3 -/
theorem bit1 (x : Int) : 0 ≤ Builtin.bitAnd x 1 ∧ Builtin.bitAnd x 1 < 2 ^ (1 : Int).toNat ∧ natBits (1 : Int).toNat (Builtin.bitAnd x 1).toNat = [decide (x.fmod 2 = 1)] := by
  rw [bitAnd_m1]
  have e : x.fmod 2 = x % 2 := Int.fmod_eq_emod_of_nonneg _ (by decide)
  have h0 := Int.emod_nonneg x (by decide : (2 : Int) ≠ 0)
  have h1 := Int.emod_lt_of_pos x (by decide : (0 : Int) < 2)
  refine ⟨h0, by show x % 2 < 2 ^ 1; omega, ?_⟩
  rw [e]
  have h : x % 2 = 0 ∨ x % 2 = 1 := by omega
  rcases h with h | h <;> rw [h] <;> decide
/-! C12 -/
/-! int(text, 2), eight signs -/
noncomputable def bch (b : Bool) : Nat := if b then 49 else 48
noncomputable def allB : Nat → List (List Bool)
  | 0 => [[]]
  | n + 1 => (allB n).map (true :: ·) ++ (allB n).map (false :: ·)
theorem mem_allB : ∀ l : List Bool, l ∈ allB l.length
  | [] => .head _
  | true :: r => List.mem_append_left _ (List.mem_map_of_mem (mem_allB r))
  | false :: r => List.mem_append_right _ (List.mem_map_of_mem (mem_allB r))
theorem read_all : (allB 8).map (fun l => (int_private% "readNumeral") 0 2 (l.map bch)) = (allB 8).map (fun l => (int_private% "Numeral.value") (bval l : Nat)) := by kernel_rfl
theorem read_eight {l : List Bool} (hl : l.length = 8) : (int_private% "readNumeral") 0 2 (l.map bch) = (int_private% "Numeral.value") (bval l : Nat) :=
  List.map_inj_left.mp read_all l (hl ▸ mem_allB l)
theorem typeCall_int_2 (a b : Value) : checkTypeCall "int" ⟨[a, b], []⟩ = pure () := by kernel_rfl
theorem newCall_int_2 (a b : Value) : checkBuiltinCall "int.__new__" ⟨[.type "int", a, b], []⟩ = pure () := by kernel_rfl
theorem init_int_2 (a b c : Value) : argsOk "object.__init__" ⟨[a, b, c], []⟩ := by unfold argsOk; kernel_rfl
theorem wp_text2 {M : Model} {A : Around} {E : Value → Shared → Prop} {s : Shared} {Q : Value → Shared → Prop} {v : Value} {text : List Nat} {n : Int}
    (hs : (text.takeWhile (· != 0)).length ≤ 640) (hr : (int_private% "readNumeral") 0 2 (text.takeWhile (· != 0)) = (int_private% "Numeral.value") n)
    (ha : ((text.takeWhile (· != 0)).length == text.length) = true) (h : Q (.int n s.toks) { s with toks := s.toks + 1 }) :
    wpAny M A ((int_private% "intFromText") v text 2) Q E s := by
  obtain ⟨hp, g, d, tk, os⟩ := s
  repeat (any_goals (first
    | assumption
    | (with_reducible refine wpAny_ite_true (decide_eq_true hs) ?_)
    | (with_reducible refine wpAny_ite_true (decide_eq_true ha) ?_)
    | wp_step))
  all_goals (try rw [hr])
  all_goals (try dsimp only)
  repeat (any_goals (first
    | assumption
    | (with_reducible refine wpAny_ite_true (decide_eq_true hs) ?_)
    | (with_reducible refine wpAny_ite_true (decide_eq_true ha) ?_)
    | wp_step))
theorem take_all (l : List Bool) : (l.map bch).takeWhile (· != 0) = l.map bch := by
  induction l with
  | nil => rfl
  | cons b r ih => rw [List.map_cons, List.takeWhile_cons, ih]; cases b <;> rfl
theorem figs_cps (l : List Bool) : (figs l).cps.toList = l.map bch := by simp [figs, bch]
theorem numtext_eight (l : List Bool) : (if (figs l).cps.all (· < 128) then (figs l).cps.toList else Unicode.numberText (figs l).cps.toList) = l.map bch := by
  rw [if_pos, figs_cps]
  rw [Array.all_eq_true']
  intro x hx
  have : x ∈ (figs l).cps.toList := by simpa using hx
  rw [figs_cps] at this
  obtain ⟨b, _, rfl⟩ := List.mem_map.mp this
  cases b <;> decide
structure Hid2 (p : Prop) : Prop where
  out : p
set_option maxHeartbeats 4000000 in
theorem gives_int2 {l : List Bool} {u u2 : Tok} (hl : l.length = 8) : Gives (Builtin.«int.__new__» ⟨[.type "int", .str (figs l) u, .int 2 u2], []⟩) (.int (bval l : Nat)) :=
  .of_wp fun M A E s Q h => by
    obtain ⟨hp, g, d, tk, os⟩ := s
    have f1 := F.conv_sub_int
    have f2 := F.madeHere_int
    have hr : (int_private% "readNumeral") 0 2 ((l.map bch).takeWhile (· != 0)) = (int_private% "Numeral.value") (bval l : Nat) := by
      rw [take_all]
      exact read_eight hl
    have hs : ((l.map bch).takeWhile (· != 0)).length ≤ 640 := by rw [take_all, List.length_map, hl]; decide
    have ha : (((l.map bch).takeWhile (· != 0)).length == (l.map bch).length) = true := by rw [take_all]; exact beq_self_eq_true _
    have hn := numtext_eight l
    have hk := Hid2.mk (And.intro hs (And.intro hr ha))
    clear hs hr ha hl
    repeat (any_goals (first
      | assumption
      | ((with_reducible show wpAny _ _ ((int_private% "intFromText") _ _ _) _ _ _); rw [hn]; refine wp_text2 hk.out.1 hk.out.2.1 hk.out.2.2 ?_)
      | wp_step))
    all_goals exact ⟨_, rfl, h⟩
section
variable {prog : Program} {w : World} {A : Around} {E : Value → Shared → Prop} {s : Shared} {Q : Value → Shared → Prop}
theorem call_int2 {l : List Bool} {u u2 : Tok} (hl : l.length = 8) (h : Q (.int (bval l : Nat) s.toks) { s with toks := s.toks + 1 }) : wpAny (model prog w) A (call (.type "int") [.str (figs l) u, .int 2 u2]) Q E s := by
  refine callType_new F.called_int F.newNe_int (typeCall_int_2 _ _) (newCall_int_2 _ _) (fun obj => init_int_2 obj _ _) F.entry_int_new (gives_int2 hl).meets ?_
  exact (show (Made.int (bval l : Nat)).post _ s from ⟨rfl, h⟩)
end
/-! C13 -/
section
variable {M : Model} {A : Around} {E : Value → Shared → Prop} {s : Shared} {env : Env}
theorem kk_stmt {st rest} {Q : Flow → Shared → Prop}
    (h : wpAny M A (exec st env) (fun f s' => Stop (match f with | .next => wpAny M A (execs rest env) Q E s' | f => Q f s')) E s) : wpAny M A (execs (st :: rest) env) Q E s := by
  rw [execs_cons]
  refine wpAny_bind (wpAny_mono h (fun f s' h' => ?_) fun _ _ x => x)
  have h' := h'.out
  cases f <;> first | exact h' | exact wpAny_pure h'
end
theorem pad_text (bl : List Bool) (h : bl.length ≤ 1000) : figs bl ++ Txt.mul (Str.ofString "1") ((-((figs bl).length : Int)).fmod 8) = figs (padded bl) := by
  unfold padded
  rw [figs_append]
  congr 1
  rw [figs_length]
  have e : (-(bl.length : Int)).fmod 8 = (((8 - bl.length % 8) % 8 : Nat) : Int) := by
    have h : ∀ r : Fin 8, ((0 : Int) % 8 - ((r.val : Nat) : Int)) % 8 = (((8 - r.val) % 8 : Nat) : Int) := by decide
    rw [Int.fmod_eq_emod_of_nonneg _ (by decide), ← Int.zero_sub, Int.sub_emod]
    exact h ⟨_, Nat.mod_lt _ (by decide)⟩
  rw [e]
  exact (by decide +kernel : ∀ n : Nat, n < 8 → Txt.mul (Str.ofString "1") (n : Int) = figs (List.replicate n true)) _ (Nat.mod_lt _ (by decide))
theorem slice_figs {l : List Bool} {i : Nat} (h : 8 * i + 8 ≤ l.length) : Txt.slice (figs l) (some (0 + (i : Int) * 8)) (some (0 + (i : Int) * 8 + 8)) = figs ((l.drop (8 * i)).take 8) := by
  have e0 : (0 + (i : Int) * 8) = ((8 * i : Nat) : Int) := by rw [Int.zero_add, Int.mul_comm]; rfl
  rw [e0]
  have e := eq_of_beq (slice_closes (x := figs l) (i := ((8 * i : Nat) : Int)) (j := ((8 * i + 8 : Nat) : Int)) ⟨Int.natCast_nonneg _, Int.ofNat_le.mpr (Nat.le_add_right _ _), by rw [figs_cps, List.length_map]; exact Int.ofNat_le.mpr h⟩)
  refine e.trans ?_
  apply Str.ext'
  rw [Int.toNat_natCast, Int.toNat_sub, Nat.add_sub_cancel_left, figs_cps]
  show _ = (figs _).cps
  unfold figs
  simp only [← List.map_drop, ← List.map_take]
  rfl
theorem range_by8 {n : Nat} (h : n % 8 = 0) : Builtin.Range.rangeSize 0 n 8 = ((n / 8 : Nat) : Int) := by
  unfold Builtin.Range.rangeSize
  rw [if_pos (by decide)]
  obtain ⟨q, rfl⟩ := Nat.dvd_of_mod_eq_zero h
  rw [Nat.mul_div_cancel_left _ (by decide)]
  cases q with
  | zero => rfl
  | succ k =>
    have e : ((8 * (k + 1) : Nat) : Int) - 0 - 1 = ((8 * k + 7 : Nat) : Int) := by
      rw [Int.sub_zero]; exact (Int.ofNat_sub (Nat.le_add_left 1 (8 * k + 7))).symm
    have f : (8 * k + 7) / 8 = k := by rw [Nat.mul_add_div (by decide)]; rfl
    rw [if_pos (show (0 : Int) < ((8 * (k + 1) : Nat) : Int) from Int.ofNat_lt.mpr (Nat.succ_pos (8 * k + 7))), e]
    exact congrArg (fun x : Nat => ((x + 1 : Nat) : Int)) f
theorem fits_long {x : Nat} (h : x ≤ 200000) : Builtin.Range.rangeFitsLong (x : Int) = true :=
  Bool.and_eq_true_iff.mpr ⟨decide_eq_true (Int.le_trans (by decide) (Int.natCast_nonneg x)), decide_eq_true (Int.lt_of_le_of_lt (Int.ofNat_le.mpr h) (by decide))⟩
theorem small_by8 {n : Nat} (h : n % 8 = 0) (hn : n ≤ 100000) : Builtin.Range.small 0 n 8 = true := by
  have a := fits_long (x := n) (Nat.le_trans hn (by decide))
  have b := fits_long (x := n / 8) (Nat.le_trans (Nat.div_le_self _ _) (Nat.le_trans hn (by decide)))
  have c := fits_long (x := n + 7) (Nat.le_trans (Nat.add_le_add_right hn 7) (by decide))
  rw [Builtin.Range.small, range_by8 h, a, b]
  rw [show ((n : Int) + (8 - 1)) = ((n + 7 : Nat) : Int) from rfl, c, if_pos (by decide)]
  exact Bool.or_true _
theorem small_up {n : Nat} (h : n ≤ 100000) : Builtin.Range.small 0 n 1 = true := by
  have a := fits_long (x := n) (Nat.le_trans h (by decide))
  rw [Builtin.Range.small, range_up, a, show ((n : Int) + (1 - 1)) = (n : Int) from Int.add_zero _, a, if_pos (by decide)]
  exact Bool.or_true _
theorem small_down {n : Nat} (h : n ≤ 1000) : Builtin.Range.small ((n : Int) - 1) (-1) (-1) = true := by
  cases n with
  | zero => decide +kernel
  | succ k =>
    have b := fits_long (x := k + 1) (Nat.le_trans h (by decide))
    have a := fits_long (x := k) (Nat.le_trans (Nat.le_of_succ_le h) (by decide))
    rw [Builtin.Range.small, range_down, b, show ((k + 1 : Nat) : Int) - 1 = (k : Int) from Int.add_sub_cancel (k : Int) 1, a, if_neg (by decide), show Builtin.Range.rangeFitsLong (-1) = true by decide +kernel, show Builtin.Range.rangeFitsLong (-1 + (-1 + 1)) = true by decide +kernel]
    rfl
theorem ar_neg {n : Nat} {c : Int} (hc : c ≤ 0) : c ≤ (n : Int) := Int.le_trans hc (Int.natCast_nonneg n)
theorem ar_nlt {n : Nat} {c : Int} (hc : c < 0) : c < (n : Int) := Int.lt_of_lt_of_le hc (Int.natCast_nonneg n)
theorem ar_le {n k : Nat} {c : Int} (h : n ≤ k) (hc : (k : Int) ≤ c) : (n : Int) ≤ c := Int.le_trans (Int.ofNat_le.mpr h) hc
theorem ar_lt {n k : Nat} {c : Int} (h : n < k) (hc : (k : Int) ≤ c) : (n : Int) < c := Int.lt_of_lt_of_le (Int.ofNat_lt.mpr h) hc
theorem ar_ltl {n k : Nat} {c : Int} (h : n ≤ k) (hc : (k : Int) < c) : (n : Int) < c := Int.lt_of_le_of_lt (Int.ofNat_le.mpr h) hc
theorem ar_abs {r k : Int} {n : Nat} (h0 : 0 ≤ r) (h : r < k) (hc : k ≤ (n : Int)) : r.natAbs < n := Int.ofNat_lt.mp (by rw [Int.natAbs_of_nonneg h0]; exact Int.lt_of_lt_of_le h hc)
theorem pack_eq (bl : List Bool) : byteArr ((List.range ((padded bl).length / 8)).map fun j => ((bval (((padded bl).drop (8 * j)).take 8) : Nat) : Int)) = pack bl := by
  unfold byteArr pack octsN
  rw [List.map_map]
  rfl
theorem ints_snoc {y : Int} {t : Tok} {vs : List Value} {ys : List Int} (h : IntsAre vs ys) : IntsAre (vs ++ [.int y t]) (ys ++ [y]) := by
  induction h with
  | nil => exact .cons y t .nil
  | cons a b h ih => exact .cons a b ih
noncomputable def rbit (ol : List UInt8) (i : Nat) : Nat := (ol.getD (i / 8) 0).toNat / 2 ^ (7 - i % 8) % 2
theorem shr3 (i : Nat) : ((i : Int).fdiv (2 ^ (3 : Int).toNat)) = ((i / 8 : Nat) : Int) := by
  rw [show ((2 : Int) ^ (3 : Int).toNat) = 8 from rfl, Int.fdiv_eq_ediv_of_nonneg _ (by decide)]; rfl
theorem and7 (i : Nat) : Builtin.bitAnd (i : Int) 7 = ((i % 8 : Nat) : Int) := by rw [bitAnd_m3]; rfl
theorem item_at {prog : Program} {w : World} {A : Around} {E : Value → Shared → Prop} {s : Shared} {t ui : Tok} {value slice : Expr} {Q : Value → Shared → Prop} {ol : List UInt8} {i : Nat} (hi : i < 8 * ol.length) (hol : ol.length ≤ 1000)
    (h : Q (.int (ol.getD (i / 8) 0).toNat s.toks) { s with toks := s.toks + 1 })
    (hs : subscripted slice false (.bytes ol.toArray t) (.int ((i : Int).fdiv (2 ^ (3 : Int).toNat)) ui) = operate [.bytes ol.toArray t, .int ((i : Int).fdiv (2 ^ (3 : Int).toNat)) ui] (getItem (.bytes ol.toArray t) (.int ((i : Int).fdiv (2 ^ (3 : Int).toNat)) ui)) := by with_unfolding_all rfl)
    (ht : ∀ r, letTemporaryGo value (.bytes ol.toArray t) r = pure () := by intro _; with_unfolding_all rfl) :
    wpAny (model prog w) A (subscriptTail value slice (.bytes ol.toArray t) (.int ((i : Int).fdiv (2 ^ (3 : Int).toNat)) ui)) Q E s := by
  refine KBy.item_N (Nat.le_trans hol (by decide)) (by rw [shr3]; exact Int.natCast_nonneg _) (by rw [shr3]; exact Int.ofNat_lt.mpr (Nat.div_lt_of_lt_mul hi)) ?_ hs ht
  rw [shr3]; exact h
theorem rbit_eq (ol : List UInt8) (i : Nat) : Builtin.bitAnd ((((ol.getD (i / 8) 0).toNat : Nat) : Int).fdiv (2 ^ (7 - Builtin.bitAnd (i : Int) 7).toNat)) 1 = (rbit ol i : Nat) := by
  rw [and7, bitAnd_m1, Int.fdiv_eq_ediv_of_nonneg _ (Int.pow_nonneg (by decide)), show ((7 : Int) - ((i % 8 : Nat) : Int)).toNat = 7 - i % 8 from Int.toNat_sub 7 _]
  unfold rbit
  push_cast; rfl
/-! C14 -/
/-! two maps that part at some names alone -/
noncomputable def OffM (ns : List Str) (m m0 : Str → Option Value) : Prop := ∀ y, y ∉ ns → m y = m0 y
theorem offM_refl {ns : List Str} {m : Str → Option Value} : OffM ns m m := fun _ _ => rfl
theorem offM_set {ns : List Str} {m m0 : Str → Option Value} {a : Str} {v : Option Value} (ha : a ∈ ns) (h : OffM ns m m0) : OffM ns (fun y => if y = a then v else m y) m0 := fun y hy => by
  show (if y = a then v else m y) = m0 y
  rw [if_neg fun e : y = a => hy (e ▸ ha)]; exact h y hy
theorem canon_step {a : Str} {ns : List Str} {m m0 : Str → Option Value} (h : OffM (a :: ns) m m0) : OffM ns m (fun y => if y = a then m a else m0 y) := fun y hy => by
  show m y = if y = a then m a else m0 y
  by_cases e : y = a
  · rw [if_pos e, e]
  · rw [if_neg e]; exact h y fun q => (List.mem_cons.mp q).elim e hy
theorem canon_nil {m m0 : Str → Option Value} (h : OffM [] m m0) : m = m0 := funext fun y => h y (List.not_mem_nil)
theorem canon1 {a : Str} {m m0 : Str → Option Value} (h : OffM [a] m m0) : m = fun y => if y = a then m a else m0 y := canon_nil (canon_step h)
theorem canon2 {a b : Str} {m m0 : Str → Option Value} (h : OffM [b, a] m m0) : m = fun y => if y = a then m a else if y = b then m b else m0 y := canon_nil (canon_step (canon_step h))
theorem canon3 {a b c : Str} {m m0 : Str → Option Value} (h : OffM [c, b, a] m m0) : m = fun y => if y = a then m a else if y = b then m b else if y = c then m c else m0 y := canon_nil (canon_step (canon_step (canon_step h)))
theorem canon4 {a b c d : Str} {m m0 : Str → Option Value} (h : OffM [d, c, b, a] m m0) : m = fun y => if y = a then m a else if y = b then m b else if y = c then m c else if y = d then m d else m0 y := canon_nil (canon_step (canon_step (canon_step (canon_step h))))
theorem canon5 {a b c d e : Str} {m m0 : Str → Option Value} (h : OffM [e, d, c, b, a] m m0) : m = fun y => if y = a then m a else if y = b then m b else if y = c then m c else if y = d then m d else if y = e then m e else m0 y := canon_nil (canon_step (canon_step (canon_step (canon_step (canon_step h)))))
theorem hideQ {α : Type} {M : Model} {A : Around} {t : Sem α} {Q : α → Shared → Prop} {E : Value → Shared → Prop} {s : Shared} (h : ∀ Q' : α → Shared → Prop, (∀ f s', Q f s' → Q' f s') → wpC M A t Q' E s) : wpC M A t Q E s := h Q fun _ _ x => x
theorem hideQA {α : Type} {M : Model} {A : Around} {t : Sem α} {Q : α → Shared → Prop} {E : Value → Shared → Prop} {s : Shared} (h : ∀ Q' : α → Shared → Prop, (∀ f s', Q f s' → Q' f s') → wpAny M A t Q' E s) : wpAny M A t Q E s := h Q fun _ _ x => x
section
variable {prog : Program} {w : World} {A : Around} {E : Value → Shared → Prop} {s : Shared} {env : Env} {h₀ : Heap} {x : Str} {body : List Stmt} {Q : Flow → Shared → Prop}
theorem unrPost_mono {L : Addr} {s₁ : Shared} {I : Addr} {it : Obj} {r r' : (Str → Option Value) → List (Addr × Obj) → Prop} (hr : ∀ m n, r m n → r' m n) {f : Flow} {s₂ : Shared} (h : UnrPost h₀ L s₁ I it r Q f s₂) : UnrPost h₀ L s₁ I it r' Q f s₂ := by
  cases f with
  | ret v => exact h
  | brk => exact h
  | next => obtain ⟨h', tk, m', n', e, F, N, o, z⟩ := h; exact ⟨h', tk, m', n', e, F, N, o, hr _ _ z⟩
  | cont => obtain ⟨h', tk, m', n', e, F, N, o, z⟩ := h; exact ⟨h', tk, m', n', e, F, N, o, hr _ _ z⟩
theorem rangeRest_ind {I : Addr} {a : Int} {n : Nat} {m : Str → Option Value} {news : List (Addr × Obj)} (J : Nat → (Str → Option Value) → List (Addr × Obj) → Prop) (h0 : J 0 m news)
    (step : ∀ i m news, i < n → J i m news → ∀ t h tk, Fr h₀ env.locals h (fun y => if y = x then some (.int (a + (i : Int)) t) else m y) →
      News h₀ env.locals h ((I, itR (a + ((i + 1 : Nat) : Int)) ((n : Int) - ((i + 1 : Nat) : Int))) :: news) →
      wpAny (model prog w) A (execs body env) (UnrPost h₀ env.locals { s with heap := h, toks := tk } I (itR (a + ((i + 1 : Nat) : Int)) ((n : Int) - ((i + 1 : Nat) : Int))) (J (i + 1)) Q) E { s with heap := h, toks := tk })
    (fin : ∀ m news, J n m news → ∀ h tk, Fr h₀ env.locals h m → News h₀ env.locals h news → Q .next { s with heap := h, toks := tk }) :
    RangeRest prog w A E h₀ env x body Q s I a n n 0 m news := by
  have main : ∀ k i m news, i + k = n → J i m news → RangeRest prog w A E h₀ env x body Q s I a n k i m news := by
    intro k
    induction k with
    | zero => intro i m news e hJ; have e : i = n := e; subst e; exact .zero (fin _ _ hJ)
    | succ k ih =>
      intro i m news e hJ
      refine .succ fun t h tk F N => ?_
      exact wpAny_mono (step i m news (ind_lt e) hJ t h tk F N) (fun f s₂ z => unrPost_mono (fun m n z => ih (i + 1) m n (ind_next e) z) z) fun _ _ z => z
  exact main n 0 m news (Nat.zero_add n) h0
theorem kk_for_range {n : Nat} {px pos : Pos} {iter : Expr} {m₀ : Str → Option Value} (_F : Fr h₀ env.locals s.heap m₀) (hh : A.handled = none) (hx : env.kindOf x = some .local) (hp : (env.scope.kind == .class || (env.scope.kind == .module && env.locals != env.globals)) = false)
    (h : wpAny (model prog w) A (eval iter env) (fun xv s₁ => Stop (∃ r a b t u v m news, xv = .ref r ∧ Fr h₀ env.locals s₁.heap m ∧ News h₀ env.locals s₁.heap news ∧ IsRange s₁.heap r a b 1 t u v ∧ Builtin.Range.small a b 1 = true ∧
      Builtin.Range.rangeSize a b 1 = (n : Int) ∧ ∀ I : Addr, (∀ p ∈ news, p.1 < I) → RangeRest prog w A E h₀ env x body Q s₁ I a n n 0 m news)) E s)
    (hs : ∀ x, foldedSetIterable iter env x = pure x := by intro _; rfl)
    (hE : PassesOwn (model prog w) A env E := by passes_own) :
    wpAny (model prog w) A (exec (.For (.Name x px) iter body [] pos) env) Q E s := by
  refine For_invV h₀ hx hp (wpAny_mono h (fun xv s₁ z => ?_) fun _ _ z => z) hs hE
  obtain ⟨r, a, b, t, u, v, m, news, rfl, F, N, R, hsm, hn, rest⟩ := z.out
  exact iter_rangeUnr hh R hsm hn F N rest
end
theorem map_two {m : Str → Option Value} {a b : Str} {v : Option Value} : (fun y => if y = a then v else m y) = fun y => if y = a then v else if y = b then m b else m y := by
  funext y
  by_cases h1 : y = a
  · simp [h1]
  · by_cases h2 : y = b
    · simp [h1, h2]
    · simp [h1, h2]
theorem bval_snoc (l : List Bool) (b : Bool) : bval (l ++ [b]) = bval l * 2 + b.toNat := by
  rw [bval_append]; cases b <;> rfl
/-- the bits that a reader gives -/
noncomputable def rbits (ol : List UInt8) (i n : Nat) : List Bool := (List.range n).map fun j => decide (rbit ol (i + j) = 1)
theorem rbit_bool (ol : List UInt8) (i : Nat) : rbit ol i = (decide (rbit ol i = 1)).toNat := by
  unfold rbit
  generalize (ol.getD (i / 8) 0).toNat / 2 ^ (7 - i % 8) = y
  rcases Nat.mod_two_eq_zero_or_one y with h | h <;> rw [h] <;> rfl
theorem rbits_succ (ol : List UInt8) (i n : Nat) : bval (rbits ol i (n + 1)) = bval (rbits ol i n) * 2 + rbit ol (i + n) := by
  unfold rbits
  rw [List.range_succ, List.map_append, List.map_cons, List.map_nil, bval_snoc, ← rbit_bool]
theorem map_acc {m0 : Str → Option Value} {a b : Str} {v v' w w' : Option Value} : (fun y => if y = a then v else if y = b then w else if y = a then v' else if y = b then w' else m0 y) = fun y => if y = a then v else if y = b then w else m0 y := by
  funext y
  by_cases h1 : y = a
  · simp [h1]
  · by_cases h2 : y = b
    · simp [h2]
    · simp [h1, h2]
theorem map_acc_i {m0 : Str → Option Value} {a b : Str} {v' w w' : Option Value} {e e' : Int} {t : Tok} (he : e = e') : (fun y => if y = a then some (.int e t) else if y = b then w else if y = a then v' else if y = b then w' else m0 y) = fun y => if y = a then some (.int e' t) else if y = b then w else m0 y := by
  subst he; exact map_acc
section
variable {prog : Program} {w : World} {A : Around} {E : Value → Shared → Prop} {s : Shared} {env : Env} {h₀ : Heap} {x : Str} {body : List Stmt} {Q : Flow → Shared → Prop}
/-- a loop over a range that turns one int name and what `led` tells -/
theorem rangeRest_acc {I : Addr} {a : Int} {n : Nat} {m m0 : Str → Option Value} {news : List (Addr × Obj)} {α : Type} {z0 : α} {t0 : Tok} (acc : Str) (f : Nat → Int) (led : Nat → α → List (Addr × Obj))
    (hm : m = fun y => if y = acc then some (.int (f 0) t0) else m0 y) (hl : news = led 0 z0)
    (step : ∀ i u t z, i < n → ∀ t4 h tk, Fr h₀ env.locals h (fun y => if y = x then some (.int (a + (i : Int)) t4) else if y = acc then some (.int (f i) t) else if y = x then u else m0 y) →
      News h₀ env.locals h ((I, itR (a + ((i + 1 : Nat) : Int)) ((n : Int) - ((i + 1 : Nat) : Int))) :: led i z) →
      wpAny (model prog w) A (execs body env) (UnrPost h₀ env.locals { s with heap := h, toks := tk } I (itR (a + ((i + 1 : Nat) : Int)) ((n : Int) - ((i + 1 : Nat) : Int)))
        (fun m' nw' => Stop (∃ u t z, m' = (fun y => if y = acc then some (.int (f (i + 1)) t) else if y = x then u else m0 y) ∧ nw' = led (i + 1) z)) Q) E { s with heap := h, toks := tk })
    (fin : ∀ u t z h tk, Fr h₀ env.locals h (fun y => if y = acc then some (.int (f n) t) else if y = x then u else m0 y) → News h₀ env.locals h (led n z) → Q .next { s with heap := h, toks := tk }) :
    RangeRest prog w A E h₀ env x body Q s I a n n 0 m news := by
  refine rangeRest_ind (fun i m nw => Stop (∃ u t z, m = (fun y => if y = acc then some (.int (f i) t) else if y = x then u else m0 y) ∧ nw = led i z)) ⟨_, _, _, by rw [hm]; exact map_two, hl⟩ ?_ ?_
  · rintro i m nw hi ⟨u, t, z, rfl, rfl⟩ t4 h tk F N
    exact step i u t z hi t4 h tk F N
  · rintro m nw ⟨u, t, z, rfl, rfl⟩ h tk F N
    exact fin u t z h tk F N
end
/-! M4 -/
/-- the octets as a list -/
noncomputable def octL (bl : List Bool) : List UInt8 := (List.range ((padded bl).length / 8)).map fun i => (bval (((padded bl).drop (8 * i)).take 8)).toUInt8
theorem pack_octL (bl : List Bool) : pack bl = (octL bl).toArray := rfl
theorem octL_len (bl : List Bool) : (octL bl).length = (padded bl).length / 8 := by rw [octL, List.length_map, List.length_range]
theorem octL_len8 (bl : List Bool) : 8 * (octL bl).length = (padded bl).length := by
  rw [octL_len]; exact Nat.mul_div_cancel' (Nat.dvd_of_mod_eq_zero (padded_mod bl))
theorem bval_bit : ∀ (l : List Bool) (k : Nat) (b : Bool), l[k]? = some b → bval l / 2 ^ (l.length - 1 - k) % 2 = b.toNat
  | [], k, b, h => by cases h
  | c :: r, 0, b, h => by
    obtain rfl : c = b := Option.some.inj h
    have h1 := bval_lt r
    rw [bval_cons, List.length_cons, Nat.add_sub_cancel, Nat.sub_zero, Nat.add_comm, Nat.add_mul_div_right _ _ (Nat.two_pow_pos _), Nat.div_eq_of_lt h1, Nat.zero_add]
    cases c <;> rfl
  | c :: r, k + 1, b, h => by
    have h : r[k]? = some b := h
    have hk : k < r.length := (List.getElem?_eq_some_iff.mp h).1
    have ih := bval_bit r k b h
    have e : r.length = (r.length - 1 - k) + (k + 1) := by rw [Nat.sub_sub, Nat.add_comm 1 k, Nat.sub_add_cancel hk]
    rw [bval_cons, List.length_cons, Nat.add_sub_cancel, Nat.add_comm k 1, ← Nat.sub_sub]
    have e2 : c.toNat * 2 ^ r.length = (c.toNat * 2 ^ (k + 1)) * 2 ^ (r.length - 1 - k) := by
      conv => lhs; rw [e]
      rw [Nat.pow_add, Nat.mul_assoc, Nat.mul_comm (2 ^ (r.length - 1 - k)), ← Nat.mul_assoc]
    rw [e2, Nat.add_comm, Nat.add_mul_div_right _ _ (Nat.two_pow_pos _), Nat.pow_succ, ← Nat.mul_assoc, Nat.add_mul_mod_self_right]
    exact ih
theorem rbit_pad {bl : List Bool} {i : Nat} {b : Bool} (h : (padded bl)[i]? = some b) : rbit (octL bl) i = b.toNat := by
  have hi : i < (padded bl).length := (List.getElem?_eq_some_iff.mp h).1
  have hm := padded_mod bl
  have h8 : i / 8 < (padded bl).length / 8 := Nat.div_lt_of_lt_mul (by rw [Nat.mul_div_cancel' (Nat.dvd_of_mod_eq_zero hm)]; exact hi)
  have hl : (((padded bl).drop (8 * (i / 8))).take 8).length = 8 := by
    rw [List.length_take, List.length_drop]
    refine Nat.min_eq_left (Nat.le_sub_of_add_le' ?_)
    refine Nat.le_trans (Nat.le_of_eq (Nat.mul_succ 8 (i / 8)).symm) ?_
    exact Nat.le_trans (Nat.mul_le_mul_left 8 h8) (Nat.mul_div_le _ 8)
  have hg : (octL bl).getD (i / 8) 0 = (bval (((padded bl).drop (8 * (i / 8))).take 8)).toUInt8 := by
    rw [octL, List.getD_eq_getElem?_getD, List.getElem?_map, List.getElem?_range h8]; rfl
  have hb := bval_lt (((padded bl).drop (8 * (i / 8))).take 8)
  rw [hl] at hb
  have hv : ((bval (((padded bl).drop (8 * (i / 8))).take 8)).toUInt8).toNat = bval (((padded bl).drop (8 * (i / 8))).take 8) := by
    show UInt8.toNat (UInt8.ofNat _) = _
    rw [UInt8.toNat_ofNat']
    exact Nat.mod_eq_of_lt hb
  have hk : (((padded bl).drop (8 * (i / 8))).take 8)[i % 8]? = some b := by
    rw [List.getElem?_take_of_lt (Nat.mod_lt _ (by decide)), List.getElem?_drop, Nat.div_add_mod]; exact h
  have := bval_bit _ _ _ hk
  rw [hl] at this
  unfold rbit
  rw [hg, hv]
  exact this
theorem rbit_at {bl : List Bool} {i : Nat} {b : Bool} (h : bl[i]? = some b) : rbit (octL bl) i = b.toNat := by
  refine rbit_pad ?_
  unfold padded
  rw [List.getElem?_append_left (List.getElem?_eq_some_iff.mp h).1]
  exact h
theorem half_up (q p : Int) : q / 2 * (p * 2) + (if q % 2 = 1 then p else 0) = q * p := by
  have e := Int.mul_ediv_add_emod q 2
  have f : q / 2 * (p * 2) = 2 * (q / 2) * p := by rw [Int.mul_comm p, ← Int.mul_assoc, Int.mul_comm (q / 2)]
  rw [f]
  rcases Int.emod_two_eq q with h | h
  · rw [h, Int.add_zero] at e
    rw [e, if_neg (by rw [h]; decide), Int.add_zero]
  · rw [h] at e
    rw [if_pos h, ← congrArg (· * p) e, Int.add_mul, Int.one_mul]
/-- what a bit more tells -/
theorem known_more (n : Nat) (hn : n < 5) (w : Int) : w.fdiv (2 ^ (n + 1)) * 2 ^ (n + 1) + (if (w.fdiv (2 ^ n)).fmod 2 = 1 then 2 ^ n else 0) = w.fdiv (2 ^ n) * 2 ^ n := by
  have h0 : ∀ k : Nat, (0 : Int) ≤ 2 ^ k := fun k => Int.pow_nonneg (by decide)
  rw [Int.fdiv_eq_ediv_of_nonneg _ (h0 _), Int.fdiv_eq_ediv_of_nonneg _ (h0 _), Int.fmod_eq_emod_of_nonneg _ (by decide), Int.pow_succ, ← Int.ediv_ediv_of_nonneg (h0 n)]
  exact half_up _ _
theorem or_fin : ∀ n : Fin 5, ∀ x : Fin 200, Builtin.bitOr ((((x.val : Nat) : Int) - 100).fdiv (2 ^ (n.val + 1)) * 2 ^ (n.val + 1)) (2 ^ n.val) = (((x.val : Nat) : Int) - 100).fdiv (2 ^ (n.val + 1)) * 2 ^ (n.val + 1) + 2 ^ n.val := by decide +kernel
theorem or_known {n : Nat} (hn : n < 5) {w : Int} (h1 : -100 ≤ w) (h2 : w < 100) : Builtin.bitOr (w.fdiv (2 ^ (n + 1)) * 2 ^ (n + 1)) (2 ^ n) = w.fdiv (2 ^ (n + 1)) * 2 ^ (n + 1) + 2 ^ n := by
  have h0 : 0 ≤ w + 100 := Int.add_le_add_right h1 100
  have := or_fin ⟨n, hn⟩ ⟨(w + 100).toNat, (Int.toNat_lt h0).mpr (Int.add_lt_add_right h2 100)⟩
  rw [Int.toNat_of_nonneg h0, Int.add_sub_cancel] at this
  exact this
/-! G0 -/
theorem news_sub {h₀ h : Heap} {L : Addr} {big l : List (Addr × Obj)} (N : News h₀ L h big) (H : ∀ p ∈ l, p ∈ big) : News h₀ L h l := fun p hp => N p (H p hp)
theorem news_dup {h₀ h : Heap} {L : Addr} {big : List (Addr × Obj)} {a : Addr} {o o' : Obj} (N : News h₀ L h big) (hm : (a, o) ∈ big) (e : o = o') : News h₀ L h ((a, o') :: big) := fun p hp => by
  rcases List.mem_cons.mp hp with q | q
  · rw [q, ← e]; exact N _ hm
  · exact N p q
noncomputable abbrev tupObj (vs : List Value) : Obj := { cls := .type "tuple", data := .seq vs.toArray }
/-! the table -/
theorem nat_lo (i : Nat) : -2 ^ 63 ≤ (i : Int) := Int.le_trans (by decide) (Int.natCast_nonneg i)
theorem nat_hi {i n : Nat} (h : i < n) (hn : n ≤ 1000) : (i : Int) < 2 ^ 63 := Int.lt_trans (Int.ofNat_lt.mpr (Nat.lt_of_lt_of_le h hn)) (by decide)
theorem item_list {prog : Program} {w : World} {A : Around} {E : Value → Shared → Prop} {s : Shared} {value slice : Expr} {a : Addr} {vs : List Value} {n : Nat} {k : Int} {ui : Tok} {i : Nat} {x : Value} {Q : Value → Shared → Prop}
    (e : s.heap.get? a = some (listOf vs.toArray n)) (hk : k = (i : Int)) (hi : vs[i]? = some x) (hz : vs.length ≤ 1000) (h : Q x s)
    (hs : subscripted slice false (.ref a) (.int k ui) = operate [.ref a, .int k ui] (getItem (.ref a) (.int k ui)) := by with_unfolding_all rfl) (hg : ∀ r, letTemporaryGo value (.ref a) r = pure () := by intro _; with_unfolding_all rfl) :
    wpAny (model prog w) A (subscriptTail value slice (.ref a) (.int k ui)) Q E s := by
  subst hk
  have hl : i < vs.length := (List.getElem?_eq_some_iff.mp hi).1
  have hL : s.heap.IsList a vs.toArray := ⟨_, e, rfl, n, rfl⟩
  exact tail_any hL.typeIs slot_list_getitem.lookup (wpAny_getItem_list hL (Int.natCast_nonneg i) (nat_hi hl hz) (by simpa using hi) h) hs
section
variable {prog : Program} {w : World} {A : Around} {K : Frag} {C x : Addr} {s : Shared} {h₀ : Heap} {L : Addr} {m : Str → Option Value} {news : List (Addr × Obj)} {R : Result → Shared → Prop}
/-- an object of a class is made: what stood stands -/
theorem make_KK {rest : List Value} {fI : Addr} (F : Fr h₀ L s.heap m) (N : News h₀ L s.heap news) (X : K.In s.heap) (hm : makesIn K C = true)
    (hi : findIn K (.ref C) "__init__" = some (some (.ref fI))) (hf : typeIn K (.ref fI) = some (.type "function"))
    (h : ∀ x dx h', Fr h₀ L h' m → News h₀ L h' ((x, instObj C dx) :: (dx, emptyDict) :: news) → (∀ p ∈ news, p.1 < dx) → dx < x → Kept [] s.heap h' → s.heap.objs.size ≤ dx →
      codeAny (model prog w) (A.under (.builtin "type.__call__" ⟨.ref C :: rest, []⟩)) (.call (.ref fI) ⟨.ref x :: rest, []⟩) (InitBack x R) { s with heap := h' }) :
    codeAny (model prog w) A (.call (.ref C) ⟨rest, []⟩) R s := by
  obtain ⟨hh, g, d, t, os⟩ := s
  have N2 : News h₀ L ((hh.push emptyDict).push (instObj C hh.objs.size)) ((hh.objs.size + 1, instObj C hh.objs.size) :: (hh.objs.size, emptyDict) :: news) := by
    have z := (N.push F emptyDict).push (F.push _) (instObj C hh.objs.size)
    rwa [Heap.size_push] at z
  exact make_core (makes_of X hm) (looks_findIn X hi) (fun self => bind_fn X self hf) (.inl rfl)
    (h _ hh.objs.size _ ((F.push _).push _) N2 (fun p hp => Heap.lt_size (N p hp).1) (Nat.lt_succ_self _) (fun b o e _ => Heap.get?_push_of_some _ (Heap.get?_push_of_some _ e)) (Nat.le_refl _))
end
section
variable {M : Model} {A : Around} {E : Value → Shared → Prop} {s : Shared} {env : Env}
theorem kk_if {test body orelse pos} {Q : Flow → Shared → Prop}
    (h : wpAny M A (isTrue test env (eval test env)) (fun b s₂ => Stop ((b = true → wpAny M A (execs body env) Q E s₂) ∧ (b = false → wpAny M A (execs orelse env) Q E s₂))) E s) : wpAny M A (exec (.If test body orelse pos) env) Q E s := by
  refine wpAny_If (wpAny_mono h (fun b s' h' => ?_) fun _ _ z => z)
  cases b
  · exact h'.out.2 rfl
  · exact h'.out.1 rfl
end
theorem off_new {h₀ h : Heap} {L : Addr} {news : List (Addr × Obj)} {as : List Addr} (N : News h₀ L h news) (hf : ∀ a ∈ as, h.objs.size ≤ a) : ∀ p ∈ news, ∀ a ∈ as, @Ne Nat p.1 a :=
  fun p hp a ha => Nat.ne_of_lt (Nat.lt_of_lt_of_le (Heap.lt_size (N p hp).1) (hf a ha))
/-- a function by its first values -/
noncomputable def lst (l : List Nat) (i : Nat) : Nat := l.getD i 0
/-- c below n, the list behind -/
noncomputable def ext (c : Nat → Nat) (n : Nat) (l : List Nat) (i : Nat) : Nat := if i < n then c i else l.getD (i - n) 0
noncomputable def bwE (w : World) (c : Nat → Nat) (r z : Int) (t1 t2 : Tok) : List DictEntry := [⟨PyData.keyHash w.params (Str.ofString "full"), .str (Str.ofString "full") (c 3), .ref (c 2)⟩, ⟨PyData.keyHash w.params (Str.ofString "rest"), .str (Str.ofString "rest") (c 4), .int r t1⟩, ⟨PyData.keyHash w.params (Str.ofString "size"), .str (Str.ofString "size") (c 5), .int z t2⟩]
noncomputable def sinkE (w : World) (c : Nat → Nat) : List DictEntry := [⟨PyData.keyHash w.params (Str.ofString "tables"), .str (Str.ofString "tables") (c 9), .ref (c 8)⟩, ⟨PyData.keyHash w.params (Str.ofString "writer"), .str (Str.ofString "writer") (c 10), .ref (c 0)⟩]
noncomputable def readE (w : World) (b : Nat → Nat) (ol : List UInt8) (i : Int) (t : Tok) : List DictEntry := [⟨PyData.keyHash w.params (Str.ofString "source"), .str (Str.ofString "source") (b 2), .bytes ol.toArray (b 4)⟩, ⟨PyData.keyHash w.params (Str.ofString "at"), .str (Str.ofString "at") (b 3), .int i t⟩]
noncomputable def tabE (w : World) (e : Nat → Nat) : List DictEntry := [⟨PyData.keyHash w.params (Str.ofString "counts"), .str (Str.ofString "counts") (e 6), .ref (e 5)⟩, ⟨PyData.keyHash w.params (Str.ofString "symbols"), .str (Str.ofString "symbols") (e 7), .ref (e 4)⟩, ⟨PyData.keyHash w.params (Str.ofString "rows"), .str (Str.ofString "rows") (e 8), .ref (e 3)⟩, ⟨PyData.keyHash w.params (Str.ofString "codes"), .str (Str.ofString "codes") (e 9), .ref (e 2)⟩]
noncomputable def scanE (w : World) (c : Nat → Nat) (x : Nat → Value) (st en lo : Int) : List DictEntry := [⟨PyData.keyHash w.params (Str.ofString "places"), .str (Str.ofString "places") (c 23), x 0⟩, ⟨PyData.keyHash w.params (Str.ofString "dc_slots"), .str (Str.ofString "dc_slots") (c 24), x 1⟩, ⟨PyData.keyHash w.params (Str.ofString "ac_slots"), .str (Str.ofString "ac_slots") (c 25), x 2⟩, ⟨PyData.keyHash w.params (Str.ofString "start"), .str (Str.ofString "start") (c 26), .int st (c 30)⟩, ⟨PyData.keyHash w.params (Str.ofString "end"), .str (Str.ofString "end") (c 27), .int en (c 31)⟩, ⟨PyData.keyHash w.params (Str.ofString "high"), .str (Str.ofString "high") (c 28), x 3⟩, ⟨PyData.keyHash w.params (Str.ofString "low"), .str (Str.ofString "low") (c 29), .int lo (c 32)⟩]
noncomputable def dcwE (w : World) (c : Nat → Nat) : List DictEntry := [⟨PyData.keyHash w.params (Str.ofString "scan"), .str (Str.ofString "scan") (c 15), .ref (c 21)⟩, ⟨PyData.keyHash w.params (Str.ofString "sink"), .str (Str.ofString "sink") (c 16), .ref (c 6)⟩]
noncomputable def acwE (w : World) (c : Nat → Nat) (run : Int) (tr : Tok) : List DictEntry := [⟨PyData.keyHash w.params (Str.ofString "scan"), .str (Str.ofString "scan") (c 15), .ref (c 21)⟩, ⟨PyData.keyHash w.params (Str.ofString "sink"), .str (Str.ofString "sink") (c 16), .ref (c 6)⟩, ⟨PyData.keyHash w.params (Str.ofString "key"), .str (Str.ofString "key") (c 17), .ref (c 14)⟩, ⟨PyData.keyHash w.params (Str.ofString "run"), .str (Str.ofString "run") (c 18), .int run tr⟩]
noncomputable def acrE (w : World) (d : Nat → Nat) (sc tb : Addr) (rv : Value) (run : Int) (tr : Tok) : List DictEntry := [⟨PyData.keyHash w.params (Str.ofString "scan"), .str (Str.ofString "scan") (d 2), .ref sc⟩, ⟨PyData.keyHash w.params (Str.ofString "table"), .str (Str.ofString "table") (d 3), .ref tb⟩, ⟨PyData.keyHash w.params (Str.ofString "reader"), .str (Str.ofString "reader") (d 4), rv⟩, ⟨PyData.keyHash w.params (Str.ofString "run"), .str (Str.ofString "run") (d 5), .int run tr⟩]
noncomputable def dcrE (w : World) (d : Nat → Nat) (sc : Addr) (rv : Value) : List DictEntry := [⟨PyData.keyHash w.params (Str.ofString "scan"), .str (Str.ofString "scan") (d 2), .ref sc⟩, ⟨PyData.keyHash w.params (Str.ofString "reader"), .str (Str.ofString "reader") (d 3), rv⟩]
/-! the ledgers of the objects that the law makes; c tells their addresses and toks -/
noncomputable def bwL (w : World) (c : Nat → Nat) (bs : Array UInt8) (r z : Int) (t1 t2 : Tok) : List (Addr × Obj) :=
  [(c 0, instObj 127 (c 1)), (c 1, dictOf (bwE w c r z t1 t2) 3), (c 2, baObj bs)]
noncomputable def bwA (c : Nat → Nat) : List Addr := [c 0, c 1, c 2]
noncomputable def sinkL (w : World) (c : Nat → Nat) (bs : Array UInt8) (r z : Int) (t1 t2 : Tok) : List (Addr × Obj) :=
  (c 6, instObj 512 (c 7)) :: (c 7, dictOf (sinkE w c) 2) :: bwL w c bs r z t1 t2
noncomputable def sinkA (c : Nat → Nat) : List Addr := c 6 :: c 7 :: bwA c
theorem news_tail {h₀ h : Heap} {L : Addr} {p : Addr × Obj} {news : List (Addr × Obj)} (N : News h₀ L h (p :: news)) : News h₀ L h news := fun q hq => N q (.tail _ hq)
/-- an object that stands beside a call's ledger -/
theorem keep_cons {h₀ h h' : Heap} {L : Addr} {p : Addr × Obj} {old new : List (Addr × Obj)} {as : List Addr} (N : News h₀ L h (p :: old)) (k : Kept as h h') (hp : p.1 ∉ as) (N' : News h₀ L h' new) : News h₀ L h' (p :: new) := fun q hq => by
  rcases List.mem_cons.mp hq with e | hq
  · rw [e]; exact ⟨k _ _ (N _ (.head _)).1 hp, (N _ (.head _)).2⟩
  · exact N' q hq
theorem nd3 {a b c : Nat} (h : [a, b, c].Nodup) : @Ne Nat a b ∧ @Ne Nat a c ∧ @Ne Nat b c := by
  simp only [List.nodup_cons, List.mem_cons, List.not_mem_nil, or_false, not_or] at h
  exact ⟨h.1.1, h.1.2, h.2.1⟩
theorem nd_mk {a b c : Nat} (h1 : @LT.lt Nat _ b a) (h2 : @LT.lt Nat _ a c) : [a, b, c].Nodup := by
  simp only [List.nodup_cons, List.mem_cons, List.not_mem_nil, or_false, not_or, List.nodup_nil, not_false_eq_true, and_true]
  exact ⟨⟨Nat.ne_of_gt h1, Nat.ne_of_lt h2⟩, Nat.ne_of_lt (Nat.lt_trans h1 h2)⟩
theorem sink_nd {c : Nat → Nat} (h : (sinkA c).Nodup) : c 6 ∉ bwA c ∧ c 7 ∉ bwA c ∧ (bwA c).Nodup ∧ @Ne Nat (c 6) (c 7) :=
  have h1 := List.nodup_cons.mp h
  have h2 := List.nodup_cons.mp h1.2
  ⟨fun q => h1.1 (.tail _ q), h2.1, h2.2, fun e => h1.1 (e ▸ .head _)⟩
theorem nd_sink {y e : Nat} {l : List Nat} (h1 : @LT.lt Nat _ e y) (hy : y ∉ l) (he : e ∉ l) (hl : l.Nodup) : (y :: e :: l).Nodup :=
  List.nodup_cons.mpr ⟨fun q => by
    rcases List.mem_cons.mp q with q | q
    · exact Nat.ne_of_gt h1 q
    · exact hy q, List.nodup_cons.mpr ⟨he, hl⟩⟩
theorem off_new1 {h₀ h : Heap} {L a : Addr} {o : Obj} {news : List (Addr × Obj)} {as : List Addr} (N : News h₀ L h news) (hf : ∀ a ∈ as, h.objs.size ≤ a) (hm : (a, o) ∈ news) : a ∉ as := fun q => off_new N hf _ hm _ q rfl
/-! G1 -/
noncomputable def manyAt (i : Nat) : Int := if i = 5 then 16 else 0
noncomputable def codeAt (i : Nat) : Int := if i ≤ 5 then 0 else 2 ^ (i - 1)
noncomputable def placeAt (i : Nat) : Int := if i ≤ 5 then 0 else 16
theorem codeAt_succ (i : Nat) : codeAt (i + 1) = (codeAt i + manyAt i) * 2 := by
  unfold codeAt manyAt
  by_cases h : i ≤ 4
  · rw [if_pos (Nat.succ_le_succ h), if_pos (Nat.le_succ_of_le h), if_neg fun e => absurd (e ▸ h) (by decide)]; rfl
  · by_cases h5 : i = 5
    · subst h5; rfl
    · rw [if_neg fun e => h (Nat.le_of_succ_le_succ e), if_neg fun e => h (Nat.le_of_lt_succ (Nat.lt_of_le_of_ne e h5)), if_neg h5, Int.add_zero, show i + 1 - 1 = (i - 1) + 1 from (Nat.sub_add_cancel (Nat.le_trans (by decide) (Nat.lt_of_not_le h))).symm, Int.pow_succ]
theorem placeAt_succ (i : Nat) : placeAt (i + 1) = placeAt i + manyAt i := by
  unfold placeAt manyAt
  by_cases h : i ≤ 4
  · rw [if_pos (Nat.succ_le_succ h), if_pos (Nat.le_succ_of_le h), if_neg fun e => absurd (e ▸ h) (by decide)]; rfl
  · by_cases h5 : i = 5
    · subst h5; rfl
    · rw [if_neg fun e => h (Nat.le_of_succ_le_succ e), if_neg fun e => h (Nat.le_of_lt_succ (Nat.lt_of_le_of_ne e h5)), if_neg h5]; rfl
/-- a row's tuple -/
noncomputable abbrev rowObj (i : Nat) (t : Tok × Tok × Tok) : Obj := tupObj [.int (codeAt i) t.1, .int (manyAt i) t.2.1, .int (placeAt i) t.2.2]
noncomputable def rowsFrom : Nat → List (Addr × Tok × Tok × Tok) → List (Addr × Obj)
  | _, [] => []
  | k, r :: rs => (r.1, rowObj k r.2) :: rowsFrom (k + 1) rs
theorem rowsFrom_snoc (r : Addr × Tok × Tok × Tok) : ∀ (rs : List (Addr × Tok × Tok × Tok)) (k : Nat), rowsFrom k (rs ++ [r]) = rowsFrom k rs ++ [(r.1, rowObj (k + rs.length) r.2)]
  | [], k => rfl
  | q :: rs, k => by
    show _ :: rowsFrom (k + 1) (rs ++ [r]) = _
    rw [rowsFrom_snoc r rs (k + 1)]
    show _ = _ :: (rowsFrom (k + 1) rs ++ [(r.1, rowObj (k + (rs.length + 1)) r.2)])
    rw [show k + 1 + rs.length = k + (rs.length + 1) from Nat.succ_add_eq_add_succ _ _]
noncomputable abbrev rowRefs (rs : List (Addr × Tok × Tok × Tok)) : List Value := rs.map fun r => .ref r.1
noncomputable abbrev cntL (u : Nat → Tok) : List Value := [.int 0 (u 0), .int 0 (u 1), .int 0 (u 2), .int 0 (u 3), .int 0 (u 4), .int 16 (u 5), .int 0 (u 6), .int 0 (u 7), .int 0 (u 8), .int 0 (u 9), .int 0 (u 10), .int 0 (u 11), .int 0 (u 12), .int 0 (u 13), .int 0 (u 14), .int 0 (u 15)]
inductive rowsJI (u : Nat → Tok) (a l : Addr) (m0 : Str → Option Value) (i : Nat) (m : Str → Option Value) (nw : List (Addr × Obj)) : Prop
  | mk : ∀ us um tc tp rs n, (m = (fun y => if y = PySem.Str.ofString "code" then some (.int (codeAt i) tc) else if y = PySem.Str.ofString "place" then some (.int (placeAt i) tp) else if y = PySem.Str.ofString "size" then us else if y = PySem.Str.ofString "many" then um else m0 y)) → (rs.length = i) → (nw = (l, listOf (rowRefs rs).toArray n) :: (a, tupObj (cntL u)) :: rowsFrom 0 rs) → ((∀ p ∈ rowsFrom 0 rs, p.1 ≠ l)) → rowsJI u a l m0 i m nw
noncomputable def rowsJ (u : Nat → Tok) (a l : Addr) (m0 : Str → Option Value) (i : Nat) (m : Str → Option Value) (nw : List (Addr × Obj)) : Prop := Stop (rowsJI u a l m0 i m nw)
theorem map_rows0 {m0 : Str → Option Value} {c p : Option Value} : (fun y => if y = Str.ofString "place" then p else if y = Str.ofString "code" then c else m0 y) = (fun y => if y = PySem.Str.ofString "code" then c else if y = PySem.Str.ofString "place" then p else if y = PySem.Str.ofString "size" then m0 (Str.ofString "size") else if y = PySem.Str.ofString "many" then m0 (Str.ofString "many") else m0 y) := by refine canon4 ?_; repeat (first | exact offM_refl | refine offM_set (by decide) ?_)
theorem map_rows1 {m0 : Str → Option Value} {c1 c2 p2 us us2 um um2 : Option Value} {v v' : Int} {t : Tok} (hv : v = v') {w w' : Int} {t' : Tok} (hw : w = w') : (fun y => if y = Str.ofString "code" then some (.int v t) else if y = Str.ofString "place" then some (.int w t') else if y = Str.ofString "code" then c1 else if y = Str.ofString "many" then um else if y = Str.ofString "size" then us else if y = Str.ofString "code" then c2 else if y = Str.ofString "place" then p2 else if y = Str.ofString "size" then us2 else if y = Str.ofString "many" then um2 else m0 y) = (fun y => if y = PySem.Str.ofString "code" then some (.int v' t) else if y = PySem.Str.ofString "place" then some (.int w' t') else if y = PySem.Str.ofString "size" then us else if y = PySem.Str.ofString "many" then um else m0 y) := by
  subst hv hw
  refine canon4 ?_
  repeat (first | exact offM_refl | refine offM_set (by decide) ?_)
theorem cnt_getD0 : ∀ i : Nat, i < 16 → ([0, 0, 0, 0, 0, 16, 0, 0, 0, 0, 0, 0, 0, 0, 0, 0] : List Int).getD i 0 = manyAt i := by decide
theorem cnt_getD {i : Nat} (h : i < 16) : ([0, 0, 0, 0, 0, 16, 0, 0, 0, 0, 0, 0, 0, 0, 0, 0] : List Int).getD (1 + (i : Int) - 1).toNat 0 = manyAt i := by
  have e : ((1 : Int) + (i : Int) - 1).toNat = i := by rw [Int.add_comm, Int.add_sub_cancel, Int.toNat_natCast]
  exact (congrArg (fun k => ([0, 0, 0, 0, 0, 16, 0, 0, 0, 0, 0, 0, 0, 0, 0, 0] : List Int).getD k 0) e).trans (cnt_getD0 i h)
theorem all_ne {d : Addr} {l : List (Addr × Obj)} (h : AllLt d l) : ∀ p ∈ l, p.1 ≠ d := by
  induction l with
  | nil => intro p hp; cases hp
  | cons q r ih =>
    intro p hp
    have h1 : @LT.lt Nat _ q.1 d ∧ AllLt d r := h
    rcases List.mem_cons.mp hp with e | hp
    · rw [e]; exact Nat.ne_of_lt h1.1
    · exact ih h1.2 p hp

theorem off_of {h₀ h : Heap} {L I : Addr} {it : Obj} {news l : List (Addr × Obj)} (N : News h₀ L h news) (hI : (I, it) ∈ news) (hl : ∀ p ∈ l, p ∈ news ∧ p.2.cls ≠ it.cls) : ∀ p ∈ l, p.1 ≠ I := fun p hp e => by
  have h1 := (N _ (hl p hp).1).1
  have h2 := (N _ hI).1
  rw [e] at h1
  exact (hl p hp).2 (congrArg Obj.cls (Option.some.inj (h1.symm.trans h2)))
theorem rowsFrom_cls : ∀ (rs : List (Addr × Tok × Tok × Tok)) (k : Nat), ∀ p ∈ rowsFrom k rs, p.2.cls = .type "tuple"
  | [], _, _, h => nomatch h
  | r :: rs, k, p, h => by
    rcases List.mem_cons.mp h with e | h
    · rw [e]
    · exact rowsFrom_cls rs (k + 1) p h
theorem rows_end {g h' : Heap} {L I l a D : Addr} {x y : Int} {rs : List (Addr × Tok × Tok × Tok)} {u : Nat → Tok} {t1 t2 t3 : Tok} {i n tk : Nat} {s₁ : Shared} {m m0 : Str → Option Value} (hrs : rs.length = i) (hoff : ∀ p ∈ rowsFrom 0 rs, p.1 ≠ l) (hDl : @Ne Nat D l)
    (F : Fr g L h' m) (N : News g L h' ((D, rowObj i (t1, t2, t3)) :: (I, itR x y) :: (l, listOf ((rowRefs rs).toArray.push (.ref D)) n) :: (a, tupObj (cntL u)) :: rowsFrom 0 rs))
    (hm : ∃ us um tc tp, m = (fun y => if y = PySem.Str.ofString "code" then some (.int (codeAt (i + 1)) tc) else if y = PySem.Str.ofString "place" then some (.int (placeAt (i + 1)) tp) else if y = PySem.Str.ofString "size" then us else if y = PySem.Str.ofString "many" then um else m0 y)) : UnrEnd g L s₁ I (itR x y) (rowsJ u a l m0 (i + 1)) { s₁ with heap := h', toks := tk } := by
  refine hideG fun G9 hG9 => ?_
  obtain ⟨us, um, tc, tp, hm⟩ := hm
  refine hG9 ?_
  clear hG9 G9
  have sub : ∀ p ∈ (l, listOf (rowRefs (rs ++ [(D, t1, t2, t3)])).toArray n) :: (a, tupObj (cntL u)) :: rowsFrom 0 (rs ++ [(D, t1, t2, t3)]), p ∈ (D, rowObj i (t1, t2, t3)) :: (I, itR x y) :: (l, listOf ((rowRefs rs).toArray.push (.ref D)) n) :: (a, tupObj (cntL u)) :: rowsFrom 0 rs := by
    have e : (rowRefs (rs ++ [(D, t1, t2, t3)])).toArray = (rowRefs rs).toArray.push (.ref D) := by simp
    rw [e, rowsFrom_snoc, Nat.zero_add, hrs]
    intro p hp
    rcases List.mem_cons.mp hp with hp | hp
    · rw [hp]; exact .tail _ (.tail _ (.head _))
    rcases List.mem_cons.mp hp with hp | hp
    · rw [hp]; exact .tail _ (.tail _ (.tail _ (.head _)))
    rcases List.mem_append.mp hp with hp | hp
    · exact .tail _ (.tail _ (.tail _ (.tail _ hp)))
    · rw [List.mem_singleton.mp hp]; exact .head _
  refine UnrEnd.intro F N ((l, listOf (rowRefs (rs ++ [(D, t1, t2, t3)])).toArray n) :: (a, tupObj (cntL u)) :: rowsFrom 0 (rs ++ [(D, t1, t2, t3)])) ?_ ?_ ?_
  · intro p hp
    rcases List.mem_cons.mp hp with hp | hp
    · rw [hp]; exact .tail _ (.head _)
    · exact sub p hp
  · refine off_of N (.tail _ (.head _)) fun p hp => ⟨sub p hp, ?_⟩
    rcases List.mem_cons.mp hp with hp | hp
    · rw [hp]; simp [itR]
    rcases List.mem_cons.mp hp with hp | hp
    · rw [hp]; simp [itR]
    · rw [rowsFrom_cls _ _ p hp]; simp [itR]
  · refine ⟨us, um, tc, tp, _, _, hm, by simp [hrs], rfl, fun p hp => ?_⟩
    rw [rowsFrom_snoc, Nat.zero_add, hrs] at hp
    rcases List.mem_append.mp hp with hp | hp
    · exact hoff p hp
    · rw [List.mem_singleton.mp hp]; exact hDl

theorem keep_tail {h₀ h h' : Heap} {L : Addr} {x : Addr × Obj} {tl big : List (Addr × Obj)} (N : News h₀ L h big) (k : Kept [] h h') (N' : News h₀ L h' (x :: tl)) : News h₀ L h' (x :: (big ++ tl)) := fun p hp => by
  rcases List.mem_cons.mp hp with e | hp
  · rw [e]; exact N' _ (.head _)
  rcases List.mem_append.mp hp with q | q
  · exact keep_all N k p q
  · exact N' p (.tail _ q)
noncomputable abbrev symL (t : Nat → Tok) : List Value := [.int 0 (t 0), .int 16 (t 1), .int 32 (t 2), .int 48 (t 3), .int 64 (t 4), .int 80 (t 5), .int 96 (t 6), .int 1 (t 7), .int 2 (t 8), .int 3 (t 9), .int 17 (t 10), .int 18 (t 11), .int 19 (t 12), .int 33 (t 13), .int 34 (t 14), .int 35 (t 15)]
noncomputable def symAt (i : Nat) : Int := ([0, 16, 32, 48, 64, 80, 96, 1, 2, 3, 17, 18, 19, 33, 34, 35] : List Int).getD i 0

noncomputable def pairsFrom : Nat → List (Addr × Tok × Tok) → List (Int × Value)
  | _, [] => []
  | k, c :: cs => (symAt k, .ref c.1) :: pairsFrom (k + 1) cs
noncomputable abbrev codeObj (k : Nat) (t : Tok × Tok) : Obj := tupObj [.int (k : Int) t.1, .int 6 t.2]
noncomputable def codesFrom : Nat → List (Addr × Tok × Tok) → List (Addr × Obj)
  | _, [] => []
  | k, c :: cs => (c.1, codeObj k c.2) :: codesFrom (k + 1) cs
theorem pairsFrom_snoc (c : Addr × Tok × Tok) : ∀ (cs : List (Addr × Tok × Tok)) (k : Nat), pairsFrom k (cs ++ [c]) = pairsFrom k cs ++ [(symAt (k + cs.length), .ref c.1)]
  | [], k => rfl
  | q :: cs, k => by
    show _ :: pairsFrom (k + 1) (cs ++ [c]) = _
    rw [pairsFrom_snoc c cs (k + 1)]
    show _ = _ :: (pairsFrom (k + 1) cs ++ [(symAt (k + (cs.length + 1)), .ref c.1)])
    rw [show k + 1 + cs.length = k + (cs.length + 1) from Nat.succ_add_eq_add_succ _ _]
theorem codesFrom_snoc (c : Addr × Tok × Tok) : ∀ (cs : List (Addr × Tok × Tok)) (k : Nat), codesFrom k (cs ++ [c]) = codesFrom k cs ++ [(c.1, codeObj (k + cs.length) c.2)]
  | [], k => rfl
  | q :: cs, k => by
    show _ :: codesFrom (k + 1) (cs ++ [c]) = _
    rw [codesFrom_snoc c cs (k + 1)]
    show _ = _ :: (codesFrom (k + 1) cs ++ [(c.1, codeObj (k + (cs.length + 1)) c.2)])
    rw [show k + 1 + cs.length = k + (cs.length + 1) from Nat.succ_add_eq_add_succ _ _]
theorem codesFrom_cls : ∀ (cs : List (Addr × Tok × Tok)) (k : Nat), ∀ p ∈ codesFrom k cs, p.2.cls = .type "tuple"
  | [], _, _, h => nomatch h
  | r :: cs, k, p, h => by
    rcases List.mem_cons.mp h with e | h
    · rw [e]
    · exact codesFrom_cls cs (k + 1) p h
theorem pairsFrom_key : ∀ (cs : List (Addr × Tok × Tok)) (k : Nat), ∀ p ∈ pairsFrom k cs, ∃ j, k ≤ j ∧ j < k + cs.length ∧ p.1 = symAt j
  | [], _, _, h => nomatch h
  | r :: cs, k, p, h => by
    rcases List.mem_cons.mp h with e | h
    · exact ⟨k, Nat.le_refl _, Nat.lt_add_of_pos_right (Nat.succ_pos _), by rw [e]⟩
    · obtain ⟨j, h1, h2, h3⟩ := pairsFrom_key cs (k + 1) p h
      exact ⟨j, Nat.le_of_succ_le h1, Nat.succ_add_eq_add_succ k cs.length ▸ h2, h3⟩
theorem symAt_inj : ∀ i : Nat, i < 16 → ∀ j : Nat, j < 16 → symAt i = symAt j → i = j := by decide
theorem pairs_stored {cs : List (Addr × Tok × Tok)} {a : Addr} {t : Tok × Tok} (h : cs.length < 16) : stored (pairsFrom 0 cs) (symAt cs.length) (.ref a) = pairsFrom 0 (cs ++ [(a, t)]) := by
  rw [pairsFrom_snoc, Nat.zero_add]
  unfold stored
  rw [if_neg]
  intro hc
  refine hideG fun G9 hG9 => ?_
  obtain ⟨p, hp, he⟩ := List.any_eq_true.mp hc
  refine hG9 ?_
  clear hG9 G9
  refine hideG fun G9 hG9 => ?_
  obtain ⟨j, h1, h2, h3⟩ := pairsFrom_key cs 0 p hp
  refine hG9 ?_
  clear hG9 G9
  have h2 : j < cs.length := Nat.zero_add cs.length ▸ h2
  exact Nat.ne_of_lt h2 (symAt_inj j (Nat.lt_trans h2 h) cs.length h ((h3.symm.trans (of_decide_eq_true he))))
theorem row_get {rs : List (Addr × Tok × Tok × Tok)} : ∀ {i k : Nat} {r : Addr × Tok × Tok × Tok}, rs[i]? = some r → (r.1, rowObj (k + i) r.2) ∈ rowsFrom k rs := by
  induction rs with
  | nil => intro i k r h; simp at h
  | cons q rs ih =>
    intro i k r h
    cases i with
    | zero => simp at h; subst h; exact .head _
    | succ i => exact .tail _ (by have := ih (k := k + 1) (by simpa using h); rwa [show k + 1 + i = k + (i + 1) from Nat.succ_add_eq_add_succ _ _] at this)
inductive tabJI (prog : Program) (w : World) (fx : List (Addr × Obj)) (rs : List (Addr × Tok × Tok × Tok)) (cd : Addr) (m0 : Str → Option Value) (i : Nat) (m : Str → Option Value) (nw : List (Addr × Obj)) : Prop
  | mk : ∀ us uf um up uk cs o, ((i ≤ 5 → cs = [])) → ((5 < i → cs.length = 16)) → (o.IsDictOf (intKind prog w) (pairsFrom 0 cs)) → (nw = (cd, o) :: (fx ++ (rowsFrom 0 rs ++ codesFrom 0 cs))) → (m = (fun y => if y = PySem.Str.ofString "size" then us else if y = PySem.Str.ofString "first" then uf else if y = PySem.Str.ofString "many" then um else if y = PySem.Str.ofString "place" then up else if y = PySem.Str.ofString "k" then uk else m0 y)) → tabJI prog w fx rs cd m0 i m nw
noncomputable def tabJ (prog : Program) (w : World) (fx : List (Addr × Obj)) (rs : List (Addr × Tok × Tok × Tok)) (cd : Addr) (m0 : Str → Option Value) (i : Nat) (m : Str → Option Value) (nw : List (Addr × Obj)) : Prop := Stop (tabJI prog w fx rs cd m0 i m nw)
inductive tabJ2I (prog : Program) (w : World) (fx : List (Addr × Obj)) (rs : List (Addr × Tok × Tok × Tok)) (cd : Addr) (m0 : Str → Option Value) (k : Nat) (m : Str → Option Value) (nw : List (Addr × Obj)) : Prop
  | mk : ∀ uk cs o, (cs.length = k) → (o.IsDictOf (intKind prog w) (pairsFrom 0 cs)) → (nw = (cd, o) :: (fx ++ (rowsFrom 0 rs ++ codesFrom 0 cs))) → (m = (fun y => if y = PySem.Str.ofString "k" then uk else m0 y)) → tabJ2I prog w fx rs cd m0 k m nw
noncomputable def tabJ2 (prog : Program) (w : World) (fx : List (Addr × Obj)) (rs : List (Addr × Tok × Tok × Tok)) (cd : Addr) (m0 : Str → Option Value) (k : Nat) (m : Str → Option Value) (nw : List (Addr × Obj)) : Prop := Stop (tabJ2I prog w fx rs cd m0 k m nw)
noncomputable def tabJ3 (prog : Program) (w : World) (fx : List (Addr × Obj)) (rs : List (Addr × Tok × Tok × Tok)) (cd : Addr) (m0 : Str → Option Value) (it : Addr × Obj) (k : Nat) (m : Str → Option Value) (nw : List (Addr × Obj)) : Prop :=
  tabJ2 prog w fx rs cd m0 k m (nw.drop 1) ∧ nw.head? = some it
theorem rowsCodes_cls {rs : List (Addr × Tok × Tok × Tok)} {cs : List (Addr × Tok × Tok)} : ∀ p ∈ rowsFrom 0 rs ++ codesFrom 0 cs, p.2.cls = .type "tuple" := fun p hp => by
  rcases List.mem_append.mp hp with hp | hp
  · exact rowsFrom_cls _ _ p hp
  · exact codesFrom_cls _ _ p hp

theorem map_same {m : Str → Option Value} (a : Str) {r : Str → Option Value} (h : m = r) : m = fun y => if y = a then m a else r y := by
  subst h
  funext y
  by_cases h1 : y = a
  · rw [if_pos h1, h1]
  · rw [if_neg h1]
theorem map_five {m : Str → Option Value} {a b c d e : Str} : m = fun y => if y = a then m a else if y = b then m b else if y = c then m c else if y = d then m d else if y = e then m e else m y :=
  map_same a (map_same b (map_same c (map_same d (map_same e rfl))))
theorem map_one {m : Str → Option Value} {a : Str} : m = fun y => if y = a then m a else m y := map_same a rfl

theorem offI {h₀ h : Heap} {L I : Addr} {it : Obj} {big : List (Addr × Obj)} (N : News h₀ L h ((I, it) :: big)) (H : ∀ p ∈ big, p.2.cls ≠ it.cls) : ∀ p ∈ big, p.1 ≠ I :=
  off_of N (.head _) fun p hp => ⟨.tail _ hp, H p hp⟩
theorem isDict_cls {prog : Program} {w : World} {o : Obj} {kvs : List (Int × Value)} (h : o.IsDictOf (intKind prog w) kvs) : o.cls = .type "dict" := by obtain ⟨_, _, hx, _⟩ := h; exact hx.1
theorem tab_off {prog : Program} {w : World} {g h : Heap} {L I l sy ct x dx cd b₀ a₀ : Addr} {n1 n2 : Nat} {t u : Nat → Tok} {es : List DictEntry} {rs : List (Addr × Tok × Tok × Tok)} {cs : List (Addr × Tok × Tok)} {n : Nat} {o : Obj} {a b : Int} {kvs : List (Int × Value)}
    (N : News g L h ((I, itR a b) :: (cd, o) :: (l, listOf (rowRefs rs).toArray n) :: (sy, tupObj (symL t)) :: (ct, tupObj (cntL u)) :: (x, instObj 351 dx) :: (dx, dictOf es 4) :: (b₀, listOf (symL t).toArray n2) :: (a₀, listOf (cntL u).toArray n1) :: (rowsFrom 0 rs ++ codesFrom 0 cs))) (ho : o.IsDictOf (intKind prog w) kvs) :
    ∀ p ∈ (cd, o) :: (l, listOf (rowRefs rs).toArray n) :: (sy, tupObj (symL t)) :: (ct, tupObj (cntL u)) :: (x, instObj 351 dx) :: (dx, dictOf es 4) :: (b₀, listOf (symL t).toArray n2) :: (a₀, listOf (cntL u).toArray n1) :: (rowsFrom 0 rs ++ codesFrom 0 cs), p.1 ≠ I := by
  refine offI N ?_
  refine (fm (by rw [isDict_cls ho]; simp [itR]) ?_)
  refine (fm (by simp [itR]) (fm (by simp [itR]) (fm (by simp [itR]) (fm (by simp [itR]) (fm (by simp [itR]) (fm (by simp [itR]) (fm (by simp [itR]) (fun p hp => ?_))))))))
  rw [rowsCodes_cls p hp]; simp [itR]
theorem tab_end {prog : Program} {w : World} {g h : Heap} {L I l sy ct x dx cd b₀ a₀ : Addr} {n1 n2 : Nat} {t u : Nat → Tok} {es : List DictEntry} {rs : List (Addr × Tok × Tok × Tok)} {cs : List (Addr × Tok × Tok)} {n i tk : Nat} {o : Obj} {a b : Int} {m m0 : Str → Option Value} {s₁ : Shared}
    (F : Fr g L h m) (N : News g L h ((I, itR a b) :: (cd, o) :: (l, listOf (rowRefs rs).toArray n) :: (sy, tupObj (symL t)) :: (ct, tupObj (cntL u)) :: (x, instObj 351 dx) :: (dx, dictOf es 4) :: (b₀, listOf (symL t).toArray n2) :: (a₀, listOf (cntL u).toArray n1) :: (rowsFrom 0 rs ++ codesFrom 0 cs))) (ho : o.IsDictOf (intKind prog w) (pairsFrom 0 cs)) (h5 : i ≤ 5 → cs = []) (h6 : 5 < i → cs.length = 16)
    (hm : ∃ us uf um up uk, m = (fun y => if y = PySem.Str.ofString "size" then us else if y = PySem.Str.ofString "first" then uf else if y = PySem.Str.ofString "many" then um else if y = PySem.Str.ofString "place" then up else if y = PySem.Str.ofString "k" then uk else m0 y)) : UnrEnd g L s₁ I (itR a b) (tabJ prog w [(l, listOf (rowRefs rs).toArray n), (sy, tupObj (symL t)), (ct, tupObj (cntL u)), (x, instObj 351 dx), (dx, dictOf es 4), (b₀, listOf (symL t).toArray n2), (a₀, listOf (cntL u).toArray n1)] rs cd m0 i) { s₁ with heap := h, toks := tk } := by
  refine hideG fun G9 hG9 => ?_
  obtain ⟨us, uf, um, up, uk, hm⟩ := hm
  refine hG9 ?_
  clear hG9 G9
  exact UnrEnd.intro F N _ (fun p hp => hp) (tab_off N ho) ⟨us, uf, um, up, uk, cs, o, h5, h6, ho, rfl, hm⟩
theorem tab_end2 {prog : Program} {w : World} {g h : Heap} {L I I2 l sy ct x dx cd D b₀ a₀ : Addr} {n1 n2 : Nat} {t u : Nat → Tok} {es : List DictEntry} {rs : List (Addr × Tok × Tok × Tok)} {cs : List (Addr × Tok × Tok)} {n k tk : Nat} {o : Obj} {a b a2 b2 : Int} {m m0 : Str → Option Value} {s₁ : Shared} {t1 t2 : Tok}
    (F : Fr g L h m) (N : News g L h ((D, codeObj k (t1, t2)) :: (I2, itR a2 b2) :: (I, itR a b) :: (cd, o) :: (l, listOf (rowRefs rs).toArray n) :: (sy, tupObj (symL t)) :: (ct, tupObj (cntL u)) :: (x, instObj 351 dx) :: (dx, dictOf es 4) :: (b₀, listOf (symL t).toArray n2) :: (a₀, listOf (cntL u).toArray n1) :: (rowsFrom 0 rs ++ codesFrom 0 cs))) (ho : o.IsDictOf (intKind prog w) (stored (pairsFrom 0 cs) (symAt k) (.ref D))) (hk : cs.length = k) (hk16 : k < 16) (hI : @Ne Nat I I2)
    (hm : ∃ uk, m = (fun y => if y = PySem.Str.ofString "k" then uk else m0 y)) : UnrEnd g L s₁ I2 (itR a2 b2) (tabJ3 prog w [(l, listOf (rowRefs rs).toArray n), (sy, tupObj (symL t)), (ct, tupObj (cntL u)), (x, instObj 351 dx), (dx, dictOf es 4), (b₀, listOf (symL t).toArray n2), (a₀, listOf (cntL u).toArray n1)] rs cd m0 (I, itR a b) (k + 1)) { s₁ with heap := h, toks := tk } := by
  obtain ⟨uk, hm⟩ := hm
  subst hk
  rw [pairs_stored (t := (t1, t2)) hk16] at ho
  have N2 : News g L h ((I2, itR a2 b2) :: (I, itR a b) :: (cd, o) :: (l, listOf (rowRefs rs).toArray n) :: (sy, tupObj (symL t)) :: (ct, tupObj (cntL u)) :: (x, instObj 351 dx) :: (dx, dictOf es 4) :: (b₀, listOf (symL t).toArray n2) :: (a₀, listOf (cntL u).toArray n1) :: (rowsFrom 0 rs ++ codesFrom 0 (cs ++ [(D, t1, t2)]))) := news_sub N (by
    rw [codesFrom_snoc, Nat.zero_add]
    have tl : ∀ p ∈ rowsFrom 0 rs ++ (codesFrom 0 cs ++ [(D, codeObj cs.length (t1, t2))]), p ∈ (D, codeObj cs.length (t1, t2)) :: (I2, itR a2 b2) :: (I, itR a b) :: (cd, o) :: (l, listOf (rowRefs rs).toArray n) :: (sy, tupObj (symL t)) :: (ct, tupObj (cntL u)) :: (x, instObj 351 dx) :: (dx, dictOf es 4) :: (b₀, listOf (symL t).toArray n2) :: (a₀, listOf (cntL u).toArray n1) :: (rowsFrom 0 rs ++ codesFrom 0 cs) := fun p hp => by
      rw [← List.append_assoc] at hp
      rcases List.mem_append.mp hp with hp | hp
      · exact .tail _ (.tail _ (.tail _ (.tail _ (.tail _ (.tail _ (.tail _ (.tail _ (.tail _ (.tail _ (.tail _ hp))))))))))
      · rw [List.mem_singleton.mp hp]; exact .head _
    repeat' (first | exact tl | refine (fm (by k_mem) ?_)))
  refine UnrEnd.intro F N2 _ (fun p hp => hp) ?_ ⟨⟨uk, cs ++ [(D, t1, t2)], o, by simp, ho, rfl, hm⟩, rfl⟩
  refine (fm (hI) ?_)
  exact tab_off (news_sub N2 fun p hp => by
    rcases List.mem_cons.mp hp with e | hp
    · rw [e]; exact .head _
    · exact .tail _ (.tail _ hp)) ho

theorem head_drop {α : Type} {l r : List α} {x : α} (h : l.head? = some x) (hr : l.drop 1 = r) : l = x :: r := by
  cases l with
  | nil => cases h
  | cons y t => simp at h hr; rw [h, hr]
theorem sym_getD : ∀ k : Nat, k < 16 → ([0, 16, 32, 48, 64, 80, 96, 1, 2, 3, 17, 18, 19, 33, 34, 35] : List Int).getD k 0 = symAt k := fun _ _ => rfl
theorem sym_getD' {k : Nat} (h : k < 16) : ([0, 16, 32, 48, 64, 80, 96, 1, 2, 3, 17, 18, 19, 33, 34, 35] : List Int).getD (0 + (0 + (k : Int))).toNat 0 = symAt k := by
  have e : ((0 : Int) + (0 + (k : Int))).toNat = k := by rw [Int.zero_add, Int.zero_add, Int.toNat_natCast]
  exact (congrArg (fun k => ([0, 16, 32, 48, 64, 80, 96, 1, 2, 3, 17, 18, 19, 33, 34, 35] : List Int).getD k 0) e).trans (sym_getD k h)

theorem map_dup {m0 : Str → Option Value} {a : Str} {v w : Option Value} : (fun y => if y = a then v else (fun y => if y = a then w else m0 y) y) = fun y => if y = a then v else m0 y := by
  funext y
  by_cases h1 : y = a
  · rw [if_pos h1, if_pos h1]
  · rw [if_neg h1, if_neg h1]; show (if y = a then w else m0 y) = _; rw [if_neg h1]
theorem pairs_len : ∀ (cs : List (Addr × Tok × Tok)) (k : Nat), (pairsFrom k cs).length = cs.length
  | [], _ => rfl
  | _ :: cs, k => by show (pairsFrom (k + 1) cs).length + 1 = _; rw [pairs_len cs]; rfl

/-! the table that is asked by a tuple -/
noncomputable abbrev keyObj (t : Tok × Tok) : Obj := tupObj [.int 1 t.1, .int 0 t.2]
noncomputable def TabObj (prog : Program) (w : World) (ka H : Addr) (o : Obj) : Prop := o.ExactDict ∧ ∃ es ep, o.data = .dict es ep ∧ es.toList = [(([1, 0] : List Int), ka, Value.ref H)].map (entryOfKey (tupleKind (intKind prog w)))
section
variable {prog : Program} {w : World} {A : Around} {E : Value → Shared → Prop} {s : Shared} {h₀ : Heap} {L d a ka H : Addr} {o : Obj} {news : List (Addr × Obj)}
theorem key_is {h : Heap} {a : Addr} {t : Tok × Tok} (e : h.get? a = some (keyObj t)) : (tupleKind (intKind prog w)).is h [1, 0] a :=
  ⟨_, _, _, e, rfl, rfl, .cons (intKind_is _ _ _ _) (.cons (intKind_is _ _ _ _) .nil)⟩
theorem tab_at {h : Heap} {t : Tok × Tok} (e : h.get? d = some o) (x : TabObj prog w ka H o) (ek : h.get? ka = some (keyObj t)) : h.DictOfH (tupleKind (intKind prog w)) d [([1, 0], ka, .ref H)] := by
  refine hideG fun G9 hG9 => ?_
  obtain ⟨hc, es, ep, hd, he⟩ := x
  refine hG9 ?_
  clear hG9 G9
  refine ⟨o, es, ep, e, hc, hd, he, fun y hy => ?_, by simp⟩
  rw [List.mem_singleton.mp hy]
  exact key_is ek
theorem tab_item {value slice : Expr} {t t' : Tok × Tok} {Q : Value → Shared → Prop} (N : News h₀ L s.heap news) (hd : (d, o) ∈ news) (x : TabObj prog w ka H o) (hka : (ka, keyObj t) ∈ news) (hk : (a, keyObj t') ∈ news) (hu : A.units + 1 < cLine)
    (h : Q (.ref H) { s with toks := s.toks + 3 })
    (hs : subscripted slice false (.ref d) (.ref a) = operate [.ref d, .ref a] (getItem (.ref d) (.ref a)) := by with_unfolding_all rfl) (hg : ∀ r, letTemporaryGo value (.ref d) r = pure () := by intro _; with_unfolding_all rfl) :
    wpAny (model prog w) A (subscriptTail value slice (.ref d) (.ref a)) Q E s := by
  have hD := tab_at (N _ hd).1 x (N _ hka).1
  exact subscriptTail_builtin hD.typeIs slot_dict_getitem.lookup (wpAny_getItem_heap (k := [1, 0]) (tupleKind_room_in1 hu) (key_is (N _ hk).1) hD (p := (ka, .ref H)) (by simp [atKey]) h) hs hg
theorem tab_made {env : Env} {keys : List (Option Expr)} {values : List Expr} {pos : Pos} {Q : Value → Shared → Prop} {m : Str → Option Value} (F : Fr h₀ L s.heap m) (N : News h₀ L s.heap news)
    (hbig : sysModules < h₀.objs.size) (hu : A.units < cLine) (hall : keys.all (·.isSome) = true) (hl : keys.length = values.length) (h0 : keys ≠ []) (hlen : keys.length ≤ 15)
    (h : ∀ D h1, Fr h₀ L h1 m → News h₀ L h1 ((D, { cls := .type "dict", data := .dict #[] }) :: news) → (D == sysModules) = false → (∀ p ∈ news, p.1 < D) →
      wpAny (model prog w) A (evalPairs (pairTrees keys values env pos)) (fun vs s₁ => Stop (∃ a v t n2, vs = [(.ref a, v)] ∧ (∃ H, v = .ref H) ∧ Fr h₀ L s₁.heap m ∧ News h₀ L s₁.heap ((D, { cls := .type "dict", data := .dict #[] }) :: (a, keyObj t) :: n2) ∧ (∀ p ∈ n2, p.1 ≠ D) ∧
        ∀ o h2 tk H, v = .ref H → Fr h₀ L h2 m → TabObj prog w a H o → News h₀ L h2 ((D, o) :: (a, keyObj t) :: n2) → Q (.ref D) { s₁ with heap := h2, toks := tk })) E { s with heap := h1 }) :
    wpAny (model prog w) A (eval (.Dict keys values pos) env) Q E s := by
  refine wpAny_Dict_any hall hl h0 hlen (wpAny_mono (h _ _ (F.push _) (News.push F N _) (F.notModules hbig) (fun p hp => Heap.lt_size (N p hp).1)) (fun vs s₁ z => ?_) fun _ _ z => z)
  obtain ⟨⟨a, v, t, n2, rfl, ⟨H, rfl⟩, F1, N1, off, fin⟩⟩ := z
  generalize s.heap.objs.size = D at *
  unfold storeAll
  rw [List.forIn_cons]
  have hD : s₁.heap.DictOfH (tupleKind (intKind prog w)) D [] := ⟨_, #[], 0, (N1 _ (.head _)).1, ⟨rfl, rfl, rfl⟩, rfl, rfl, fun _ hx => by simp at hx, List.nodup_nil⟩
  refine wpAny_bind (wpAny_bind (wpAny_dictSet_heap (hsz := by simp) (k := [1, 0]) (knd := tupleKind (intKind prog w)) hu (key_is (N1 _ (.tail _ (.head _))).1) hD fun h' hm' hs => wpAny_pure ?_))
  dsimp only
  rw [List.forIn_nil]
  refine wpAny_pure ?_
  refine hideG fun G9 hG9 => ?_
  obtain ⟨o', es', ep', ho', hc', hd', he', _, hn'⟩ := hm'
  refine hG9 ?_
  clear hG9 G9
  refine fin o' h' _ H rfl (F1.change hs (N1 _ (.head _)).2.1 (N1 _ (.head _)).2.2) ⟨hc', es', ep', hd', he'⟩ fun p hp => ?_
  rcases List.mem_cons.mp hp with rfl | hp
  · exact ⟨ho', (N1 _ (.head _)).2⟩
  · refine ⟨hs.extBut _ _ ?_ (N1 p (.tail _ hp)).1, (N1 p (.tail _ hp)).2⟩
    rcases List.mem_cons.mp hp with rfl | hp
    · intro e
      have h1 := (N1 _ (.tail _ (.head _))).1
      rw [show a = D from e, (N1 _ (.head _)).1] at h1
      have h2 := congrArg Obj.cls (Option.some.inj h1)
      injection h2 with h3
      exact absurd h3 (by decide)
    · exact off p hp
/-- the codes of the table -/
theorem code_of : ∀ (cs : List (Addr × Tok × Tok)) (b k : Nat) (c : Addr × Tok × Tok), cs[k]? = some c → (∀ i j, b ≤ i → i < j → j < b + cs.length → symAt i ≠ symAt j) → PySem.valueAt (pairsFrom b cs) (symAt (b + k)) = some (.ref c.1) ∧ (c.1, codeObj (b + k) c.2) ∈ codesFrom b cs
  | [], _, _, _, h, _ => by simp at h
  | q :: cs, b, 0, c, h, _ => by
    simp only [List.getElem?_cons_zero, Option.some.injEq] at h
    subst h
    exact ⟨by simp [pairsFrom, PySem.valueAt], .head _⟩
  | q :: cs, b, k + 1, c, h, nd => by
    rw [List.getElem?_cons_succ] at h
    have hl := (List.getElem?_eq_some_iff.mp h).1
    obtain ⟨h1, h2⟩ := code_of cs (b + 1) k c h fun i j hi hij hj => nd i j (Nat.le_of_succ_le hi) hij (Nat.succ_add_eq_add_succ b cs.length ▸ hj)
    have e : b + 1 + k = b + (k + 1) := Nat.succ_add_eq_add_succ b k
    rw [e] at h1 h2
    refine ⟨?_, .tail _ h2⟩
    have hne : symAt b ≠ symAt (b + (k + 1)) := nd b _ (Nat.le_refl _) (Nat.lt_add_of_pos_right (Nat.succ_pos k)) (Nat.add_lt_add_left (Nat.succ_lt_succ hl) b)
    rw [← h1]
    simp [pairsFrom, PySem.valueAt, hne]
theorem sym_ne : ∀ j : Nat, j < 16 → ∀ i : Nat, i < j → symAt i ≠ symAt j := by decide +kernel
theorem code_at {cs : List (Addr × Tok × Tok)} {k : Nat} (hc : cs.length = 16) (hk : k < 16) : ∃ c : Addr × Tok × Tok, PySem.valueAt (pairsFrom 0 cs) (symAt k) = some (.ref c.1) ∧ (c.1, codeObj k c.2) ∈ codesFrom 0 cs := by
  have hl : k < cs.length := hc ▸ hk
  obtain ⟨h1, h2⟩ := code_of cs 0 k _ (List.getElem?_eq_getElem hl) fun i j _ hij hj => sym_ne j (hc ▸ Nat.zero_add cs.length ▸ hj) i hij
  rw [Nat.zero_add] at h1 h2
  exact ⟨_, h1, h2⟩
end

theorem off_as {l : List (Addr × Obj)} {as : List Addr} {a : Addr} (e : l.map (·.1) = as) (h : a ∉ as) : ∀ p ∈ l, p.1 ≠ a := fun p hp q => h (e ▸ q ▸ List.mem_map_of_mem hp)
theorem news_app {h₀ h : Heap} {L : Addr} {a b : List (Addr × Obj)} (N : News h₀ L h a) (M : News h₀ L h b) : News h₀ L h (a ++ b) := fun p hp => (List.mem_append.mp hp).elim (N p) (M p)
theorem news_left {h₀ h : Heap} {L : Addr} {a b : List (Addr × Obj)} (N : News h₀ L h (a ++ b)) : News h₀ L h a := fun p hp => N p (List.mem_append_left _ hp)
theorem news_right {h₀ h : Heap} {L : Addr} {a b : List (Addr × Obj)} (N : News h₀ L h (a ++ b)) : News h₀ L h b := fun p hp => N p (List.mem_append_right _ hp)
/-- a part of the ledger stands: the other part alone is touched -/
theorem kept_left {h₀ h h' g : Heap} {L L' : Addr} {a b : List (Addr × Obj)} (k : Kept ((a ++ b).map (·.1)) h h') (N : News h₀ L h b) (N' : News g L' h' b) : Kept (a.map (·.1)) h h' := fun x o e hx => by
  by_cases q : x ∈ b.map (·.1)
  · obtain ⟨p, hp, rfl⟩ := List.mem_map.mp q
    rw [(N p hp).1] at e
    cases e
    exact (N' p hp).1
  · exact k x o e (by rw [List.map_append]; exact fun z => (List.mem_append.mp z).elim hx q)
theorem kept_same {h₀ h h' g : Heap} {L L' : Addr} {a : List (Addr × Obj)} (N : News h₀ L h a) (N' : News g L' h' a) (k : Kept (a.map (·.1)) h h') : Kept [] h h' := fun x o e _ => by
  by_cases q : x ∈ a.map (·.1)
  · obtain ⟨p, hp, rfl⟩ := List.mem_map.mp q
    rw [(N p hp).1] at e
    cases e
    exact (N' p hp).1
  · exact k x o e q
theorem keep_off {h₀ h h' : Heap} {L : Addr} {l : List (Addr × Obj)} {as : List Addr} (N : News h₀ L h l) (k : Kept as h h') (H : ∀ p ∈ l, p.1 ∉ as) : News h₀ L h' l := fun p hp => ⟨k _ _ (N p hp).1 (H p hp), (N p hp).2⟩
theorem off_sub {l : List (Addr × Obj)} {as bs : List Addr} (H : ∀ p ∈ l, p.1 ∉ as) (S : ∀ a ∈ bs, a ∈ as) : ∀ p ∈ l, p.1 ∉ bs := fun p hp q => H p hp (S _ q)
theorem bw_sink {c : Nat → Nat} : ∀ a ∈ bwA c, a ∈ sinkA c := fun a ha => .tail _ (.tail _ ha)
theorem nd2 {a b : Nat} (h : @Ne Nat a b) : @Ne Nat b a := Ne.symm h
/-- the reader's ledger -/
noncomputable def readerL (w : World) (b : Nat → Nat) (ol : List UInt8) (i : Nat) (t : Tok) : List (Addr × Obj) :=
  [(b 0, instObj 169 (b 1)), (b 1, dictOf (readE w b ol (i : Nat) t) 2)]
noncomputable def rdA (b : Nat → Nat) : List Addr := [b 0, b 1]
theorem rd_off {b : Nat → Nat} {I : Nat} (h0 : @LT.lt Nat _ (b 0) I) (h1 : @LT.lt Nat _ (b 1) I) : I ∉ rdA b := fun hm => by
  rcases List.mem_cons.mp hm with e | hm
  · exact Nat.ne_of_gt h0 e
  · exact Nat.ne_of_gt h1 (List.mem_singleton.mp hm)
/-- the table's ledger -/
noncomputable def tabL (w : World) (e : Nat → Nat) (rs : List (Addr × Tok × Tok × Tok)) (cs : List (Addr × Tok × Tok)) (o : Obj) (tt : Nat → Tok) : List (Addr × Obj) :=
  (e 0, instObj 351 (e 1)) :: (e 1, dictOf (tabE w e) 4) ::
    (e 2, o) :: (e 3, listOf (rowRefs rs).toArray (e 10)) :: (e 4, tupObj (symL tt)) :: (rowsFrom 0 rs ++ codesFrom 0 cs)
noncomputable def Tab (prog : Program) (w : World) (e : Nat → Nat) (rs : List (Addr × Tok × Tok × Tok)) (cs : List (Addr × Tok × Tok)) (o : Obj) : Prop :=
  rs.length = 16 ∧ cs.length = 16 ∧ o.IsDictOf (intKind prog w) (pairsFrom 0 cs) ∧ ((e 2 : Addr) == sysModules) = false
noncomputable def tabsL (w : World) (c e : Nat → Nat) (rs : List (Addr × Tok × Tok × Tok)) (cs : List (Addr × Tok × Tok)) (o to : Obj) (tt : Nat → Tok) : List (Addr × Obj) :=
  (c 8, to) :: (e 12, keyObj (e 13, e 14)) :: tabL w e rs cs o tt
/-! G2 -/
section
variable {prog : Program} {w : World} {A : Around} {E : Value → Shared → Prop} {s : Shared} {env : Env} {h₀ : Heap} {target : Expr} {body : List Stmt} {Q : Flow → Shared → Prop}
theorem unrPostW_mono {L : Addr} {s₁ : Shared} {its : List (Addr × Obj)} {r r' : (Str → Option Value) → List (Addr × Obj) → Prop} (hr : ∀ m n, r m n → r' m n) {f : Flow} {s₂ : Shared} (h : UnrPostW h₀ L s₁ its r Q f s₂) : UnrPostW h₀ L s₁ its r' Q f s₂ := by
  cases f with
  | ret v => exact h
  | brk => exact h
  | next => obtain ⟨h', tk, m', n', e, F, N, o, z⟩ := h; exact ⟨h', tk, m', n', e, F, N, o, hr _ _ z⟩
  | cont => obtain ⟨h', tk, m', n', e, F, N, o, z⟩ := h; exact ⟨h', tk, m', n', e, F, N, o, hr _ _ z⟩
theorem items_ind {I : Addr} {lp : Addr × Obj} {m : Str → Option Value} {vs : List Value} {news : List (Addr × Obj)} (J : Nat → (Str → Option Value) → List (Addr × Obj) → Prop) (h0 : J 0 m news)
    (step : ∀ i v m news, vs[i]? = some v → J i m news → ∀ (it : Obj) h tk, it.cls = .type "list_iterator" → Fr h₀ env.locals h m → News h₀ env.locals h ((I, it) :: news) →
      wpAny (model prog w) A (assign target env v) (fun _ s₂ => wpAny (model prog w) A (execs body env) (fun f s₃ => Stop (UnrPostW h₀ env.locals { s with heap := h, toks := tk } [(I, it)] (fun m' n' => lp ∈ n' ∧ J (i + 1) m' n') Q f s₃)) E s₂) E { s with heap := h, toks := tk })
    (fin : ∀ m news, J vs.length m news → ∀ h tk, Fr h₀ env.locals h m → News h₀ env.locals h news → Q .next { s with heap := h, toks := tk }) :
    ItemsRest prog w A E h₀ env target body Q s [(I, "list_iterator")] [lp] (vs.map .val) m news := by
  have main : ∀ k i m news, i + k = vs.length → J i m news → ItemsRest prog w A E h₀ env target body Q s [(I, "list_iterator")] [lp] ((vs.drop i).map .val) m news := by
    intro k
    induction k with
    | zero =>
      intro i m news e hJ
      rw [List.drop_eq_nil_of_le (Nat.le_of_eq (show vs.length = i from e.symm))]
      have e : i = vs.length := e
      subst e
      exact ItemsRest.zero (fin _ _ hJ)
    | succ k ih =>
      intro i m news e hJ
      have hi : i < vs.length := ind_lt e
      rw [List.drop_eq_getElem_cons hi, List.map_cons]
      refine ItemsRest.val fun h tk F => AllObj.cons fun it hc => AllObj.nil fun N => ?_
      refine wpAny_mono (step i vs[i] m news (List.getElem?_eq_getElem hi) hJ it h tk hc F N) (fun _ s₂ z => wpAny_mono z (fun f s₃ y => unrPostW_mono (fun m n x => ⟨And.intro x.1 trivial, ih (i + 1) m n (ind_next e) x.2⟩) y.out) fun _ _ y => y) fun _ _ y => y
  exact main vs.length 0 m news (Nat.zero_add _) h0
theorem kk_for_items {pos : Pos} {iter : Expr} {m₀ : Str → Option Value} (_F : Fr h₀ env.locals s.heap m₀) (hh : A.handled = none)
    (h : wpAny (model prog w) A (eval iter env) (fun xv s₁ => Stop (∃ ax lo vs n m news, xv = .ref ax ∧ Fr h₀ env.locals s₁.heap m ∧ News h₀ env.locals s₁.heap news ∧ (ax, lo) ∈ news ∧ lo.cls = .type "list" ∧ lo.data = .seq (List.toArray vs) n ∧
      ∀ I : Addr, (∀ p ∈ news, p.1 < I) → ItemsRest prog w A E h₀ env target body Q s₁ [(I, "list_iterator")] [(ax, lo)] (vs.map .val) m news)) E s)
    (hs : ∀ x, foldedSetIterable iter env x = pure x := by intro _; rfl)
    (hE : PassesOwn (model prog w) A env E := by passes_own) :
    wpAny (model prog w) A (exec (.For target iter body [] pos) env) Q E s := by
  refine For_turns _F (wpAny_mono h (fun xv s₁ z => ?_) fun _ _ z => z) hs hE
  obtain ⟨ax, lo, vs, n, m, news, rfl, F, N, hm, hc, hd, rest⟩ := z.out
  exact iter_listTurns hh F N hm hc hd rest
end
/-- what the first bits tell -/
theorem rbits_val (ol : List UInt8) (i n : Nat) : (bval (rbits ol i (n + 1)) : Int) = (bval (rbits ol i n) : Int) * 2 + (rbit ol (i + n) : Int) := by
  rw [rbits_succ]; push_cast; rfl
/-- the bits of a run -/
noncomputable def runBits (n : Nat) : List Bool := if n = 0 then [] else natBits 6 n.log2 ++ natBits n.log2 (n - 2 ^ n.log2)
theorem sym_pow : ∀ p : Nat, p ≤ 6 → 16 * (p : Int) = symAt p := fun p hp => (by decide : ∀ p : Fin 7, 16 * (p.val : Int) = symAt p.val) ⟨p, Nat.lt_succ_of_le hp⟩
theorem log2_le {n : Nat} (h : n ≠ 0) (hn : n ≤ 90) : n.log2 ≤ 6 := Nat.le_of_lt_succ ((Nat.log2_lt h).mpr (Nat.lt_of_le_of_lt hn (by decide)))
theorem log2_hi {n : Nat} : n < 2 ^ (n.log2 + 1) := Nat.lt_log2_self
/-- the bits of a number of the band -/
noncomputable def valBits (v : Int) : List Bool := natBits 6 (10 + v.natAbs.log2) ++ natBits (v.natAbs.log2 + 1) (if v < 0 then v + 2 ^ (v.natAbs.log2 + 1) - 1 else v).toNat
theorem sym_val : ∀ p : Nat, p ≤ 2 → 16 * 1 + ((p + 1 : Nat) : Int) = symAt (10 + p) := fun p hp => (by decide : ∀ p : Fin 3, 16 * 1 + ((p.val + 1 : Nat) : Int) = symAt (10 + p.val)) ⟨p, Nat.lt_succ_of_le hp⟩
theorem val_fit {v : Int} {p : Nat} (h1 : 2 ^ p ≤ v.natAbs) (h2 : v.natAbs < 2 ^ (p + 1)) : 0 ≤ (if v < 0 then v + 2 ^ (p + 1) - 1 else v) ∧ (if v < 0 then v + 2 ^ (p + 1) - 1 else v) < 2 ^ (p + 1) := by
  have e : (2 : Int) ^ (p + 1) = ((2 ^ (p + 1) : Nat) : Int) := by push_cast; rfl
  rw [e]
  generalize 2 ^ (p + 1) = q at h2
  clear h1 e
  split
  · next h =>
    obtain ⟨n, hv⟩ := Int.eq_ofNat_of_zero_le (Int.neg_nonneg.mpr (Int.le_of_lt h))
    obtain rfl : v = -(n : Int) := by rw [← hv, Int.neg_neg]
    rw [Int.natAbs_neg, Int.natAbs_natCast] at h2
    have hn : -(n : Int) + (q : Int) - 1 = (q : Int) - (n : Int) - 1 := by rw [Int.add_comm]; rfl
    rw [hn]
    exact ⟨Int.le_sub_one_of_lt (Int.sub_pos_of_lt (Int.ofNat_lt.mpr h2)), by rw [Int.sub_sub]; exact Int.sub_lt_self _ (Int.lt_add_one_of_le (Int.natCast_nonneg n))⟩
  · next h =>
    obtain ⟨n, rfl⟩ := Int.eq_ofNat_of_zero_le (Int.not_lt.mp h)
    exact ⟨Int.natCast_nonneg _, Int.ofNat_lt.mpr h2⟩
theorem code_room : ∀ i : Nat, i < 16 → codeAt i + manyAt i < 2 ^ (1 + (i : Int)).toNat := by decide
theorem items_end {h₀ : Heap} {L I : Addr} {it : Obj} {s₁ : Shared} {R : (Str → Option Value) → List (Addr × Obj) → Prop} {Q : Flow → Shared → Prop} {h' : Heap} {tk : Nat} {m' : Str → Option Value} {nw : List (Addr × Obj)} (F : Fr h₀ L h' m') (N : News h₀ L h' ((I, it) :: nw)) (off : ∀ p ∈ nw, p.1 ≠ I) (r : R m' nw) :
    Stop (UnrPostW h₀ L s₁ [(I, it)] R Q .next { s₁ with heap := h', toks := tk }) :=
  ⟨⟨h', tk, m', nw, rfl, F, N, fun p hp q hq => by rw [List.mem_singleton.mp hq]; exact off p hp, r⟩⟩
theorem off_lt {a b : List (Addr × Obj)} {I : Nat} (l : ∀ p ∈ a, @LT.lt Nat _ p.1 I) (e : b.map (·.1) = a.map (·.1)) : ∀ p ∈ b, p.1 ≠ I := fun p hp q => by
  have h := List.mem_map_of_mem (f := (·.1)) hp
  rw [e] at h
  obtain ⟨x, hx, hxe⟩ := List.mem_map.mp h
  exact Nat.ne_of_lt (l x hx) (hxe.trans q)
theorem sym_get (t : Nat → Tok) : ∀ {i : Nat}, i < 16 → (symL t)[i]? = some (.int (symAt i) (t i))
  | 0, _ => rfl
  | 1, _ => rfl
  | 2, _ => rfl
  | 3, _ => rfl
  | 4, _ => rfl
  | 5, _ => rfl
  | 6, _ => rfl
  | 7, _ => rfl
  | 8, _ => rfl
  | 9, _ => rfl
  | 10, _ => rfl
  | 11, _ => rfl
  | 12, _ => rfl
  | 13, _ => rfl
  | 14, _ => rfl
  | 15, _ => rfl
  | n + 16, h => absurd h (Nat.not_lt.mpr (Nat.le_add_left 16 n))
theorem sym_at (t : Nat → Tok) {i : Nat} {v : Value} (h : (symL t)[i]? = some v) : i < 16 ∧ v = .int (symAt i) (t i) := by
  have hl : i < 16 := (List.getElem?_eq_some_iff.mp h).1
  exact ⟨hl, Option.some.inj (h.symm.trans (sym_get t hl))⟩
section
variable {prog : Program} {w : World} {A : Around} {E : Value → Shared → Prop} {s : Shared} {h₀ : Heap} {L sa : Addr} {m : Str → Option Value} {news : List (Addr × Obj)} {g : Obj → List (Addr × Obj)} {so : Obj} {S : Int → Bool} {n : Nat} {k : Int} {t : Tok}
theorem set_miss {Q : Value → Shared → Prop} (N : News h₀ L s.heap news) (U : UpdF sa so news g) (hso : so.SetObjOf (intKind prog w) S n) (hb : n ≤ 20) (hS : S k = false) (h : Q (.bool false) { s with toks := s.toks + 1 }) :
    wpAny (model prog w) A (compareOp .In (.int k t) (.ref sa)) Q E s := kse_in N U hso (Nat.lt_of_le_of_lt hb (by decide)) (intKind_is _ _ _ _) rfl (hS ▸ h)
theorem set_add {Q : Value → Shared → Prop} (F : Fr h₀ L s.heap m) (N : News h₀ L s.heap news) (U : UpdF sa so news g) (hso : so.SetObjOf (intKind prog w) S n) (hb : n ≤ 20)
    (h : ∀ h' so' n', Fr h₀ L h' m → News h₀ L h' (g so') → so'.SetObjOf (intKind prog w) (fun k' => S k' || decide (k' = k)) n' → n' ≤ n + 1 → Q .none { s with heap := h', toks := s.toks + 1 }) :
    wpAny (model prog w) A (call (.builtin "set.add") [.ref sa, .int k t]) Q E s :=
  kse_add F N U hso (Nat.lt_of_le_of_lt (Nat.succ_le_succ hb) (by decide)) (intKind_is _ _ _ _) rfl fun h' so' F' N' x => h h' so' _ F' N' x (by split; exact Nat.le_succ _; exact Nat.le_refl _)
theorem set_meth {pl : Sem Bool} {Q : Value × List Value → Shared → Prop} (N : News h₀ L s.heap news) (U : UpdF sa so news g) (hso : so.SetObjOf (intKind prog w) S n) (hb : n ≤ 20) (h : Q (.builtin "set.add", [.ref sa]) s) :
    wpAny (model prog w) A (getMethod (.ref sa) "add" pl) Q E s := kse_method (knd := intKind prog w) N U hso (Nat.lt_of_le_of_lt hb (by decide)) h
end
inductive checkJI (prog : Program) (w : World) (D : Addr) (led : List (Addr × Obj)) (m0 : Str → Option Value) (i : Nat) (m : Str → Option Value) (nw : List (Addr × Obj)) : Prop
  | mk : ∀ us so S n, (m = (fun y => if y = PySem.Str.ofString "symbol" then us else m0 y)) → (nw = (D, so) :: led) → (so.SetObjOf (intKind prog w) S n) → (n ≤ i) → (∀ j, i ≤ j → j < 16 → S (symAt j) = false) → checkJI prog w D led m0 i m nw
noncomputable def checkJ (prog : Program) (w : World) (D : Addr) (led : List (Addr × Obj)) (m0 : Str → Option Value) (i : Nat) (m : Str → Option Value) (nw : List (Addr × Obj)) : Prop := Stop (checkJI prog w D led m0 i m nw)
theorem sym_or {S : Int → Bool} {i : Nat} (h : ∀ j, i ≤ j → j < 16 → S (symAt j) = false) : ∀ j, i + 1 ≤ j → j < 16 → (fun k' => S k' || decide (k' = symAt i)) (symAt j) = false := fun j h1 h2 => by
  show (S (symAt j) || decide (symAt j = symAt i)) = false
  rw [h j (Nat.le_of_succ_le h1) h2, Bool.false_or]
  exact decide_eq_false fun e => sym_ne j h2 i h1 e.symm
/-! G3 -/
/-! a list comprehension of two clauses over ranges -/
section
variable {prog : Program} {w : World} {A : Around} {E : Value → Shared → Prop} {R : Result → Shared → Prop} {s : Shared} {h₀ : Heap} {L : Addr} {m : Str → Option Value} {env : Env}
noncomputable abbrev twoC (elt iter1 iter2 : Expr) (x y : Str) (px py : Pos) (scope : Scope) (pos : Pos) : Expr := .ListComp elt [⟨.Name x px, iter1, [], 0⟩, ⟨.Name y py, iter2, [], 0⟩] scope pos
theorem start_two {elt iter1 iter2 : Expr} {x y : Str} {px py : Pos} {scope : Scope} {pos : Pos} {it acc : Value} {env : Env}
    (h0 : codeAny (model prog w) A (.compLoop (twoC elt iter1 iter2 x y px py scope pos) 1 it acc env) R s)
    (h : wpAny (model prog w) A (pyIter it) (fun it' s' => codeAny (model prog w) A (.compLoop (twoC elt iter1 iter2 x y px py scope pos) 1 it' acc env) R s') (notedBy (model prog w) A env fun x s' => R (.error x) s') s) :
    codeAny (model prog w) A (.compStart (twoC elt iter1 iter2 x y px py scope pos) 1 it acc env) R s := by
  refine codeAny_of_tree ?_
  show wpAny _ _ ((compStart (twoC elt iter1 iter2 x y px py scope pos) 1 it acc env).onRaise (fun x => do noteFrame x env; standAt theWindowsPlace)) _ _ s
  refine wpAny_notedAt ?_
  unfold compStart
  show wpAny _ _ (ask >>= _) _ _ s
  refine wpAny_bind (wpAny_askSetting (wpAny_ite ?_))
  split
  · first
      | exact wpAny_bind (wpAny_pure (wpAny_pure (And.intro rfl h0)))
      | exact wpAny_pure (And.intro rfl h0)
  · exact wpAny_bind (wpAny_rule (wpAny_bind (wpAny_standAt (wpAny_bind (wpAny_mono h (fun it' s' h' => wpAny_pure (And.intro rfl h')) fun _ _ x => x)))))
theorem turn_one {elt iter1 iter2 : Expr} {x y : Str} {px py : Pos} {scope : Scope} {pos : Pos} {it acc : Value} {env : Env} :
    compTurn (twoC elt iter1 iter2 x y px py scope pos) 1 it acc env = (standAt iter2.pos >>= fun _ => pyNext it >>= fun r => match r with
      | none => pure (.done .next)
      | some v => letOwnedTupleGo (.Name y py) it v >>= fun _ => assign (.Name y py) env v >>= fun _ =>
        (eval elt env >>= fun z => call (.builtin "list.append") [acc, z] >>= fun _ => pure ()) >>= fun _ =>
          again (.compLoop (twoC elt iter1 iter2 x y px py scope pos) 1 it acc env)) := by rfl
theorem turn_zero {elt iter1 iter2 : Expr} {x y : Str} {px py : Pos} {scope : Scope} {pos : Pos} {it acc : Value} {env : Env} :
    compTurn (twoC elt iter1 iter2 x y px py scope pos) 0 it acc env = (standAt iter1.pos >>= fun _ => pyNext it >>= fun r => match r with
      | none => pure (.done .next)
      | some v => letOwnedTupleGo (.Name x px) it v >>= fun _ => assign (.Name x px) env v >>= fun _ =>
        eval iter2 env >>= fun z => standAt iter2.pos >>= fun _ => foldedSetIterable iter2 env z >>= fun z => holding [z] (pyIter z) >>= fun i2 =>
          runOwn (.compStart (twoC elt iter1 iter2 x y px py scope pos) 1 i2 acc env) env >>= fun _ =>
          again (.compLoop (twoC elt iter1 iter2 x y px py scope pos) 0 it acc env)) := by rfl
theorem loop_one {elt iter1 iter2 : Expr} {x y : Str} {px py : Pos} {scope : Scope} {pos : Pos} {it acc : Value} {env : Env} (I : Nat → Shared → Prop)
    (turn : ∀ n s, I n s → wpAny (model prog w) A (pyNext it) (fun r s₁ => match r with
      | none => R (.ok .next) s₁
      | some v => wpAny (model prog w) A (assign (.Name y py) env v) (fun _ s₂ => wpAny (model prog w) A (eval elt env) (fun z s₃ =>
          wpAny (model prog w) A (call (.builtin "list.append") [acc, z]) (fun _ s₄ => ∃ m, m < n ∧ I m s₄) (notedBy (model prog w) A env fun e s' => R (.error e) s') s₃) (notedBy (model prog w) A env fun e s' => R (.error e) s') s₂) (notedBy (model prog w) A env fun e s' => R (.error e) s') s₁)
      (notedBy (model prog w) A env fun e s' => R (.error e) s') s) (n : Nat) (h : I n s) :
    codeAny (model prog w) A (.compLoop (twoC elt iter1 iter2 x y px py scope pos) 1 it acc env) R s := by
  refine codeAny_loop rfl I (fun n s hI => ?_) n h
  show wpAny _ A ((compTurn (twoC elt iter1 iter2 x y px py scope pos) 1 it acc env).onRaise (fun x => do noteFrame x env; theTreesLotGoes x)) _ _ s
  refine wpAny_noted ?_
  rw [turn_one]
  refine wpAny_bind (wpAny_standAt (wpAny_bind (wpAny_mono (turn n s hI) (fun r s₁ h₁ => ?_) fun _ _ h' => h')))
  cases r with
  | none => exact wpAny_pure h₁
  | some v =>
    refine wpAny_bind (wpAny_of_eq (a := ()) rfl ?_)
    refine wpAny_bind (wpAny_mono h₁ (fun _ s₂ h₂ => ?_) fun _ _ h' => h')
    exact wpAny_bind (wpAny_bind (wpAny_mono h₂ (fun z s₃ h₃ => wpAny_bind (wpAny_mono h₃ (fun _ s₄ h₄ => wpAny_pure (wpAny_pure ⟨rfl, h₄⟩)) fun _ _ h' => h')) fun _ _ h' => h'))
theorem loop_zero {elt iter1 iter2 : Expr} {x y : Str} {px py : Pos} {scope : Scope} {pos : Pos} {it acc : Value} {env : Env} (I : Nat → Shared → Prop) (hs : ∀ z, foldedSetIterable iter2 env z = pure z)
    (turn : ∀ n s, I n s → wpAny (model prog w) A (pyNext it) (fun r s₁ => match r with
      | none => R (.ok .next) s₁
      | some v => wpAny (model prog w) A (assign (.Name x px) env v) (fun _ s₂ => wpAny (model prog w) A (eval iter2 env) (fun z s₃ => wpAny (model prog w) A (pyIter z) (fun i2 s₄ =>
          codeAny (model prog w) A (.compStart (twoC elt iter1 iter2 x y px py scope pos) 1 i2 acc env) (fun r s₅ => match r with | .ok _ => ∃ m, m < n ∧ I m s₅ | .error e => False) s₄)
            (notedBy (model prog w) A env fun e s' => R (.error e) s') s₃) (notedBy (model prog w) A env fun e s' => R (.error e) s') s₂) (notedBy (model prog w) A env fun e s' => R (.error e) s') s₁)
      (notedBy (model prog w) A env fun e s' => R (.error e) s') s) (n : Nat) (h : I n s) :
    codeAny (model prog w) A (.compLoop (twoC elt iter1 iter2 x y px py scope pos) 0 it acc env) R s := by
  refine codeAny_loop rfl I (fun n s hI => ?_) n h
  show wpAny _ A ((compTurn (twoC elt iter1 iter2 x y px py scope pos) 0 it acc env).onRaise (fun x => do noteFrame x env; theTreesLotGoes x)) _ _ s
  refine wpAny_noted ?_
  rw [turn_zero]
  refine wpAny_bind (wpAny_standAt (wpAny_bind (wpAny_mono (turn n s hI) (fun r s₁ h₁ => ?_) fun _ _ h' => h')))
  cases r with
  | none => exact wpAny_pure h₁
  | some v =>
    refine wpAny_bind (wpAny_of_eq (a := ()) rfl ?_)
    refine wpAny_bind (wpAny_mono h₁ (fun _ s₂ h₂ => ?_) fun _ _ h' => h')
    refine wpAny_bind (wpAny_mono h₂ (fun z s₃ h₃ => wpAny_bind (wpAny_standAt (wpAny_bind (wpAny_of_eq (hs z) (wpAny_bind (wpAny_holding (wpAny_mono h₃ (fun i2 s₄ h₄ => ?_) fun _ _ h' => h')))))))  fun _ _ h' => h')
    refine wpAny_bind (wpAny_runOwn (codeAny_mono h₄ fun r s₅ h₅ => ?_))
    cases r with
    | ok f => exact wpAny_pure ⟨rfl, h₅⟩
    | error e => exact h₅.elim
end

inductive TwoOut (P : Nat → Value → Prop) (n n2 : Nat) (h₀ : Heap) (L I D C : Addr) (m : Str → Option Value) (news : List (Addr × Obj)) (a : Int) (s₁ : Shared) (i : Nat) (s' : Shared) : Prop
  | mk : ∀ h tk m₂ ys, (s' = { s₁ with heap := h, toks := tk }) → (ys.length = i * n2) → ((∀ k z, ys[k]? = some z → P k z)) → (Fr h₀ L h m) → (News h₀ L h news) → (h.Ns C m₂) → (h.get? D = some (LCg.lst ys)) → (IsRangeIter h I (a + (i : Nat) * 1) ((n : Int) - (i : Nat)) 1) → TwoOut P n n2 h₀ L I D C m news a s₁ i s'
inductive TwoIn (P : Nat → Value → Prop) (n n2 : Nat) (h₀ : Heap) (L I D C I2 : Addr) (m : Str → Option Value) (news : List (Addr × Obj)) (a a2 : Int) (s₁ : Shared) (x : Str) (i j : Nat) (s' : Shared) : Prop
  | mk : ∀ h tk m₂ ys ti, (s' = { s₁ with heap := h, toks := tk }) → (ys.length = i * n2 + j) → ((∀ k z, ys[k]? = some z → P k z)) → (Fr h₀ L h m) → (News h₀ L h news) → (h.Ns C m₂) → (m₂ x = some (.int (a + (i : Int)) ti)) → (h.get? D = some (LCg.lst ys)) → (IsRangeIter h I (a + ((i + 1 : Nat) : Int) * 1) ((n : Int) - ((i + 1 : Nat) : Int)) 1) → (IsRangeIter h I2 (a2 + (j : Nat) * 1) ((n2 : Int) - (j : Nat)) 1) → TwoIn P n n2 h₀ L I D C I2 m news a a2 s₁ x i j s'
inductive TwoIter (h₀ : Heap) (L : Addr) (m : Str → Option Value) (n2 : Nat) (a2 : Int) (s₁ : Shared) (hh : Heap) (xv : Value) (s' : Shared) : Prop
  | mk : ∀ h' tk' r2 b2 t u v, (xv = .ref r2) → (s' = { s₁ with heap := h', toks := tk' }) → (Fr h₀ L h' m) → ((∀ b o, hh.get? b = some o → h'.get? b = some o)) → (IsRange h' r2 a2 b2 1 t u v) → (Builtin.Range.small a2 b2 1 = true) → (Builtin.Range.rangeSize a2 b2 1 = (n2 : Int)) → TwoIter h₀ L m n2 a2 s₁ hh xv s'
inductive TwoGo (prog : Program) (w : World) (A : Around) (env : Env) (h₀ : Heap) (L : Addr) (m : Str → Option Value) (x y : Str) (iter2 elt : Expr) (scope : Scope) (cl : List (Str × Addr)) (P : Nat → Value → Prop) (n n2 : Nat) (Q : Value → Shared → Prop) (xv : Value) (s₁ : Shared) : Prop
  | mk : ∀ (r : Addr) (a b : Int) (t u v : Tok) (a2 : Int) (news : List (Addr × Obj)), (xv = .ref r) → (Fr h₀ L s₁.heap m) → (News h₀ L s₁.heap news) → (IsRange s₁.heap r a b 1 t u v) → (Builtin.Range.small a b 1 = true) → (Builtin.Range.rangeSize a b 1 = (n : Int)) → ((∀ all (hh : Heap) C tk E', Fr h₀ L hh m → News h₀ L hh (all ++ news) → wpAny (model prog w) A (eval iter2 (compEnvC scope cl C env)) (fun xv s' => Stop (TwoIter h₀ L m n2 a2 s₁ hh xv s')) E' { s₁ with heap := hh, toks := tk })) → ((∀ all (hh : Heap) C oC m₂ tk E' (i j : Nat) ti tj, i < n → j < n2 → LCg.NsObj oC m₂ → m₂ x = some (.int (a + (i : Int)) ti) → m₂ y = some (.int (a2 + (j : Int)) tj) → Fr h₀ L hh m → News h₀ L hh ((C, oC) :: (all ++ news)) → wpAny (model prog w) A (eval elt (compEnvC scope cl C env)) (fun z s' => Stop (P (i * n2 + j) z ∧ ∃ h' tk', s' = { s₁ with heap := h', toks := tk' } ∧ Fr h₀ L h' m ∧ (∀ b o, hh.get? b = some o → h'.get? b = some o))) E' { s₁ with heap := hh, toks := tk })) → ((∀ D h' tk ys, Fr h₀ L h' m → News h₀ L h' ((D, LCg.lst ys) :: news) → ys.length = n * n2 → (∀ k z, ys[k]? = some z → P k z) → Q (.ref D) { s₁ with heap := h', toks := tk })) → TwoGo prog w A env h₀ L m x y iter2 elt scope cl P n n2 Q xv s₁
section
variable {prog : Program} {w : World} {A : Around} {E : Value → Shared → Prop} {s : Shared} {h₀ : Heap} {L : Addr} {m : Str → Option Value} {env : Env}
theorem comp_two {elt iter1 iter2 : Expr} {x y : Str} {px py : Pos} {scope : Scope} {cl : List (Str × Addr)} {pos : Pos} {Q : Value → Shared → Prop} (P : Nat → Value → Prop) (n n2 : Nat) (_F₀ : Fr h₀ L s.heap m)
    (hclos : closureFor scope env = pure cl) (hcell : ∀ z ∈ scope.names, z.2 ≠ .cell) (hkind : scope.kind = .function)
    (hnames : ∀ z ∈ scope.names, z.2 = .local → scope.names.lookup z.1 = some .local) (hx : scope.names.lookup x = some .local) (hy : scope.names.lookup y = some .local) (hxy : x ≠ y) (hh : A.handled = none) (h100 : n * n2 ≤ 1000)
    (h : wpAny (model prog w) A (eval iter1 env) (fun xv s₁ => Stop (TwoGo prog w A env h₀ L m x y iter2 elt scope cl P n n2 Q xv s₁)) E s)
    (hs1 : ∀ z, foldedSetIterable iter1 env z = pure z := by intro _; rfl)
    (hs2 : ∀ C z, foldedSetIterable iter2 (compEnvC scope cl C env) z = pure z := by intro _ _; rfl) :
    wpAny (model prog w) A (eval (twoC elt iter1 iter2 x y px py scope pos) env) Q E s := by
  rw [eval_ListComp]
  refine wpAny_comprehension_free (use := none) rfl hs1 hclos hkind hnames (wpAny_mono h (fun xv s₁ h₁ => ?_) fun _ _ e => e)
  obtain ⟨⟨r, a, b, t, u, v, a2, news, rfl, F, N, hr, hsm, hn, ITER2, ELT, FIN⟩⟩ := h₁
  refine wpAny_pyIter_range hr hsm ?_
  rw [hn]
  generalize hI : s₁.heap.objs.size = I
  have FI := F.push { cls := .type "range_iterator", data := .fields #[rawInt a, rawInt ((n : Nat) : Int), rawInt 1] }
  have eI := Heap.get?_push_size s₁.heap (o := { cls := .type "range_iterator", data := .fields #[rawInt a, rawInt ((n : Nat) : Int), rawInt 1] }) rfl
  have kI : ∀ b o, s₁.heap.get? b = some o → (s₁.heap.push { cls := .type "range_iterator", data := .fields #[rawInt a, rawInt ((n : Nat) : Int), rawInt 1] }).get? b = some o := fun b o e => Heap.get?_push_of_some _ e
  have nI : s₁.heap.get? I = none := hI ▸ none_size _
  rw [hI] at eI
  obtain ⟨iL, i0⟩ := new_none F nI
  generalize s₁.heap.push { cls := .type "range_iterator", data := .fields #[rawInt a, rawInt ((n : Nat) : Int), rawInt 1] } = H1 at FI eI kI ⊢
  refine wpAny_newObj_type (wpAny_newFunctionEnv hcell (by intro y hy; simp at hy) (fun H3 hns₁ hsb₁ => ?_) hkind)
  dsimp only at hns₁ hsb₁ ⊢
  generalize hD : H1.objs.size = D at *
  have nD : H1.get? D = none := hD ▸ none_size _
  obtain ⟨dL, d0⟩ := new_none FI nD
  have FD := FI.push { cls := .type "list", dict := none, data := .seq ([] : List Value).toArray }
  have eD := Heap.get?_push_size H1 (o := { cls := .type "list", dict := none, data := .seq ([] : List Value).toArray }) rfl
  rw [hD] at eD
  have kD : ∀ b o, H1.get? b = some o → (H1.push { cls := .type "list", dict := none, data := .seq ([] : List Value).toArray }).get? b = some o := fun b o e => Heap.get?_push_of_some _ e
  generalize H1.push { cls := .type "list", dict := none, data := .seq ([] : List Value).toArray } = H2 at *
  generalize hC : H2.objs.size = C at *
  have nC : H2.get? C = none := hC ▸ none_size _
  obtain ⟨cL, c0⟩ := new_none FD nC
  have dI : @Ne Nat I D := fun e => by have e : I = D := e; rw [e] at eI; rw [nD] at eI; cases eI
  have dC : @Ne Nat D C := fun e => by have e : D = C := e; rw [e] at eD; rw [nC] at eD; cases eD
  have iC : @Ne Nat I C := fun e => by have e : I = C := e; have := kD _ _ eI; rw [e, nC] at this; cases this
  have offI : ∀ p ∈ news, p.1 ≠ I := fun p hp e => by have := (N p hp).1; rw [e, nI] at this; cases this
  have offD : ∀ p ∈ news, p.1 ≠ D := fun p hp e => by have := kI _ _ (N p hp).1; rw [e, nD] at this; cases this
  have offC : ∀ p ∈ news, p.1 ≠ C := fun p hp e => by have := kD _ _ (kI _ _ (N p hp).1); rw [e, nC] at this; cases this
  have old : ∀ b o, H2.get? b = some o → H3.get? b = some o := fun b o e => hsb₁.extBut b o (fun q => by have q : b = C := q; rw [q, nC] at e; cases e) (Heap.get?_push_of_some _ e)
  have WI := Walks.range (prog := prog) (w := w) hh I a 1 n
  let OUT : Nat → Shared → Prop := TwoOut P n n2 h₀ L I D C m news a s₁
  have OUTER : ∀ s', OUT 0 s' → codeAny (model prog w) A (.compLoop (twoC elt iter1 iter2 x y px py scope pos) 0 (.ref I) (.ref D) (compEnvC scope cl C env)) (compPost (model prog w) A E none Q (.ref D) C) s' := by
    intro s' h0
    refine loop_zero (fun k s' => ∃ i, i ≤ n ∧ k = n + 1 - i ∧ OUT i s') (hs2 C) ?_ (n + 1) ⟨0, Nat.zero_le _, rfl, h0⟩
    rintro k s' ⟨i, hi, rfl, hA, tk, m₂, ys, rfl, hyl, hP, F1, N1, hns, eD1, eI1⟩
    by_cases hlt : i < n
    · refine WI.item i _ _ _ hlt eI1 fun v h2 tk2 hv eI2 hk2 => ?_
      obtain ⟨tv, rfl⟩ := hv
      refine wpAny_assign_Name (wpAny_storeName_local (lookup_relabel_local hx) (hns.at' fun o e => hk2 _ o (by simpa using Ne.symm iC) e) (fun h3 hn3 hs3 => ?_) (by simp [compEnvC, relabel, hkind]))
      have F3 : Fr h₀ L h3 m := (LCg.fr_but F1 hk2 (Ne.symm iL) i0).change hs3 cL c0
      have k3 : ∀ b o, b ≠ I → b ≠ C → hA.get? b = some o → h3.get? b = some o := fun b o h1 h2 e => hs3.extBut b o h2 (hk2 b o (by simpa using h1) e)
      have N3 : News h₀ L h3 news := fun p hp => ⟨k3 _ _ (offI p hp) (offC p hp) (N1 p hp).1, (N1 p hp).2⟩
      have eD3 : h3.get? D = some (LCg.lst ys) := k3 _ _ (Ne.symm dI) dC eD1
      have eI3 : IsRangeIter h3 I (a + ((i + 1 : Nat) : Int) * 1) ((n : Int) - ((i + 1 : Nat) : Int)) 1 := hs3.extBut _ _ iC eI2
      refine wpAny_mono (ITER2 [] h3 C _ _ F3 N3) (fun z s4 hz => ?_) fun _ _ e => e
      obtain ⟨⟨h4, tk4, r2, b2, t2, u2, v2, rfl, rfl, F4, k4, hr2, hsm2, hn2⟩⟩ := hz
      refine wpAny_pyIter_range hr2 hsm2 ?_
      rw [hn2]
      dsimp only
      generalize hI2 : h4.objs.size = I2
      have n2' : h4.get? I2 = none := hI2 ▸ none_size _
      obtain ⟨i2L, i20⟩ := new_none F4 n2'
      have F5 := F4.push { cls := .type "range_iterator", data := .fields #[rawInt a2, rawInt ((n2 : Nat) : Int), rawInt 1] }
      have e5 := Heap.get?_push_size h4 (o := { cls := .type "range_iterator", data := .fields #[rawInt a2, rawInt ((n2 : Nat) : Int), rawInt 1] }) rfl
      have k5 : ∀ b o, h4.get? b = some o → (h4.push { cls := .type "range_iterator", data := .fields #[rawInt a2, rawInt ((n2 : Nat) : Int), rawInt 1] }).get? b = some o := fun b o e => Heap.get?_push_of_some _ e
      rw [hI2] at e5
      generalize h4.push { cls := .type "range_iterator", data := .fields #[rawInt a2, rawInt ((n2 : Nat) : Int), rawInt 1] } = h5 at F5 e5 k5 ⊢
      have ne2 : ∀ b o, h3.get? b = some o → b ≠ I2 := fun b o e q => by rw [q] at e; have := k4 _ _ e; rw [n2'] at this; cases this
      obtain ⟨oC3, eC3, _⟩ := LCg.ns_obj hn3
      have I2I : I ≠ I2 := ne2 _ _ eI3
      have I2D : D ≠ I2 := ne2 _ _ eD3
      have I2C : C ≠ I2 := ne2 _ _ eC3
      have off2 : ∀ p ∈ news, p.1 ≠ I2 := fun p hp => ne2 _ _ (N3 p hp).1
      have W2 := Walks.range (prog := prog) (w := w) hh I2 a2 1 n2
      let IN : Nat → Shared → Prop := TwoIn P n n2 h₀ L I D C I2 m news a a2 s₁ x i
      have INNER : ∀ s', IN 0 s' → codeAny (model prog w) A (.compLoop (twoC elt iter1 iter2 x y px py scope pos) 1 (.ref I2) (.ref D) (compEnvC scope cl C env)) (fun r s₅ => match r with | .ok _ => ∃ m, m < n + 1 - i ∧ ∃ i', i' ≤ n ∧ m = n + 1 - i' ∧ OUT i' s₅ | .error e => False) s' := by
        intro s' h0
        refine loop_one (fun k s' => ∃ j, j ≤ n2 ∧ k = n2 + 1 - j ∧ IN j s') ?_ (n2 + 1) ⟨0, Nat.zero_le _, rfl, h0⟩
        rintro k s' ⟨j, hj, rfl, h, tk, m₂, ys, ti, rfl, hyl, hP, F1, N1, hns, hmx, eD1, eI1, e2⟩
        by_cases hlt2 : j < n2
        · refine W2.item j _ _ _ hlt2 e2 fun v h2 tk2 hv e22 hk2 => ?_
          obtain ⟨tv, rfl⟩ := hv
          refine wpAny_assign_Name (wpAny_storeName_local (lookup_relabel_local hy) (hns.at' fun o e => hk2 _ o (by simpa using I2C) e) (fun h3 hn3 hs3 => ?_) (by simp [compEnvC, relabel, hkind]))
          have F3 : Fr h₀ L h3 m := (LCg.fr_but F1 hk2 (Ne.symm i2L) i20).change hs3 cL c0
          have k3 : ∀ b o, b ≠ I2 → b ≠ C → h.get? b = some o → h3.get? b = some o := fun b o h1 h2 e => hs3.extBut b o h2 (hk2 b o (by simpa using h1) e)
          have N3 : News h₀ L h3 news := fun p hp => ⟨k3 _ _ (off2 p hp) (offC p hp) (N1 p hp).1, (N1 p hp).2⟩
          have eD3 : h3.get? D = some (LCg.lst ys) := k3 _ _ I2D dC eD1
          have eI3 := k3 _ _ I2I iC eI1
          have e23 : IsRangeIter h3 I2 (a2 + ((j + 1 : Nat) : Int) * 1) ((n2 : Int) - ((j + 1 : Nat) : Int)) 1 := hs3.extBut _ _ (Ne.symm I2C) e22
          obtain ⟨oC, eC, hoC⟩ := LCg.ns_obj hn3
          have NC : News h₀ L h3 ((C, oC) :: ([] ++ news)) := fun p hp => by
            rcases List.mem_cons.mp hp with rfl | hp
            · exact ⟨eC, cL, c0⟩
            · exact N3 p hp
          refine wpAny_mono (ELT [] h3 C oC _ _ _ i j ti tv hlt hlt2 hoC (by rw [if_neg hxy]; exact hmx) (by rw [if_pos rfl, Int.mul_one]) F3 NC) (fun z s4 hz => ?_) fun _ _ e => e
          obtain ⟨⟨hPz, h4, tk4, rfl, F4, k4⟩⟩ := hz
          have hlen : ys.length < 1000 := by
            have h1 : i * n2 + j < (i + 1) * n2 := by rw [Nat.add_mul, Nat.one_mul]; exact Nat.add_lt_add_left hlt2 _
            have h2 : (i + 1) * n2 ≤ n * n2 := Nat.mul_le_mul_right _ hlt
            rw [hyl]; exact Nat.lt_of_lt_of_le h1 (Nat.le_trans h2 (by assumption))
          refine append_at (hsz := by rw [sizeLine_eq]; simp only [List.size_toArray]; exact Nat.le_trans (Nat.le_of_lt hlen) (by decide)) (k4 _ _ eD3) fun h5 hs5 eD5 => ?_
          have k5' : ∀ b o, b ≠ D → h3.get? b = some o → h5.get? b = some o := fun b o hb e => hs5.extBut b o hb (k4 b o e)
          refine ⟨n2 + 1 - (j + 1), Nat.sub_lt_sub_left (Nat.lt_succ_of_lt hlt2) (Nat.lt_succ_self j), j + 1, hlt2, rfl, h5, tk4, _, ys ++ [z], ti, rfl, by rw [List.length_append, hyl]; rfl, ?_, F4.change hs5 dL d0, fun p hp => ⟨k5' _ _ (offD p hp) (N3 p hp).1, (N3 p hp).2⟩, (hn3.at' fun o e => k4 _ o e).sameBut hs5 (Ne.symm dC), by rw [if_neg hxy]; exact hmx, eD5.trans (congrArg some (LCg.lst_snoc ys z)), k5' _ _ dI eI3, k5' _ _ (Ne.symm I2D) e23⟩
          intro k z' hz'
          by_cases hk : k < ys.length
          · rw [List.getElem?_append_left hk] at hz'; exact hP k z' hz'
          · rw [List.getElem?_append_right (Nat.not_lt.mp hk)] at hz'
            have hk0 : k = ys.length := by
              exact Nat.le_antisymm (Nat.sub_eq_zero_iff_le.mp (Nat.lt_one_iff.mp (List.getElem?_eq_some_iff.mp hz').1)) (Nat.not_lt.mp hk)
            subst hk0
            simp at hz'
            subst hz'
            rw [hyl]; exact hPz
        · obtain rfl : j = n2 := Nat.le_antisymm hj (Nat.not_lt.mp hlt2)
          refine W2.done _ _ _ e2 fun h2 tk2 hk2 => ?_
          refine ⟨n + 1 - (i + 1), Nat.sub_lt_sub_left (Nat.lt_succ_of_lt hlt) (Nat.lt_succ_self i), i + 1, hlt, rfl, h2, tk2, m₂, ys, rfl, by rw [hyl, Nat.add_mul, Nat.one_mul], hP, LCg.fr_but F1 hk2 (Ne.symm i2L) i20, LCg.news_but N1 hk2 off2, hns.at' fun o e => hk2 _ o (by simpa using I2C) e, hk2 _ _ (by simpa using I2D) eD1, hk2 _ _ (by simpa using I2I) eI1⟩
      have st0 : IN 0 { s₁ with heap := h5, toks := tk4 } := ⟨h5, tk4, _, ys, tv, rfl, by rw [hyl, Nat.add_zero], hP, F5, fun p hp => ⟨k5 _ _ (k4 _ _ (N3 p hp).1), (N3 p hp).2⟩, hn3.at' (fun o e => k5 _ o (k4 _ o e)), by rw [if_pos rfl, Int.mul_one], k5 _ _ (k4 _ _ eD3), k5 _ _ (k4 _ _ eI3), by simpa using e5⟩
      exact start_two (INNER _ st0) (W2.self 0 _ _ _ (by simpa using e5) (INNER _ st0))
    · obtain rfl : i = n := Nat.le_antisymm hi (Nat.not_lt.mp hlt)
      refine WI.done _ _ _ eI1 fun h2 tk2 hk2 => ?_
      refine ⟨m₂, hns.at' (fun o e => hk2 _ o (by simpa using Ne.symm iC) e), fun h3 hs3 => ?_⟩
      have k3 : ∀ b o, b ≠ I → b ≠ C → hA.get? b = some o → h3.get? b = some o := fun b o h1 h2 e => hs3.extBut b o h2 (hk2 b o (by simpa using h1) e)
      refine FIN D h3 tk2 ys ((LCg.fr_but F1 hk2 (Ne.symm iL) i0).change hs3 cL c0) (fun p hp => ?_) hyl hP
      rcases List.mem_cons.mp hp with rfl | hp
      · exact ⟨k3 _ _ (Ne.symm dI) dC eD1, dL, d0⟩
      · exact ⟨k3 _ _ (offI p hp) (offC p hp) (N1 p hp).1, (N1 p hp).2⟩
  have st0 : OUT 0 { s₁ with heap := H3, toks := s₁.toks + ([] : List (Str × Value)).length } := ⟨H3, _, _, [], rfl, by simp, fun k z hz => by simp at hz, FD.keeps old, fun p hp => ⟨old _ _ (kD _ _ (kI _ _ (N p hp).1)), (N p hp).2⟩, hns₁, old _ _ eD, by have := old _ _ (kD _ _ eI); simpa using this⟩
  exact codeAny_compStart_list (OUTER _ st0) (WI.self 0 _ _ _ (by have := old _ _ (kD _ _ eI); simpa using this) (OUTER _ st0))
end
/-! G4 -/
inductive CNext (h₀ : Heap) (L I : Addr) (it : Obj) (s₁ : Shared) (R : (Str → Option Value) → List (Addr × Obj) → Prop) (s₃ : Shared) : Prop
  | mk (h' : Heap) (tk' : Nat) (m' : Str → Option Value) (news' : List (Addr × Obj)) (e : s₃ = { s₁ with heap := h', toks := tk' }) (F : Fr h₀ L h' m') (N : News h₀ L h' ((I, it) :: news')) (off : ∀ p ∈ news', p.1 ≠ I) (r : R m' news') : CNext h₀ L I it s₁ R s₃
/-- what a turn of a loop on the road leaves -/
noncomputable def CTurn (h₀ : Heap) (L I : Addr) (it : Obj) (s₁ : Shared) (R : (Str → Option Value) → List (Addr × Obj) → Prop) (Q : Flow → Shared → Prop) (f : Flow) (s₃ : Shared) : Prop :=
  match f with
  | .ret v => Q (.ret v) s₃
  | .brk => False
  | _ => CNext h₀ L I it s₁ R s₃
section
variable {prog : Program} {w : World} {A : Around} {s : Shared} {env : Env} {h₀ : Heap} {target : Expr} {body : List Stmt} {Q : Flow → Shared → Prop}
inductive ForList (prog : Program) (w : World) (A : Around) (env : Env) (h₀ : Heap) (target : Expr) (body : List Stmt) (Q : Flow → Shared → Prop) (xv : Value) (s₁ : Shared) : Prop
  | mk (ax : Addr) (lo : Obj) (vs : List Value) (n : Nat) (m : Str → Option Value) (news : List (Addr × Obj)) (e : xv = .ref ax) (F : Fr h₀ env.locals s₁.heap m) (N : News h₀ env.locals s₁.heap news) (hm : (ax, lo) ∈ news) (hc : lo.cls = .type "list") (hd : lo.data = .seq (List.toArray vs) n)
    (J : Nat → (Str → Option Value) → List (Addr × Obj) → Prop) (h0 : J 0 m news)
    (step : ∀ I i v m news, vs[i]? = some v → J i m news → (ax, lo) ∈ news → ∀ (it : Obj) h tk, it.cls = .type "list_iterator" → Fr h₀ env.locals h m → News h₀ env.locals h ((I, it) :: news) → (∀ p ∈ news, p.1 ≠ I) →
        wpAny (model prog w) A (assign target env v) (fun _ s₂ => Stop (wpC (model prog w) A (execs body env) (CTurn h₀ env.locals I it s₁ (fun m' n' => (ax, lo) ∈ n' ∧ J (i + 1) m' n') Q) NoE s₂)) NoE { s₁ with heap := h, toks := tk })
    (fin : ∀ m news, J vs.length m news → ∀ h tk, Fr h₀ env.locals h m → News h₀ env.locals h news → Q .next { s₁ with heap := h, toks := tk }) : ForList prog w A env h₀ target body Q xv s₁
inductive ForRange (prog : Program) (w : World) (A : Around) (env : Env) (h₀ : Heap) (x : Str) (px : Pos) (body : List Stmt) (Q : Flow → Shared → Prop) (xv : Value) (s₁ : Shared) : Prop
  | mk (r : Addr) (a b : Int) (t u v : Tok) (n : Nat) (m : Str → Option Value) (news : List (Addr × Obj)) (e : xv = .ref r) (F : Fr h₀ env.locals s₁.heap m) (N : News h₀ env.locals s₁.heap news) (hr : IsRange s₁.heap r a b 1 t u v) (hs : Builtin.Range.small a b 1 = true) (hn : Builtin.Range.rangeSize a b 1 = ((n : Nat) : Int))
    (J : Nat → (Str → Option Value) → List (Addr × Obj) → Prop) (h0 : J 0 m news)
    (step : ∀ I i m news, i < n → J i m news → ∀ (it : Obj) t h tk, it.cls = .type "range_iterator" → Fr h₀ env.locals h m → News h₀ env.locals h ((I, it) :: news) → (∀ p ∈ news, p.1 ≠ I) →
        wpAny (model prog w) A (assign (.Name x px) env (.int (a + (i : Int)) t)) (fun _ s₂ => Stop (wpC (model prog w) A (execs body env) (CTurn h₀ env.locals I it s₁ (J (i + 1)) Q) NoE s₂)) NoE { s₁ with heap := h, toks := tk })
    (fin : ∀ m news, J n m news → ∀ h tk, Fr h₀ env.locals h m → News h₀ env.locals h news → Q .next { s₁ with heap := h, toks := tk }) : ForRange prog w A env h₀ x px body Q xv s₁
theorem c_for_list {E : Value → Shared → Prop} {pos : Pos} {iter : Expr} {m₀ : Str → Option Value} (_F : Fr h₀ env.locals s.heap m₀) (hh : A.handled = none)
    (h : wpAny (model prog w) A (eval iter env) (fun xv s₁ => Stop (ForList prog w A env h₀ target body Q xv s₁)) E s)
    (hs : ∀ x, foldedSetIterable iter env x = pure x := by intro _; rfl) :
    wpC (model prog w) A (exec (.For target iter body [] pos) env) Q E s := by
  refine c_For (wpAny_mono h (fun xv s₁ z => ?_) fun _ _ z => z) hs
  obtain ⟨⟨ax, lo, vs, n, m, news, rfl, F, N, hm, hc, hd, J, h0, step, fin⟩⟩ := z
  have hl : s₁.heap.IsList ax vs.toArray := ⟨lo, (N _ hm).1, hc, n, hd⟩
  refine wpAny_pyIter_list hl ?_
  have eI := Heap.get?_push_size s₁.heap (o := { cls := .type "list_iterator", data := .fields #[.ref ax, .int 0 0] }) rfl
  have kI : ∀ b o, s₁.heap.get? b = some o → (s₁.heap.push { cls := .type "list_iterator", data := .fields #[.ref ax, .int 0 0] }).get? b = some o := fun b o e => Heap.get?_push_of_some _ e
  have nI : s₁.heap.get? s₁.heap.objs.size = none := none_size _
  have FI := F.push { cls := .type "list_iterator", data := .fields #[.ref ax, .int 0 0] }
  generalize s₁.heap.push { cls := .type "list_iterator", data := .fields #[.ref ax, .int 0 0] } = H1 at *
  generalize s₁.heap.objs.size = I at *
  obtain ⟨iL, i0⟩ := new_none F nI
  have off0 : ∀ p ∈ news, p.1 ≠ I := fun p hp e => by have := (N p hp).1; rw [e, nI] at this; cases this
  have hne : ax ≠ I := off0 _ hm
  have W := Walks.list (prog := prog) (w := w) hh I ax hne vs.toArray
  refine codeC_forLoop (fun k s' => ∃ i h tk m news, i ≤ vs.length ∧ k = vs.length - i ∧ s' = { s₁ with heap := h, toks := tk } ∧ Fr h₀ env.locals h m ∧ News h₀ env.locals h news ∧ (ax, lo) ∈ news ∧ (∀ p ∈ news, p.1 ≠ I) ∧ h.IsListIter I ax i ∧ J i m news) ?_ _
    ⟨0, H1, _, m, news, Nat.zero_le _, rfl, rfl, FI, fun p hp => ⟨kI _ _ (N p hp).1, (N p hp).2⟩, hm, off0, ⟨_, eI, rfl, rfl⟩, h0⟩
  rintro k s' ⟨i, h, tk, m, news, hi, rfl, rfl, F1, N1, hm1, off1, it1, hJ⟩
  have hl1 : h.IsList ax vs.toArray := ⟨lo, (N1 _ hm1).1, hc, n, hd⟩
  refine c_any ?_
  by_cases hlt : i < vs.length
  · refine W.item i _ _ _ (by simpa using hlt) ⟨it1, hl1⟩ fun v h2 tk2 hv st2 hk2 => ?_
    obtain ⟨it2, hl2⟩ := st2
    dsimp only
    refine letGo_listiter (s' := { s₁ with heap := h2, toks := tk2 }) it2 ?_
    obtain ⟨it, eit, cit, dit⟩ := it2
    have F2 := LCg.fr_but F1 hk2 (Ne.symm iL) i0
    have N2 := LCg.news_but N1 hk2 off1
    have N2' : News h₀ env.locals h2 ((I, it) :: news) := fun p hp => by
      rcases List.mem_cons.mp hp with rfl | hp
      · exact ⟨eit, iL, i0⟩
      · exact N2 p hp
    refine c_any (wpAny_mono (step I i v m news (by simpa using hv) hJ hm1 it h2 tk2 cit F2 N2' off1) (fun _ s₂ z => c_mono z.out (fun f s₃ z => ?_) fun _ _ z => z) fun _ _ z => z)
    cases f with
    | ret v => exact z
    | brk => exact z.elim
    | next =>
      obtain ⟨h', tk', m', news', rfl, F', N', off', hm', hJ'⟩ := z
      exact ⟨vs.length - (i + 1), Nat.sub_lt_sub_left hlt (Nat.lt_succ_self i), i + 1, h', tk', m', news', hlt, rfl, rfl, F', fun p hp => N' p (.tail _ hp), hm', off', ⟨it, (N' _ (.head _)).1, cit, dit⟩, hJ'⟩
    | cont =>
      obtain ⟨h', tk', m', news', rfl, F', N', off', hm', hJ'⟩ := z
      exact ⟨vs.length - (i + 1), Nat.sub_lt_sub_left hlt (Nat.lt_succ_self i), i + 1, h', tk', m', news', hlt, rfl, rfl, F', fun p hp => N' p (.tail _ hp), hm', off', ⟨it, (N' _ (.head _)).1, cit, dit⟩, hJ'⟩
  · have hi : i = vs.length := by omega
    subst hi
    refine W.done _ _ _ (by simpa using ⟨it1, hl1⟩) fun h2 tk2 hk2 => ?_
    exact fin m news hJ h2 tk2 (LCg.fr_but F1 hk2 (Ne.symm iL) i0) (LCg.news_but N1 hk2 off1)
theorem c_for_range {E : Value → Shared → Prop} {x : Str} {px pos : Pos} {iter : Expr} {m₀ : Str → Option Value} (_F : Fr h₀ env.locals s.heap m₀) (hh : A.handled = none)
    (h : wpAny (model prog w) A (eval iter env) (fun xv s₁ => Stop (ForRange prog w A env h₀ x px body Q xv s₁)) E s)
    (hs : ∀ x, foldedSetIterable iter env x = pure x := by intro _; rfl) :
    wpC (model prog w) A (exec (.For (.Name x px) iter body [] pos) env) Q E s := by
  refine c_For (wpAny_mono h (fun xv s₁ z => ?_) fun _ _ z => z) hs
  obtain ⟨⟨r, a, b, t, u, v, n, m, news, rfl, F, N, hr, hsm, hn, J, h0, step, fin⟩⟩ := z
  refine wpAny_pyIter_range hr hsm ?_
  rw [hn]
  have eI := Heap.get?_push_size s₁.heap (o := { cls := .type "range_iterator", data := .fields #[rawInt a, rawInt ((n : Nat) : Int), rawInt 1] }) rfl
  have kI : ∀ b o, s₁.heap.get? b = some o → (s₁.heap.push { cls := .type "range_iterator", data := .fields #[rawInt a, rawInt ((n : Nat) : Int), rawInt 1] }).get? b = some o := fun b o e => Heap.get?_push_of_some _ e
  have nI : s₁.heap.get? s₁.heap.objs.size = none := none_size _
  have FI := F.push { cls := .type "range_iterator", data := .fields #[rawInt a, rawInt ((n : Nat) : Int), rawInt 1] }
  generalize s₁.heap.push { cls := .type "range_iterator", data := .fields #[rawInt a, rawInt ((n : Nat) : Int), rawInt 1] } = H1 at *
  generalize s₁.heap.objs.size = I at *
  obtain ⟨iL, i0⟩ := new_none F nI
  have off0 : ∀ p ∈ news, p.1 ≠ I := fun p hp e => by have := (N p hp).1; rw [e, nI] at this; cases this
  have W := Walks.range (prog := prog) (w := w) hh I a 1 n
  refine codeC_forLoop (fun k s' => ∃ i h tk m news, i ≤ n ∧ k = n - i ∧ s' = { s₁ with heap := h, toks := tk } ∧ Fr h₀ env.locals h m ∧ News h₀ env.locals h news ∧ (∀ p ∈ news, p.1 ≠ I) ∧ IsRangeIter h I (a + (i : Nat) * 1) ((n : Int) - (i : Nat)) 1 ∧ J i m news) ?_ _
    ⟨0, H1, _, m, news, Nat.zero_le _, rfl, rfl, FI, fun p hp => ⟨kI _ _ (N p hp).1, (N p hp).2⟩, off0, by simpa using eI, h0⟩
  rintro k s' ⟨i, h, tk, m, news, hi, rfl, rfl, F1, N1, off1, it1, hJ⟩
  refine c_any ?_
  by_cases hlt : i < n
  · refine W.item i _ _ _ hlt it1 fun v h2 tk2 hv it2 hk2 => ?_
    obtain ⟨tv, rfl⟩ := hv
    dsimp only
    refine wpAny_of_eq (a := ()) rfl ?_
    have F2 := LCg.fr_but F1 hk2 (Ne.symm iL) i0
    have N2 := LCg.news_but N1 hk2 off1
    rw [Int.mul_one]
    refine c_any (wpAny_mono (step I i m news hlt hJ _ tv h2 tk2 rfl F2 (fun p hp => by
      rcases List.mem_cons.mp hp with e | hp
      · rw [e]; exact ⟨it2, iL, i0⟩
      · exact N2 p hp) off1) (fun _ s₂ z => c_mono z.out (fun f s₃ z => ?_) fun _ _ z => z) fun _ _ z => z)
    cases f with
    | ret v => exact z
    | brk => exact z.elim
    | next =>
      obtain ⟨h', tk', m', news', rfl, F', N', off', hJ'⟩ := z
      exact ⟨n - (i + 1), Nat.sub_lt_sub_left hlt (Nat.lt_succ_self i), i + 1, h', tk', m', news', hlt, rfl, rfl, F', fun p hp => N' p (.tail _ hp), off', (N' _ (.head _)).1, hJ'⟩
    | cont =>
      obtain ⟨h', tk', m', news', rfl, F', N', off', hJ'⟩ := z
      exact ⟨n - (i + 1), Nat.sub_lt_sub_left hlt (Nat.lt_succ_self i), i + 1, h', tk', m', news', hlt, rfl, rfl, F', fun p hp => N' p (.tail _ hp), off', (N' _ (.head _)).1, hJ'⟩
  · have hi : i = n := by omega
    subst hi
    refine W.done _ _ _ it1 fun h2 tk2 hk2 => ?_
    exact fin m news hJ h2 tk2 (LCg.fr_but F1 hk2 (Ne.symm iL) i0) (LCg.news_but N1 hk2 off1)
end

section
variable {M : Model} {A : Around} {E : Value → Shared → Prop} {s : Shared} {env : Env}
theorem ifexp_two {x : Int} {test body orelse : Expr} {pos : Pos} {Q : Value → Shared → Prop}
    (h : wpAny M A (isTrue test env (eval test env)) (fun b s₁ => Stop ((b = true → wpAny M A (eval body env) (fun v s₂ => Stop ((∃ t, v = .int x t) ∧ ∃ tk, s₂ = { s₁ with toks := tk })) E s₁) ∧
      (b = false → wpAny M A (eval orelse env) (fun v s₂ => Stop ((∃ t, v = .int x t) ∧ ∃ tk, s₂ = { s₁ with toks := tk })) E s₁) ∧ ∀ t tk, Q (.int x t) { s₁ with toks := tk })) E s) : wpAny M A (eval (.IfExp test body orelse pos) env) Q E s := by
  refine wpAny_IfExp (wpAny_mono h (fun b s₁ z => ?_) fun _ _ z => z)
  obtain ⟨⟨h1, h2, h3⟩⟩ := z
  cases b
  · exact wpAny_mono (h2 rfl) (fun v s₂ z => by obtain ⟨⟨⟨t, rfl⟩, tk, rfl⟩⟩ := z; exact h3 t tk) fun _ _ z => z
  · exact wpAny_mono (h1 rfl) (fun v s₂ z => by obtain ⟨⟨⟨t, rfl⟩, tk, rfl⟩⟩ := z; exact h3 t tk) fun _ _ z => z
end

/-- a scan, the writers -/
noncomputable def scanL (w : World) (c : Nat → Nat) (x : Nat → Value) (st en lo : Int) : List (Addr × Obj) :=
  [(c 21, instObj 470 (c 22)), (c 22, dictOf (scanE w c x st en lo) 7)]
noncomputable def dcwL (w : World) (c : Nat → Nat) : List (Addr × Obj) :=
  [(c 11, instObj 393 (c 12)), (c 12, dictOf (dcwE w c) 2)]
/-! G5 -/
/-- the writer of a first scan -/
noncomputable def acwL (w : World) (c : Nat → Nat) (run : Int) (tr : Tok) : List (Addr × Obj) :=
  [(c 11, instObj 260 (c 12)), (c 12, dictOf (acwE w c run tr) 4)]
noncomputable def acA (c : Nat → Nat) : List Addr := c 11 :: c 12 :: sinkA c
theorem ac_nd {c : Nat → Nat} (h : (acA c).Nodup) : c 11 ∉ sinkA c ∧ c 12 ∉ sinkA c ∧ (sinkA c).Nodup ∧ @Ne Nat (c 11) (c 12) :=
  have h1 := List.nodup_cons.mp h
  have h2 := List.nodup_cons.mp h1.2
  ⟨fun q => h1.1 (.tail _ q), h2.1, h2.2, fun e => h1.1 (e ▸ .head _)⟩
theorem sink_ac {c : Nat → Nat} : ∀ a ∈ sinkA c, a ∈ acA c := fun _ ha => .tail _ (.tail _ ha)
theorem ac_no {c : Nat → Nat} {l : List (Addr × Obj)} (hD : (acA c).Nodup) (hO : ∀ p ∈ l, p.1 ∉ acA c) : c 12 ∉ sinkA c ++ l.map (·.1) := fun q => (List.mem_append.mp q).elim (ac_nd hD).2.1 fun q => by
  obtain ⟨p, hp, e⟩ := List.mem_map.mp q
  exact hO p hp (e ▸ .tail _ (.head _))
/-- two objects stand before a part that a call has turned, another part stands behind -/
theorem join2 {h₀ h h' : Heap} {L : Addr} {p q : Addr × Obj} {x y z : List (Addr × Obj)} {as : List Addr} (N : News h₀ L h (p :: q :: x)) (k : Kept as h h') (hp : p.1 ∉ as) (hq : q.1 ∉ as) (N' : News h₀ L h' y) (Z : News h₀ L h z) (hz : ∀ p ∈ z, p.1 ∉ as) : News h₀ L h' (p :: q :: (y ++ z)) :=
  keep_cons N k hp (keep_cons (news_tail N) k hq (news_app N' (keep_off Z k hz)))
theorem off_eq {a b : List (Addr × Obj)} {I : Addr} (H : ∀ p ∈ a, p.1 ≠ I) (e : b.map (·.1) = a.map (·.1)) : ∀ p ∈ b, p.1 ≠ I := fun p hp q => by
  have h := List.mem_map_of_mem (f := (·.1)) hp
  rw [e] at h
  obtain ⟨x, hx, hxe⟩ := List.mem_map.mp h
  exact H x hx (hxe.trans q)
theorem off_no {a : List (Addr × Obj)} {I : Addr} (H : ∀ p ∈ a, p.1 ≠ I) : I ∉ a.map (·.1) := fun q => by
  obtain ⟨x, hx, hxe⟩ := List.mem_map.mp q
  exact H x hx hxe
theorem news_mid {h₀ h : Heap} {L : Addr} {a s f r : List (Addr × Obj)} (N : News h₀ L h ((a ++ s) ++ (f ++ r))) : News h₀ L h (a ++ (f ++ (s ++ r))) :=
  news_app (news_left (news_left N)) (news_app (news_left (news_right N)) (news_app (news_right (news_left N)) (news_right (news_right N))))
theorem news_mid' {h₀ h : Heap} {L : Addr} {a s f r : List (Addr × Obj)} (N : News h₀ L h (a ++ (f ++ (s ++ r)))) : News h₀ L h ((a ++ s) ++ (f ++ r)) :=
  news_app (news_app (news_left N) (news_left (news_right (news_right N)))) (news_app (news_left (news_right N)) (news_right (news_right (news_right N))))
theorem bits_is {v : Int} {p : Nat} (h1 : 2 ^ p ≤ v.natAbs) (h2 : v.natAbs < 2 ^ (p + 1)) : Builtin.Int.intBits v = p + 1 := by
  have a := intBits_le_iff.mpr h2
  have b : ¬ Builtin.Int.intBits v ≤ p := fun h => absurd (intBits_le_iff.mp h) (Nat.not_lt.mpr h1)
  exact Nat.le_antisymm a (Nat.not_le.mp b)
theorem neg_abs (v : Int) : (if v < 0 then -v else v) = (v.natAbs : Int) := by
  split
  · next h => rw [Int.ofNat_natAbs_of_nonpos (Int.le_of_lt h)]
  · next h => rw [Int.natAbs_of_nonneg (Int.not_lt.mp h)]
theorem run_room {bl : List Bool} {n : Nat} (hn : n ≤ 90) (hbl : bl.length < 1800) : (bl ++ runBits n).length < 1820 := by
  rw [List.length_append]
  have : (runBits n).length ≤ 12 := by
    unfold runBits
    split
    · simp
    · rw [List.length_append, natBits_length, natBits_length]
      exact Nat.add_le_add_left (log2_le (by assumption) hn) 6
  exact Nat.lt_of_lt_of_le (Nat.add_lt_add_of_lt_of_le hbl this) (by decide)
theorem run_low {n p : Nat} (g1 : 2 ^ p ≤ n) : (0 : Int) ≤ (n : Int) - 2 ^ ((p : Int)).toNat := by rw [Int.toNat_natCast]; have := Int.ofNat_le.mpr g1; push_cast at this; exact Int.sub_nonneg_of_le this
theorem run_high {n p : Nat} (g2 : n < 2 ^ (p + 1)) : (n : Int) - 2 ^ ((p : Int)).toNat < 2 ^ ((p : Int)).toNat := by rw [Int.toNat_natCast]; have := Int.ofNat_lt.mpr g2; push_cast at this; rw [Int.pow_succ, Int.mul_comm, Int.two_mul] at this; exact Int.sub_left_lt_of_lt_add this
theorem run_bits {n p : Nat} : natBits ((p : Int)).toNat ((n : Int) - 2 ^ ((p : Int)).toNat).toNat = natBits p (n - 2 ^ p) := by
  rw [Int.toNat_natCast]; congr 1
  have e : (2 : Int) ^ p = ((2 ^ p : Nat) : Int) := by push_cast; rfl
  rw [e, Int.toNat_sub]
theorem six_room {bl : List Bool} {k m n : Nat} (h : bl.length < m) (hm : m + 6 ≤ n) : (bl ++ natBits 6 k).length < n := by rw [List.length_append, natBits_length]; exact Nat.lt_of_lt_of_le (Nat.add_lt_add_right h 6) hm
/-! G6 -/
section
variable {prog : Program} {w : World} {A : Around} {s : Shared} {R : Result → Shared → Prop} {env : Env}
/-- one turn of a while -/
theorem while_step {test body} (h : wpAny (model prog w) A (isTrue test env (eval test env)) (fun b s₁ => Stop ((b = false → R (.ok .next) s₁) ∧ (b = true →
      wpAny (model prog w) A (execs body env) (fun f s₃ => match f with
            | .next => codeAny (model prog w) A (.whileLoop test body [] env) R s₃
            | .cont => codeAny (model prog w) A (.whileLoop test body [] env) R s₃
            | .brk => R (.ok .next) s₃
            | .ret v => R (.ok (.ret v)) s₃) NoE s₁))) NoE s) : codeAny (model prog w) A (.whileLoop test body [] env) R s := by
  refine codeAny_of_tree ?_
  have e : A.under (.whileLoop test body [] env) = A := Around.under_of_weight rfl
  rw [e]
  show wpAny _ A ((whileTurn test body [] env).onRaise (fun x => do noteFrame x env; theTreesLotGoes x)) _ _ s
  refine wpAny_onRaise (wpAny_mono (Q := fun fin s' => match fin with | .done f => R (.ok f) s' | .again c' => c'.quiet = true ∧ codeAny (model prog w) A c' R s') (E := NoE) ?_ (fun fin _ z => by cases fin <;> exact z) fun _ _ h' => h'.elim)
  simp only [whileTurn]
  refine wpAny_bind (wpAny_mono h (fun b s₁ h₁ => ?_) fun _ _ h' => h')
  have h₁ := h₁.out
  cases b with
  | false => exact wpAny_bind (wpAny_execs_nil (wpAny_pure (h₁.1 rfl)))
  | true =>
    refine wpAny_bind (wpAny_mono (h₁.2 rfl) (fun f s₃ h₃ => ?_) fun _ _ h' => h')
    cases f with
    | next => exact wpAny_pure ⟨rfl, h₃⟩
    | cont => exact wpAny_pure ⟨rfl, h₃⟩
    | brk => exact wpAny_pure h₃
    | ret v => exact wpAny_pure h₃
theorem kk_while {E : Value → Shared → Prop} {test body pos} {Q : Flow → Shared → Prop}
    (h : codeAny (model prog w) A (.whileLoop test body [] env) (fun r s' => match r with | .ok f => Q f s' | .error _ => False) s) : wpAny (model prog w) A (exec (.While test body [] pos) env) Q E s := by
  rw [exec_While]
  refine wpAny_bind (wpAny_standAt ?_)
  refine wpAny_runOwn (codeAny_mono h fun r s' z => ?_)
  cases r with
  | ok f => exact z
  | error e => exact z.elim
end
section
variable {prog : Program} {w : World} {A : Around} {s : Shared} {env : Env}
/-- a while: a datum tells the frame, the ledger and what else holds -/
theorem kk_whileL {σ : Type} {g : Heap} {L : Addr} {test body} {pos : Pos} {Q : Flow → Shared → Prop} (mm : σ → Str → Option Value) (led : σ → List (Addr × Obj)) (J : σ → Prop) (μ : σ → Nat) (x₀ : σ) (F₀ : Fr g L s.heap (mm x₀)) (N₀ : News g L s.heap (led x₀)) (J₀ : J x₀)
    (turn : ∀ x h tk (PP : Flow → Shared → Prop), J x → Fr g L h (mm x) → News g L h (led x) → (∀ y h' tk', J y → μ y < μ x → Fr g L h' (mm y) → News g L h' (led y) → PP .next { s with heap := h', toks := tk' }) → (∀ v s', Q (.ret v) s' → PP (.ret v) s') →
      wpAny (model prog w) A (isTrue test env (eval test env)) (fun b s₁ => Stop ((b = false → Q .next s₁) ∧ (b = true → wpAny (model prog w) A (execs body env) PP NoE s₁))) NoE { s with heap := h, toks := tk }) :
    wpAny (model prog w) A (exec (.While test body [] pos) env) Q NoE s := by
  refine kk_while ?_
  have main : ∀ n, ∀ x h tk, μ x = n → J x → Fr g L h (mm x) → News g L h (led x) → codeAny (model prog w) A (.whileLoop test body [] env) (fun r s' => match r with | .ok f => Q f s' | .error _ => False) { s with heap := h, toks := tk } := by
    intro n
    induction n using Nat.strongRecOn with
    | _ n ih =>
      intro x h tk hn Jx Fx Nx
      refine while_step (wpAny_mono (turn x h tk (fun f s₃ => match f with | .next => ∃ y h' tk', s₃ = { s with heap := h', toks := tk' } ∧ μ y < μ x ∧ J y ∧ Fr g L h' (mm y) ∧ News g L h' (led y) | .ret v => Q (.ret v) s₃ | _ => False) Jx Fx Nx (fun y h' tk' Jy hy Fy Ny => ⟨y, h', tk', rfl, hy, Jy, Fy, Ny⟩) fun v s' z => z) (fun b s₁ z => ⟨z.out.1, fun hb => wpAny_mono (z.out.2 hb) (fun f s₃ y => ?_) fun _ _ y => y⟩) fun _ _ y => y)
      cases f with
      | next => obtain ⟨y, h', tk', rfl, hy, Jy, Fy, Ny⟩ := y; exact ih _ (hn ▸ hy) y h' tk' rfl Jy Fy Ny
      | ret v => exact y
      | brk => exact y.elim
      | cont => exact y.elim
  exact main _ x₀ s.heap s.toks rfl J₀ F₀ N₀
end
structure FreshAt (l : List (Addr × Obj)) (D : Addr) : Prop where
  out : D ∉ l.map (·.1)
theorem fresh_lt {l : List (Addr × Obj)} {D : Nat} (h : ∀ p ∈ l, @LT.lt Nat _ p.1 D) : FreshAt l D := ⟨fun q => by
  obtain ⟨x, hx, e⟩ := List.mem_map.mp q
  exact Nat.ne_of_lt (h x hx) e⟩
/-- what the next row is, and what is left -/
inductive Nxt (ol : List UInt8) (i : Nat) : Nat → Int → Nat → Nat → Prop
  | skip {k} : Nxt ol i (k + 1) 0 i k
  | zeros {n p} : p ≤ 6 → 2 ^ p ≤ n → n < 2 ^ (p + 1) → rbits ol i 6 = natBits 6 p → rbits ol (i + 6) p = natBits p (n - 2 ^ p) → i + 6 + p ≤ 8 * ol.length → Nxt ol i 0 0 (i + 6 + p) (n - 1)
  | val {v : Int} {p} : p ≤ 2 → 2 ^ p ≤ v.natAbs → v.natAbs < 2 ^ (p + 1) → rbits ol i 6 = natBits 6 (10 + p) → rbits ol (i + 6) (p + 1) = natBits (p + 1) (if v < 0 then v + 2 ^ (p + 1) - 1 else v).toNat → rbits ol (i + 6 + (p + 1)) 6 = natBits 6 0 →
      i + 6 + (p + 1) + 6 ≤ 8 * ol.length → Nxt ol i 0 v (i + 6 + (p + 1) + 6) 0
/-- a turn of the reader's loop -/
structure RS where
  kv : Int
  tk : Tok
  us : Option Value
  uz : Option Value
  uw : Option Value
  x : Int
  u : Nat → Tok
  n : Nat
  i : Nat
  t1 : Tok
noncomputable def LZ (ol : List UInt8) (i i' k' : Nat) (n p : Nat) : Prop := p ≤ 6 ∧ 2 ^ p ≤ n ∧ n < 2 ^ (p + 1) ∧ rbits ol i 6 = natBits 6 p ∧ rbits ol (i + 6) p = natBits p (n - 2 ^ p) ∧ i + 6 + p ≤ 8 * ol.length ∧ i' = i + 6 + p ∧ k' = n - 1
noncomputable def LV (ol : List UInt8) (v : Int) (i i' k' : Nat) (p : Nat) : Prop := p ≤ 2 ∧ 2 ^ p ≤ v.natAbs ∧ v.natAbs < 2 ^ (p + 1) ∧ rbits ol i 6 = natBits 6 (10 + p) ∧ rbits ol (i + 6) (p + 1) = natBits (p + 1) (if v < 0 then v + 2 ^ (p + 1) - 1 else v).toNat ∧ rbits ol (i + 6 + (p + 1)) 6 = natBits 6 0 ∧
      i + 6 + (p + 1) + 6 ≤ 8 * ol.length ∧ i' = i + 6 + (p + 1) + 6 ∧ k' = 0
noncomputable def LJ (ol : List UInt8) (v : Int) (i' k' : Nat) (y : RS) : Prop := y.kv ≤ 3 ∧ y.i + 6 ≤ 8 * ol.length ∧ ((y.x = v ∧ ∃ n p, LZ ol y.i i' k' n p) ∨ (y.kv = 1 ∧ y.x = 0 ∧ ∃ p, LV ol v y.i i' k' p))
theorem lj_start {ol : List UInt8} {i : Nat} {v : Int} {i' k' : Nat} (h : Nxt ol i 0 v i' k') {tk : Tok} {us uz uw : Option Value} {u : Nat → Tok} {n : Nat} {t1 : Tok} : LJ ol v i' k' ⟨1, tk, us, uz, uw, 0, u, n, i, t1⟩ := by
  cases h with
  | zeros h1 h2 h3 h4 h5 h6 => exact ⟨(by decide : (1 : Int) ≤ 3), Nat.le_trans (Nat.le_add_right _ _) h6, .inl ⟨rfl, _, _, h1, h2, h3, h4, h5, h6, rfl, rfl⟩⟩
  | val h1 h2 h3 h4 h5 h6 h7 => exact ⟨(by decide : (1 : Int) ≤ 3), Nat.le_trans (Nat.le_trans (Nat.le_add_right _ _) (Nat.le_add_right _ _)) h7, .inr ⟨rfl, rfl, _, h1, h2, h3, h4, h5, h6, h7, rfl, rfl⟩⟩
theorem lj_sym {ol : List UInt8} {v : Int} {i' k' : Nat} {y : RS} (h : LJ ol v i' k' y) : ∃ j, j < 16 ∧ rbits ol y.i 6 = natBits 6 j ∧ ((y.x = v ∧ ∃ n, LZ ol y.i i' k' n j) ∨ (y.kv = 1 ∧ y.x = 0 ∧ ∃ p, j = 10 + p ∧ LV ol v y.i i' k' p)) := by
  obtain ⟨_, _, h | h⟩ := h
  · obtain ⟨hx, n, p, z⟩ := h
    exact ⟨p, Nat.lt_of_le_of_lt z.1 (by decide), z.2.2.2.1, .inl ⟨hx, n, z⟩⟩
  · obtain ⟨hk, hx, p, z⟩ := h
    exact ⟨10 + p, Nat.lt_of_le_of_lt (Nat.add_le_add_left z.1 10) (by decide), z.2.2.2.1, .inr ⟨hk, hx, p, rfl, z⟩⟩
/-- the reader of a first scan -/
noncomputable def acrL (w : World) (d : Nat → Nat) (sc tb rd : Addr) (run : Int) (tr : Tok) : List (Addr × Obj) :=
  [(d 0, instObj 302 (d 1)), (d 1, dictOf (acrE w d sc tb (.ref rd) run tr) 4)]
noncomputable def arA (d b : Nat → Nat) : List Addr := d 0 :: d 1 :: rdA b
noncomputable def readM (m0 : Str → Option Value) (y : RS) : Str → Option Value := fun z => if z = Str.ofString "k" then some (.int y.kv y.tk) else if z = Str.ofString "symbol" then y.us else if z = Str.ofString "zeros" then y.uz else if z = Str.ofString "size" then y.uw else m0 z
noncomputable def readLed (w : World) (d b : Nat → Nat) (sc tb : Addr) (tr : Tok) (ol : List UInt8) (X : List (Addr × Obj)) (D : Addr) (y : RS) : List (Addr × Obj) :=
  (D, listOf #[.int 7 (y.u 0), .int 0 (y.u 1), .int y.x (y.u 2), .int 0 (y.u 3)] y.n) :: ((acrL w d sc tb (b 0) 0 tr ++ readerL w b ol y.i y.t1) ++ X)
theorem fr_eq {g h : Heap} {L : Addr} {m m' : Str → Option Value} (F : Fr g L h m) (e : m = m') : Fr g L h m' := e ▸ F
theorem readM_start {g h : Heap} {L : Addr} {m : Str → Option Value} {kv x : Int} {tk t1 : Tok} {u : Nat → Tok} {n i : Nat} (F : Fr g L h m) (hk : m (Str.ofString "k") = some (.int kv tk)) :
    Fr g L h (readM m ⟨kv, tk, m (Str.ofString "symbol"), m (Str.ofString "zeros"), m (Str.ofString "size"), x, u, n, i, t1⟩) := by
  refine fr_eq F ?_
  unfold readM
  dsimp only
  rw [← hk]
  exact map_same _ (map_same _ (map_same _ (map_same _ rfl)))
theorem fresh_ne {l : List (Addr × Obj)} {D a : Nat} (f : FreshAt l D) (h : a ∈ l.map (·.1)) : @Ne Nat D a := fun e => f.out (e ▸ h)
theorem rd_join {h₀ h h' : Heap} {L D : Addr} {o : Obj} {A R R' X : List (Addr × Obj)} {as : List Addr} (N : News h₀ L h ((D, o) :: ((A ++ R) ++ X))) (k : Kept as h h') (hD : D ∉ as) (hA : ∀ p ∈ A, p.1 ∉ as) (N' : News h₀ L h' R') (hX : ∀ p ∈ X, p.1 ∉ as) : News h₀ L h' ((D, o) :: ((A ++ R') ++ X)) :=
  keep_cons N k hD (news_app (news_app (keep_off (news_left (news_left (news_tail N))) k hA) N') (keep_off (news_right (news_tail N)) k hX))
theorem ar_nd {d b : Nat → Nat} (h : (arA d b).Nodup) : @Ne Nat (d 0) (d 1) ∧ d 0 ∉ rdA b ∧ d 1 ∉ rdA b ∧ @Ne Nat (b 0) (b 1) :=
  have h1 := List.nodup_cons.mp h
  have h2 := List.nodup_cons.mp h1.2
  have h3 := List.nodup_cons.mp h2.2
  ⟨fun e => h1.1 (e ▸ .head _), fun q => h1.1 (.tail _ q), h2.1, fun e => h3.1 (e ▸ .head _)⟩
theorem ar_no {d b : Nat → Nat} {l : List (Addr × Obj)} (hD : (arA d b).Nodup) (hO : ∀ p ∈ l, p.1 ∉ arA d b) : d 1 ∉ rdA b ++ l.map (·.1) := fun q => (List.mem_append.mp q).elim (ar_nd hD).2.2.1 fun q => by
  obtain ⟨p, hp, e⟩ := List.mem_map.mp q
  exact hO p hp (e ▸ .tail _ (.head _))
theorem acr_off {w : World} {d b : Nat → Nat} {sc tb rd : Addr} {run : Int} {tr : Tok} (hD : (arA d b).Nodup) : ∀ p ∈ acrL w d sc tb rd run tr, p.1 ∉ rdA b :=
  (fm ((ar_nd hD).2.1) (fm ((ar_nd hD).2.2.1) (List.forall_mem_nil _)))
theorem fresh_rd {w : World} {d b : Nat → Nat} {sc tb rd : Addr} {ol : List UInt8} {run : Int} {tr t : Tok} {i : Nat} {X : List (Addr × Obj)} {D : Addr} (f : FreshAt ((acrL w d sc tb rd run tr ++ readerL w b ol i t) ++ X) D) : D ∉ rdA b := fun q => f.out (by
  rw [List.map_append, List.map_append]
  exact List.mem_append_left _ (List.mem_append_right _ q))
theorem sym_sh : ∀ p : Nat, p ≤ 6 → (symAt p).fdiv (2 ^ (4 : Int).toNat) = (p : Int) ∧ Builtin.bitAnd (symAt p) 15 = 0 := by
  exact fun p hp => (by decide +kernel : ∀ p : Fin 7, (symAt p.val).fdiv (2 ^ (4 : Int).toNat) = (p.val : Int) ∧ Builtin.bitAnd (symAt p.val) 15 = 0) ⟨p, Nat.lt_succ_of_le hp⟩
theorem sym_sv : ∀ p : Nat, p ≤ 2 → (symAt (10 + p)).fdiv (2 ^ (4 : Int).toNat) = 1 ∧ Builtin.bitAnd (symAt (10 + p)) 15 = ((p + 1 : Nat) : Int) := by
  exact fun p hp => (by decide +kernel : ∀ p : Fin 3, (symAt (10 + p.val)).fdiv (2 ^ (4 : Int).toNat) = 1 ∧ Builtin.bitAnd (symAt (10 + p.val)) 15 = ((p.val + 1 : Nat) : Int)) ⟨p, Nat.lt_succ_of_le hp⟩
/-! G7 -/
section
open PySem.F PySem.Builtin PySem.Builtin.ObjectAttr
noncomputable abbrev excObj (C t : Addr) (dd : Option Addr) : Obj := { cls := .ref C, dict := dd, data := .fields #[.ref t, .none, .none, .none, .bool false, .none] }
noncomputable abbrev NEx : String := "Exception.__new__"
section
variable {prog : Program} {w : World} {A : Around} {E : Value → Shared → Prop} {R : Result → Shared → Prop} {h : Heap} {g : Array GenState} {d : Drawn} {t : Nat} {os : OsState}
variable {nm q : Str} {C N : Addr} {bs bm : List Value} {hdct : Bool} {sn : List Str} {sub : List Value} {ab : Bool} {col : Option Bool} {dd : Option Addr} {k0 k1 k2 k3 k5 : Option Value}
theorem ex_check_new {M : Model} (hcont : (Value.ref C :: bm).contains (.type "Exception") = true) {rest : List Value} {Q : Unit → Shared → Prop} (hC : h.get? C = some (excClassObj nm q C N bs bm hdct sn sub ab col dd k0 k1 k2 k3 k5 NEx))
    (hq : Q () ⟨h, g, d, t, os⟩) : wpAny M A (checkBuiltinCall NEx ⟨.ref C :: rest, []⟩) Q E ⟨h, g, d, t, os⟩ := by
  have F := excBase_Exception
  have hstar := F.noStar
  simp only [checkBuiltinCall, F.newKind, F.newSplit, F.newRow]
  repeat (first | refine wpAny_loadPart_at hC ?_ | (refine wpAny_isSubtype_exc hC ?_; rw [hcont]) | refine wpAny_staticBase_exc hC ?_ | refine wpAny_madeBy_exc hC ?_ | simp only [bne_self_eq_false, Bool.false_eq_true, if_false] | wp_step)
  exact hq
theorem ex_new (hcB : (Value.ref C :: bm).contains (.type "Exception") = true) (hcA : (Value.ref C :: bm).contains (.type "AttributeError") = false) (hcN : (Value.ref C :: bm).contains (.type "NameError") = false) {rest : List Value}
    (hC : h.get? C = some (excClassObj nm q C N bs bm hdct sn sub ab col dd k0 k1 k2 k3 k5 NEx))
    (hq : R (.ok (.ret (.ref (h.objs.size + 1)))) ⟨(h.push { cls := .type "tuple", data := .seq rest.toArray }).push (excObj C h.objs.size none), g, d, t, os⟩) (hrest : rest.length ≤ sizeLine) :
    codeAny (model prog w) A (.builtin NEx ⟨.ref C :: rest, []⟩) R ⟨h, g, d, t, os⟩ := by
  have F := excBase_Exception
  have hends := F.ends
  refine codeAny_builtinAt F.entry ?_
  unfold Builtin.«BaseException.__new__»
  refine PySem.wpAt_bind ?_
  show PySem.wpAt _ _ _ (stack >>= _) _ _ _
  refine PySem.wpAt_bind (PySem.wpAt_stack fun p below => PySem.wpAt_of_wpAny ?_)
  wp_walk
  refine PySem.wpAt_of_wpAny ?_
  rw [F.owner]
  repeat (first | with_reducible refine wpAny_madeHere_exc F.canon hC ?_ | with_reducible refine wpAny_loadPart_at hC ?_ | (with_reducible refine wpAny_isSubtype_exc hC ?_; first | rw [hcB] | rw [hcA] | rw [hcN]) | wp_step)
  show R _ _
  rw [Heap.size_push]
  exact hq
theorem ex_make {rest : List Value} {fI : Addr} (hcB : (Value.ref C :: bm).contains (.type "Exception") = true) (hcA : (Value.ref C :: bm).contains (.type "AttributeError") = false) (hcN : (Value.ref C :: bm).contains (.type "NameError") = false)
    (hC : h.get? C = some (excClassObj nm q C N bs bm hdct sn sub ab col dd k0 k1 k2 k3 k5 NEx)) (hi : Looks (model prog w) h (typeLookup (.ref C) "__init__") (some (.ref fI))) (hb : ∀ self, Looks (model prog w) h (bindSpecial (.ref fI) self) (.ref fI, [self]))
    (hrest : rest.length ≤ sizeLine)
    (hq : codeAny (model prog w) (A.under (.builtin "type.__call__" ⟨.ref C :: rest, []⟩)) (.call (.ref fI) ⟨.ref (h.objs.size + 1) :: rest, []⟩) (InitBack (h.objs.size + 1) R)
      ⟨(h.push { cls := .type "tuple", data := .seq rest.toArray }).push (excObj C h.objs.size none), g, d, t, os⟩) :
    codeAny (model prog w) A (.call (.ref C) ⟨rest, []⟩) R ⟨h, g, d, t, os⟩ := by
  have Fn := excBase_Exception
  have f1 := tc_lookup
  have f2 := tc_bind (.ref C)
  have hT : (⟨h, g, d, t, os⟩ : Shared).TypeIs (.ref C) "type" := ⟨_, hC, rfl⟩
  refine codeAny_of_tree ?_
  show wpAny _ _ (callAny (.ref C) _) _ _ _
  repeat (any_goals (first | assumption | with_reducible refine wpAny_loadPart_at hC ?_ | wp_step))
  refine ⟨rfl, ?_⟩
  refine codeAny_call_builtin_at (Code.quiet_builtin _ (by decide +kernel)) entry_typeCall (wpAny_check_type_call_sub hC ?_)
  repeat (first | with_reducible refine wpAny_loadPart_at hC ?_ | with_reducible refine wpAny_madeBy_exc hC ?_ | wp_step)
  refine codeAny_call_builtin_code (Code.quiet_builtin _ Fn.quiet) (ex_check_new hcB hC ?_)
  refine ex_new hcB hcA hcN hC ?_ hrest
  show wpAny _ _ _ _ _ _
  have k : ∀ b o, h.get? b = some o → ((h.push { cls := .type "tuple", data := .seq rest.toArray }).push (excObj C h.objs.size none)).get? b = some o := fun b o e => Heap.get?_push_of_some _ (Heap.get?_push_of_some _ e)
  have hC₁ := k _ _ hC
  have hget : ((h.push { cls := .type "tuple", data := .seq rest.toArray }).push (excObj C h.objs.size none)).get? (h.objs.size + 1) = some (excObj C h.objs.size none) := by heap_get
  have hcC : (Value.ref C :: bm).contains (.ref C) = true := by simp
  have t1 : Looks (model prog w) ((h.push { cls := .type "tuple", data := .seq rest.toArray }).push (excObj C h.objs.size none)) (typeOf (.ref (h.objs.size + 1))) (.ref C) := (Looks.ld hget).andThen .now
  have ii : Looks (model prog w) ((h.push { cls := .type "tuple", data := .seq rest.toArray }).push (excObj C h.objs.size none)) (isInstance (.ref (h.objs.size + 1)) (.ref C)) true := t1.andThen fun A Q E s kk qq => by
    obtain ⟨h9, g9, d9, t9, o9⟩ := s
    exact wpAny_isSubtype_exc (kk _ _ hC₁) (by rw [hcC]; exact qq)
  refine wpAny_bind (ii.at ?_)
  simp only [Bool.not_true, Bool.false_eq_true, if_false]
  unfold callSpecial? specialOf
  refine wpAny_bind (wpAny_holding (wpAny_bind (wpAny_bind (t1.at ((hi.keeps k).at ?_)))))
  dsimp only
  refine wpAny_holding (wpAny_bind (((hb (.ref (h.objs.size + 1))).keeps k).at ?_))
  refine wpAny_bind (wpAny_call (codeAny_mono hq fun r s' z => ?_))
  rcases r with e | (v | _ | _ | _) <;> first | exact z | exact z.elim | skip
  obtain ⟨rfl, z⟩ := z
  exact wpAny_pure (wpAny_pure z)
end
section
variable {prog : Program} {w : World} {A : Around} {E : Value → Shared → Prop} {s : Shared} {h₀ : Heap} {L e t₀ : Addr} {m : Str → Option Value} {rest : List (Addr × Obj)}
variable {nm q : Str} {C N : Addr} {bs bm : List Value} {hdct : Bool} {sn : List Str} {sub : List Value} {ab : Bool} {col : Option Bool} {dd : Option Addr} {k0 k1 k2 k3 k5 : Option Value}
theorem ex_check_init {M : Model} {oe : Obj} {r : List Value} {Q : Unit → Shared → Prop} {h : Heap} {g : Array GenState} {d : Drawn} {t : Nat} {os : OsState} (hcB : (Value.ref C :: bm).contains (.type "Exception") = true)
    (hC : h.get? C = some (excClassObj nm q C N bs bm hdct sn sub ab col dd k0 k1 k2 k3 k5 NEx)) (he : h.get? e = some oe) (hcls : oe.cls = .ref C) (hq : Q () ⟨h, g, d, t, os⟩) :
    wpAny M A (checkBuiltinCall "Exception.__init__" ⟨.ref e :: r, []⟩) Q E ⟨h, g, d, t, os⟩ := by
  have F := excBase_Exception
  have hshort := F.noStar
  simp only [checkBuiltinCall, F.initKind, F.initSplit, F.initRow]
  repeat (first | (with_reducible refine wpAny_loadPart_at he ?_; rw [hcls]) | with_reducible refine wpAny_loadPart_at hC ?_ | (with_reducible refine wpAny_isSubtype_exc hC ?_; rw [hcB]) | wp_step)
  refine wpAny_onRaise ?_
  rw [show ∀ (a b : String) (n : Nat), Bind.check ⟨.positional, "*", "Exception", .self, [⟨"args", .varPos, false⟩]⟩ a b n (List.map (fun x => x.fst) ({ pos := Value.ref e :: r } : Args).kw) = pure () from
    fun a b n => check_star_args _ _ _ _ _ _]
  exact wpAny_pure hq
theorem ex_init {NN : Addr} {dx : Option Addr} {v : Value} {Q : Value → Shared → Prop} (F : Fr h₀ L s.heap m) (N : News h₀ L s.heap ((e, excObj C t₀ dx) :: rest)) (hcB : (Value.ref C :: bm).contains (.type "Exception") = true)
    (hC : s.heap.get? C = some (excClassObj nm q C NN bs bm hdct sn sub ab col dd k0 k1 k2 k3 k5 NEx)) (off : ∀ p ∈ rest, p.1 ≠ e)
    (h : ∀ t1 h', Fr h₀ L h' m → News h₀ L h' ((e, excObj C t1 dx) :: rest) → Q .none { s with heap := h' }) : wpAny (model prog w) A (call (.builtin "Exception.__init__") [.ref e, v]) Q E s := by
  obtain ⟨hp, g, d, t, os⟩ := s
  have he := (N _ (.head _)).1
  refine wpAny_call (codeAny_call_builtin excBase_Exception.init.plain excBase_Exception.initEntry (ex_check_init hcB hC he rfl ?_))
  wp_walk
  have k : ∀ b o, hp.get? b = some o → (hp.push { cls := .type "tuple", data := .seq [v].toArray }).get? b = some o := fun b o e => Heap.get?_push_of_some _ e
  have F1 := F.push { cls := .type "tuple", data := .seq [v].toArray }
  have N1 : News h₀ L (hp.push { cls := .type "tuple", data := .seq [v].toArray }) ((e, excObj C t₀ dx) :: rest) := N.grown k
  have hs := Heap.SameBut.update (hp.push { cls := .type "tuple", data := .seq [v].toArray }) e (Obj.mapFields (·.setIfInBounds 0 (.ref hp.objs.size)))
  have hg := Heap.get?_update_self (Obj.mapFields (·.setIfInBounds 0 (.ref hp.objs.size))) (k _ _ he) rfl
  refine h hp.objs.size _ (F1.change hs (N1 _ (.head _)).2.1 (N1 _ (.head _)).2.2) fun p hp' => ?_
  rcases List.mem_cons.mp hp' with rfl | hp'
  · exact ⟨hg, (N1 _ (.head _)).2⟩
  · exact ⟨hs.extBut _ _ (off p hp') (N1 p (.tail _ hp')).1, (N1 p (.tail _ hp')).2⟩
end
section
variable {prog : Program} {w : World} {A : Around} {E : Value → Shared → Prop} {s : Shared} {h₀ : Heap} {L e t₀ C : Addr} {m : Str → Option Value} {rest : List (Addr × Obj)} {K : Frag} {cd : ClassData} {name : Str} {v : Value}
theorem ex_set {Q : Unit → Shared → Prop} (F : Fr h₀ L s.heap m) (N : News h₀ L s.heap ((e, excObj C t₀ none) :: rest)) (X : K.In s.heap) (hs : findIn K (.ref C) "__setattr__" = some (some (.builtin "object.__setattr__")))
    (hcl : clsIn K C = some cd) (hmro : refuseLoop (.ref e) "__setattr__" cd.mro = pure ()) (hobj : cd.mro.contains (.type "object") = true) (hne : cd.mro.isEmpty = false) (hdict : cd.hasDict = true) (ht : takerIn K C name = some none) (off : ∀ p ∈ rest, p.1 ≠ e)
    (h : ∀ d1 h' tk, Fr h₀ L h' m → News h₀ L h' ((e, excObj C t₀ (some d1)) :: rest) → Q () { s with heap := h', toks := tk }) : wpAny (model prog w) A (setAttr (.ref e) name v) Q E s := by
  obtain ⟨hp, g, d, tk, os⟩ := s
  dsimp only at F N X h
  have he := (N _ (.head _)).1
  have I : InstAt hp e (excObj C t₀ none) C none := ⟨he, rfl, rfl, trivial⟩
  refine set_plain X I hs ?_
  have SF := PySem.F.store_object
  have sub : Looks (model prog w) hp (isInstance (.ref e) (.type "object")) true := I.type.andThen (looks_mroIn X (by unfold mroIn; rw [hcl, Option.bind_some, if_neg (by rw [hne]; decide), hobj]))
  refine codeAny_call_builtin SF.slot.plain SF.entry (@check_slot (model prog w) _ _ ⟨hp, g, d, tk + 1, os⟩ "object.__setattr__" "object" "__setattr__" (.ref e) [.str name tk, v] [] _ SF.kind SF.split sub (SF.args (.ref e) (.str name tk) v) ?_)
  obtain ⟨attr, ha, hr⟩ := Option.bind_eq_some_iff.mp ht
  have hm : Looks (model prog w) hp (mroOf (.ref C)) cd.mro := (looks_clsIn X hcl).andThen .now
  have L3 : Looks (model prog w) hp (storeTaker? attr) none := by
    cases attr with
    | none => exact .now
    | some a =>
      obtain ⟨b, hb, hn⟩ := Option.map_eq_some_iff.mp hr
      refine (looks_takesIn X hb).andThen ?_
      cases b
      · exact .now
      · cases hn
  rw [osa_eq, refuse_eq]
  refine wpAny_bind (wpAny_bind (I.type.at (wpAny_bind (hm.at ?_))))
  rw [hmro]
  refine wpAny_pure (wpAny_bind (I.type.at (wpAny_bind ((looks_findIn X ha).at (wpAny_bind (L3.at ?_))))))
  show wpAny _ _ (storeInOwnDict (.ref e) (.ref C) (.str name tk) name v _) _ _ _
  unfold storeInOwnDict
  refine wpAny_bind (wpAny_pure (wpAny_bind ?_))
  show wpAny _ _ (instanceDict e true) _ _ _
  unfold instanceDict
  refine wpAny_bind (wpAny_loadPart he ?_)
  dsimp only
  refine wpAny_bind ((looks_clsIn X hcl).at ?_)
  rw [hdict]
  have hx₁ : (hp.push { cls := .type "dict", data := .dict #[] }).get? e = some (excObj C t₀ none) := Heap.get?_push_of_some _ he
  have hxs : e ≠ hp.objs.size := Nat.ne_of_lt (Heap.lt_size he)
  refine wpAny_bind (wpAny_alloc' ?_)
  refine wpAny_bind (wpAny_update' hx₁ ?_)
  refine wpAny_pure ?_
  have hgd : ((hp.push { cls := .type "dict", data := .dict #[] }).update e fun o => { cls := o.cls, dict := some hp.objs.size, data := o.data, slots := o.slots }).get? hp.objs.size
      = some { cls := .type "dict", data := .dict #[] } :=
    (Heap.get?_update_ne _ _ _ _ hxs.symm).trans (Heap.get?_push_at rfl rfl)
  have hnd : ((hp.push { cls := .type "dict", data := .dict #[] }).update e fun o => { cls := o.cls, dict := some hp.objs.size, data := o.data, slots := o.slots }).Ns hp.objs.size (fun _ => none) :=
    ⟨_, #[], _, hgd, rfl, fun e he => absurd he (by simp), fun _ => rfl⟩
  show wpAny _ _ (storeInDict hp.objs.size (.str name tk) name v) _ _ _
  unfold storeInDict newKeyGuard
  refine wpAny_bind (wpAny_pure (wpAny_bind (wpAny_nsSet1 (Heap.Ns1.of_empty hnd) fun h' hn' hs' => ?_)))
  obtain ⟨oD, esD, epD, hoD, hdD, hcD⟩ := hn'.count (Within.cons name v Within.nil)
  refine wpAny_bind (wpAny_lookBehind hoD (by rw [hdD]; exact pastItsLine_dict (Nat.le_trans hcD (by rw [List.length_cons, List.length_nil, sizeLine_eq]; omega))) ?_)
  wp_walk
  have F1 := (F.push { cls := .type "dict", data := .dict #[] }).change (Heap.SameBut.update _ e fun o => { cls := o.cls, dict := some hp.objs.size, data := o.data, slots := o.slots }) (N _ (.head _)).2.1 (N _ (.head _)).2.2
  have nD := new_none F (none_size hp)
  have F2 := F1.change hs' nD.1 nD.2
  have hx' : h'.get? e = some (excObj C t₀ (some hp.objs.size)) := (hs'.2 e hxs).trans (Heap.get?_update_self _ hx₁ rfl)
  refine h hp.objs.size h' _ F2 fun p hp' => ?_
  rcases List.mem_cons.mp hp' with rfl | hp'
  · exact ⟨hx', (N _ (.head _)).2⟩
  · refine ⟨(hs'.2 p.1 (Nat.ne_of_lt (Heap.lt_size (N p (.tail _ hp')).1))).trans ((Heap.get?_update_ne _ _ _ _ (off p hp')).trans (Heap.get?_push_of_some _ (N p (.tail _ hp')).1)), (N p (.tail _ hp')).2⟩
end
end
/-! G8 -/
section
open PySem.F
/-- an exception class of the text's own whose root has an own __init__ -/
structure ExcOk (K : Frag) (C : Addr) : Prop where
  obj : ∃ nm q N bs bm hdct sn sub ab col dd k0 k1 k2 k3 k5, K.lookup C = some (excClassObj nm q C N bs bm hdct sn sub ab col dd k0 k1 k2 k3 k5 NEx) ∧ (Value.ref C :: bm).contains (.type "Exception") = true ∧
    (Value.ref C :: bm).contains (.type "AttributeError") = false ∧ (Value.ref C :: bm).contains (.type "NameError") = false ∧ bm.contains (.type "BaseException") = true
  sa : findIn K (.ref C) "__setattr__" = some (some (.builtin "object.__setattr__"))
  cl : ∃ cd, clsIn K C = some cd ∧ (∀ e, refuseLoop (.ref e) "__setattr__" cd.mro = pure ()) ∧ cd.mro.contains (.type "object") = true ∧ cd.mro.isEmpty = false ∧ cd.hasDict = true
  tk : takerIn K C "message" = some none
  ini : findIn K (.ref C) "__init__" = some (some (.ref 35))
  fn : typeIn K (.ref 35) = some (.type "function")
theorem refuse_exc (e : Addr) : refuseLoop (.ref e) "__setattr__" [.type "Exception", .type "BaseException", .type "object"] = pure () := PySem.F.store_Exception.passes _
theorem exc_code (P : Params) : ExcOk (hd.heap_1 P) 63 := by
  refine ⟨⟨_, _, _, _, _, _, _, _, _, _, _, _, _, _, _, _, rfl, by decide +kernel, by decide +kernel, by decide +kernel, by decide +kernel⟩, rfl, ⟨_, rfl, fun e => ?_, by decide +kernel, rfl, rfl⟩, rfl, rfl, rfl⟩
  show refuseLoop (.ref e) "__setattr__" (.ref 63 :: .ref 38 :: _) = _
  rw [refuseLoop_ref, refuseLoop_ref]
  exact refuse_exc e
theorem exc_cut (P : Params) : ExcOk (hd.heap_1 P) 75 := by
  refine ⟨⟨_, _, _, _, _, _, _, _, _, _, _, _, _, _, _, _, rfl, by decide +kernel, by decide +kernel, by decide +kernel, by decide +kernel⟩, rfl, ⟨_, rfl, fun e => ?_, by decide +kernel, rfl, rfl⟩, rfl, rfl, rfl⟩
  show refuseLoop (.ref e) "__setattr__" (.ref 75 :: .ref 38 :: _) = _
  rw [refuseLoop_ref, refuseLoop_ref]
  exact refuse_exc e
theorem type_Exc : typeOf (.type "Exception") = pure (.type "type") := by with_unfolding_all rfl
/-- an exception that the frame holds, laid behind the raise -/
structure Thrown (h₀ : Heap) (L : Addr) (h : Heap) (e C : Addr) (news : List (Addr × Obj)) : Prop where
  mk :: (at_ : ∃ t dd, News h₀ L h [(e, excObj C t dd)]) (nw : News h₀ L h news) (off : ∀ p ∈ news, p.1 ≠ e)
section
variable {M : Model} {A : Around} {E : Value → Shared → Prop} {s' : Shared} {base g h : Heap} {outer : List Env} {L a e C : Addr} {m : Str → Option Value} {name : Str} {scope : Scope} {cd : Value} {Q : Unit → Shared → Prop} {news : List (Addr × Obj)}
end
section
variable {prog : Program} {w : World} {A₀ : Around} {E : Value → Shared → Prop} {s' : Shared} {h₀ h : Heap} {outer : List Env} {L a e : Addr} {m : Str → Option Value} {name : Str} {scope : Scope} {cd : Value}
  {b₀ : Stmt} {suite : List Stmt} {pos np : Pos} {rest : List ExceptHandler} {Q : Flow → Shared → Prop} {news : List (Addr × Obj)} {KF : Frag} {C : Addr}
  {p : Program} {loose : List Str} {mg mb : Str → Option Value} {x : Str}
end
section
variable {prog : Program} {w : World} {A : Around} {E : Value → Shared → Prop} {s : Shared} {env : Env} {K : Frag} {C : Addr}
theorem ex_raise {h₀ : Heap} {x : Str} {np cpos pos : Pos} {args : List Expr} {Q : Flow → Shared → Prop} (_X : K.In h₀) (q : ExcOk K C) (hh : A.handled = none)
    (h : wpAny (model prog w) A (eval (.Call (.Name x np) args [] cpos) env) (fun v s₁ => Stop (∃ e t dd, v = .ref e ∧ K.In s₁.heap ∧ s₁.heap.get? e = some (excObj C t dd) ∧ E (.ref e) s₁)) E s) :
    wpAny (model prog w) A (exec (.Raise (some (.Call (.Name x np) args [] cpos)) none pos) env) Q E s := by
  rw [arm_exec_Raise]
  show wpAny _ _ (standAt pos >>= fun _ => raiseStmt env (some (eval (.Call (.Name x np) args [] cpos) env >>= fun v => standAt pos >>= fun _ => pure v)) none) _ _ _
  refine wpAny_bind (wpAny_standAt ?_)
  unfold raiseStmt
  refine wpAny_bind (wpAny_bind (wpAny_mono h (fun v s₁ z => wpAny_bind (wpAny_standAt (wpAny_pure ?_))) fun _ _ z => z))
  obtain ⟨⟨e, t, dd, rfl, X, he, hE⟩⟩ := z
  refine hideG fun G9 hG9 => ?_
  obtain ⟨⟨nm, qn, N, bs, bm, hdct, sn, sub, ab, col, dd', k0, k1, k2, k3, k5, hC, _, _, _, hbase⟩, _⟩ := q
  refine hG9 ?_
  clear hG9 G9
  have hC := X _ _ hC
  have hcB : (Value.ref C :: bm).contains (.type "BaseException") = true := by rw [List.contains_cons, hbase, Bool.or_true]
  refine hideG fun G9 hG9 => ?_
  obtain ⟨hp, g, d, tk, os⟩ := s₁
  refine hG9 ?_
  clear hG9 G9
  repeat (first | (with_reducible refine wpAny_loadPart_at he ?_; dsimp only [excObj]) | with_reducible refine wpAny_loadPart_at hC ?_ | (with_reducible refine wpAny_isSubtype_exc hC ?_; rw [hcB]) | wp_step)
  exact wpAny_raiseNew_none hh hE
end
end
/-! G9 -/
/-- the reader of a first scan, before a start -/
noncomputable def acr0 (w : World) (d : Nat → Nat) (sc tb : Addr) (tr : Tok) : List (Addr × Obj) :=
  [(d 0, instObj 302 (d 1)), (d 1, dictOf (acrE w d sc tb (.none) 0 tr) 4)]
theorem tab_item2 {prog : Program} {w : World} {A : Around} {E : Value → Shared → Prop} {s : Shared} {h₀ : Heap} {L d a ka H : Addr} {o : Obj} {news : List (Addr × Obj)} {value slice : Expr} {t : Tok × Tok} {u1 u2 : Tok} {Q : Value → Shared → Prop} (N : News h₀ L s.heap news) (hd : (d, o) ∈ news) (x : TabObj prog w ka H o) (hka : (ka, keyObj t) ∈ news) (hk : (a, tupObj [.int 1 u1, .int 0 u2]) ∈ news) (hu : A.units + 1 < cLine)
    (h : Q (.ref H) { s with toks := s.toks + 3 })
    (hs : subscripted slice false (.ref d) (.ref a) = operate [.ref d, .ref a] (getItem (.ref d) (.ref a)) := by with_unfolding_all rfl) (hg : ∀ r, letTemporaryGo value (.ref d) r = pure () := by intro _; with_unfolding_all rfl) :
    wpAny (model prog w) A (subscriptTail value slice (.ref d) (.ref a)) Q E s := tab_item (t' := (u1, u2)) N hd x hka hk hu h hs hg
theorem nd4 {d b : Nat → Nat} (h1 : @Ne Nat (d 0) (d 1)) (h2 : @Ne Nat (d 0) (b 0)) (h3 : @Ne Nat (d 0) (b 1)) (h4 : @Ne Nat (d 1) (b 0)) (h5 : @Ne Nat (d 1) (b 1)) (h6 : @Ne Nat (b 0) (b 1)) : (arA d b).Nodup := by
  unfold arA rdA
  simp only [List.nodup_cons, List.mem_cons, List.not_mem_nil, or_false, not_or, List.nodup_nil, not_false_eq_true, and_true]
  exact ⟨⟨h1, h2, h3⟩, ⟨h4, h5⟩, h6⟩
theorem cls_off {h₀ h : Heap} {L a : Addr} {o : Obj} {as : List Addr} {big : List (Addr × Obj)} (N : News h₀ L h big) (hm : (a, o) ∈ big) (H : ∀ x ∈ as, ∃ o', (x, o') ∈ big ∧ o'.cls ≠ o.cls) : a ∉ as := fun q => by
  obtain ⟨o', h1, h2⟩ := H a q
  exact h2 (congrArg Obj.cls (Option.some.inj ((N _ h1).1.symm.trans (N _ hm).1)))
/-! G10 -/
section
open PySem.F
section
variable {M : Model} {A : Around} {E : Value → Shared → Prop} {s' : Shared} {base g h : Heap} {outer : List Env} {L a e C : Addr} {m : Str → Option Value} {name : Str} {scope : Scope} {cd : Value} {Q : Unit → Shared → Prop} {news : List (Addr × Obj)}
theorem leave_ownS (K : Below A base outer g) (F : Fr g L s'.heap m) (T : Thrown g L s'.heap e C news)
    (hQ : ∀ h', RaisedSN base g outer e (.ref C) news h' → g.UpToSlots h' → Q () { s' with heap := h' }) (hk : scope.kind = .function := by rfl) :
    wpAny M (A.deeper (envOf name scope L a cd)) (leaving (envOf name scope L a cd) (.ref e)) Q E s' := by
  refine hideG fun G9 hG9 => ?_
  obtain ⟨⟨t, dd, NE⟩, N, off⟩ := T
  refine hG9 ?_
  clear hG9 G9
  have he := NE _ (.head _)
  have K' := K.push (name := name) (a := a) (cd := cd) F hk
  have hin : ∀ env ∈ (envOf name scope L a cd :: outer), ∀ b, env.frame = some b → b ∈ e :: (envOf name scope L a cd :: outer).filterMap (·.frame) := fun env he b hb => .tail _ (List.mem_filterMap.mpr ⟨env, he, hb⟩)
  have hb0 : base.get? e = none := fresh_of_stays K.stays he.2.2
  have st : base.StaysIn (hideAll s'.heap (e :: (envOf name scope L a cd :: outer).filterMap (·.frame))) := fun b o q => hideAll_get _ (K'.stays b o q) fun hm => by
    rcases List.mem_cons.mp hm with hm | hm
    · rw [hm, hb0] at q; cases q
    · rw [(K'.frames.mem hm).1] at q; cases q
  have sg : ∀ b o, g.get? b = some o → b ∉ outer.filterMap (·.frame) → (hideAll s'.heap (e :: (envOf name scope L a cd :: outer).filterMap (·.frame))).get? b = some o := fun b o q nm => hideAll_get _ (F.keep b o q) fun hm => by
    rcases List.mem_cons.mp hm with hm | hm
    · rw [hm, he.2.2] at q; cases q
    rcases kts_mem hm with z | z
    · rw [z, kts_self F] at q
      cases q
    · exact nm z
  have hl : ∀ q ∈ news, (hideAll s'.heap (e :: (envOf name scope L a cd :: outer).filterMap (·.frame))).get? q.1 = some q.2 ∧ g.get? q.1 = none ∧ base.get? q.1 = none := fun q hq => by
    refine ⟨hideAll_get _ (N q hq).1 fun hm => ?_, (N q hq).2.2, fresh_of_stays K.stays (N q hq).2.2⟩
    rcases List.mem_cons.mp hm with hm | hm
    · exact off q hq hm
    refine hideG fun G9 hG9 => ?_
    obtain ⟨env, he, hf⟩ := List.mem_filterMap.mp hm
    refine hG9 ?_
    clear hG9 G9
    rcases List.mem_cons.mp he with rfl | he
    · exact (N q hq).2.1 (Option.some.inj hf).symm
    · obtain ⟨o, ho, _⟩ := (K.frames.mem (List.mem_filterMap.mpr ⟨env, he, hf⟩)).2
      rw [(N q hq).2.2] at ho; cases ho
  have hen : (hideAll s'.heap (e :: (envOf name scope L a cd :: outer).filterMap (·.frame))).get? e = none := hideAll_none _ (.head _)
  refine wpAny_leaving_firstW (a0 := .ref t) K'.stack (funFrames_hide K'.frames hin) rfl he.1 (fun b o hb => of_hideAll _ hb) hen rfl rfl rfl fun h' hL => ?_
  refine hideG fun G9 hG9 => ?_
  obtain ⟨k1, ⟨_, _, k2⟩, k3, k4⟩ := hL
  refine hG9 ?_
  clear hG9 G9
  exact hQ h' ⟨_, .ref t, st, sg, hl, k1, hen, k2, k3⟩ ((Heap.UpToSlots.of_keeps F.keep).trans k4)
end
section
variable {prog : Program} {w : World} {A₀ : Around} {E : Value → Shared → Prop} {s' : Shared} {base g G : Heap} {outer : List Env} {L a e : Addr} {m : Str → Option Value} {name : Str} {scope : Scope} {cd : Value}
  {b₀ : Stmt} {suite : List Stmt} {pos np : Pos} {rest : List ExceptHandler} {Q : Flow → Shared → Prop} {news : List (Addr × Obj)} {KF : Frag} {C : Addr}
  {p : Program} {loose : List Str} {mean : ExcName → Option Value} {mg mb : Str → Option Value} {x : Str}
theorem caught_ownS (R : RaisedSN base G (envOf name scope L a cd :: outer) e (.ref C) news s'.heap) (F : Fr g L G m) (K : Below A₀ base outer g) (hsm : G.UpToSlots s'.heap) (XB : KF.In base) (TB : Top p loose mean mg mb base)
    (ex : nsIn KF mainGlobals x = some (some (.ref C))) (q : ExcOk KF C)
    (k : ∀ h' g', KtsTurn (outer.filterMap (·.frame)) g g' → Fr g' L h' m → News g' L h' news → Below A₀ base outer g' →
      wpAny (model prog w) ((A₀.deeper (envOf name scope L a cd)).mark (some (.ref e))) (execs (b₀ :: suite) (envOf name scope L a cd)) Q E { s' with heap := h' })
    (hk : scope.kind = .function := by rfl) (hx : (envOf name scope L a cd).kindOf x = some .globalImplicit := by rfl) (hd : (x == ("__debug__" : Str)) = false := by decide)
    (hE : PassesOwnAt (model prog w) ((A₀.deeper (envOf name scope L a cd)).mark (some (.ref e))) (A₀.deeper (envOf name scope L a cd)) (envOf name scope L a cd) E := by passes_own) :
    wpAny (model prog w) (A₀.deeper (envOf name scope L a cd)) (noteFrame (.ref e) (envOf name scope L a cd))
      (fun _ s₂ => wpAny (model prog w) (A₀.deeper (envOf name scope L a cd)) (setFlight (.ref e) none) (fun _ s₃ =>
        wpAny (model prog w) (A₀.deeper (envOf name scope L a cd)) (handleBy (.ref e) (envOf name scope L a cd) (.ExceptHandler (some (.Name x np)) none (b₀ :: suite) pos :: rest)) Q E s₃) E s₂) E s' := by
  refine hideG fun G9 hG9 => ?_
  obtain ⟨B, a0, hB, hBG, hl, hfl⟩ := R
  refine hG9 ?_
  clear hG9 G9
  have hL : B.get? L = none := by
    refine hideG fun G9 hG9 => ?_
    obtain ⟨_, ⟨L', _, hf, hn', _⟩, _⟩ := hfl.2.2.1
    refine hG9 ?_
    clear hG9 G9
    obtain rfl : L = L' := Option.some.inj hf
    exact hn'
  refine wpAny_looks_onW (Around.frames_deeper K.stack) rfl hfl fun h₄ hheld₄ hsm₄ => ?_
  refine wpAny_landsW hheld₄ fun h₅ hheld hsm₅' => ?_
  have hsm₅ := hsm₄.trans hsm₅'
  refine hideG fun G9 hG9 => ?_
  obtain ⟨g₅, T₅, F₅, K₅⟩ := kts_ground K F hBG hheld.1 (hsm.trans hsm₅)
  refine hG9 ?_
  clear hG9 G9
  have X₅ : KF.In g₅ := XB.keeps K₅.stays
  have P₅ : TopRead p loose mg mb g₅ := topRead_of (TB.keeps K₅.stays)
  refine hideG fun G9 hG9 => ?_
  obtain ⟨ob, hob, hobc⟩ := hheld.there
  refine hG9 ?_
  clear hG9 G9
  refine wpAny_handleBy_cons (codeAny_handlers_test (name_K F₅ X₅ P₅ ex ?_ hk hx hd)) (by intro q; cases q)
  refine hideG fun G9 hG9 => ?_
  obtain ⟨⟨nm, qn, N, bs, bm, hdct, sn, sub, ab, col, dd, k0, k1, k2, k3, k5, hC, _, _, _, hbase⟩, _⟩ := q
  refine hG9 ?_
  clear hG9 G9
  refine wpAny_excMatches_sub_self (X₅.keeps F₅.keep _ _ hC) hob hobc hbase (codeAny_handlers_suite ?_)
  refine lands_againW hheld fun h₆ hfl₆ hsm₆ => ?_
  refine hideG fun G9 hG9 => ?_
  obtain ⟨g₆, T₆, F₆, K₆⟩ := kts_ground K F hBG hfl₆.1 ((hsm.trans hsm₅).trans hsm₆)
  refine hG9 ?_
  clear hG9 G9
  exact wpAny_passesOwnAt hE (k h₆ g₆ T₆ F₆ (fun q hq => ⟨hfl₆.1 _ _ (hl q hq).1, (fun z => by have := (hl q hq).1; rw [z, hL] at this; cases this), T₆.none_ _ (kts_none F.keep (hl q hq).2.1)⟩) K₆)
theorem caught_ownX {cells : List (Str × Addr)} (R : RaisedSN base G (envX name scope L a cd cells :: outer) e (.ref C) news s'.heap) (F : Fr g L G m) (K : Below A₀ base outer g) (hsm : G.UpToSlots s'.heap) (XB : KF.In base) (TB : Top p loose mean mg mb base)
    (ex : nsIn KF mainGlobals x = some (some (.ref C))) (q : ExcOk KF C)
    (k : ∀ h' g', KtsTurn (outer.filterMap (·.frame)) g g' → Fr g' L h' m → News g' L h' news → Below A₀ base outer g' →
      wpAny (model prog w) ((A₀.deeper (envX name scope L a cd cells)).mark (some (.ref e))) (execs (b₀ :: suite) (envX name scope L a cd cells)) Q E { s' with heap := h' })
    (hk : scope.kind = .function := by rfl) (hx : (envX name scope L a cd cells).kindOf x = some .globalImplicit := by rfl) (hd : (x == ("__debug__" : Str)) = false := by decide)
    (hE : PassesOwnAt (model prog w) ((A₀.deeper (envX name scope L a cd cells)).mark (some (.ref e))) (A₀.deeper (envX name scope L a cd cells)) (envX name scope L a cd cells) E := by passes_own) :
    wpAny (model prog w) (A₀.deeper (envX name scope L a cd cells)) (noteFrame (.ref e) (envX name scope L a cd cells))
      (fun _ s₂ => wpAny (model prog w) (A₀.deeper (envX name scope L a cd cells)) (setFlight (.ref e) none) (fun _ s₃ =>
        wpAny (model prog w) (A₀.deeper (envX name scope L a cd cells)) (handleBy (.ref e) (envX name scope L a cd cells) (.ExceptHandler (some (.Name x np)) none (b₀ :: suite) pos :: rest)) Q E s₃) E s₂) E s' := by
  refine hideG fun G9 hG9 => ?_
  obtain ⟨B, a0, hB, hBG, hl, hfl⟩ := R
  refine hG9 ?_
  clear hG9 G9
  have hL : B.get? L = none := by
    refine hideG fun G9 hG9 => ?_
    obtain ⟨_, ⟨L', _, hf, hn', _⟩, _⟩ := hfl.2.2.1
    refine hG9 ?_
    clear hG9 G9
    obtain rfl : L = L' := Option.some.inj hf
    exact hn'
  refine wpAny_looks_onW (Around.frames_deeper K.stack) rfl hfl fun h₄ hheld₄ hsm₄ => ?_
  refine wpAny_landsW hheld₄ fun h₅ hheld hsm₅' => ?_
  have hsm₅ := hsm₄.trans hsm₅'
  refine hideG fun G9 hG9 => ?_
  obtain ⟨g₅, T₅, F₅, K₅⟩ := kts_ground (name := name) (scope := scope) (a := a) (cd := cd) K F hBG hheld.1 (hsm.trans hsm₅)
  refine hG9 ?_
  clear hG9 G9
  have X₅ : KF.In g₅ := XB.keeps K₅.stays
  have P₅ : TopRead p loose mg mb g₅ := topRead_of (TB.keeps K₅.stays)
  refine hideG fun G9 hG9 => ?_
  obtain ⟨ob, hob, hobc⟩ := hheld.there
  refine hG9 ?_
  clear hG9 G9
  refine wpAny_handleBy_cons (codeAny_handlers_test (nameX_K F₅ X₅ P₅ ex ?_ hk hx hd)) (by intro q; cases q)
  refine hideG fun G9 hG9 => ?_
  obtain ⟨⟨nm, qn, N, bs, bm, hdct, sn, sub, ab, col, dd, k0, k1, k2, k3, k5, hC, _, _, _, hbase⟩, _⟩ := q
  refine hG9 ?_
  clear hG9 G9
  refine wpAny_excMatches_sub_self (X₅.keeps F₅.keep _ _ hC) hob hobc hbase (codeAny_handlers_suite ?_)
  refine lands_againW hheld fun h₆ hfl₆ hsm₆ => ?_
  refine hideG fun G9 hG9 => ?_
  obtain ⟨g₆, T₆, F₆, K₆⟩ := kts_ground (name := name) (scope := scope) (a := a) (cd := cd) K F hBG hfl₆.1 ((hsm.trans hsm₅).trans hsm₆)
  refine hG9 ?_
  clear hG9 G9
  exact wpAny_passesOwnAt hE (k h₆ g₆ T₆ F₆ (fun q hq => ⟨hfl₆.1 _ _ (hl q hq).1, (fun z => by have := (hl q hq).1; rw [z, hL] at this; cases this), T₆.none_ _ (kts_none F.keep (hl q hq).2.1)⟩) K₆)
end
/-- behind a call that caught an exception: the outer frames' slots may differ -/
structure Back (h₀ : Heap) (L : Addr) (m : Str → Option Value) (outer : List Env) (A₀ : Around) (base : Heap) (as : List Addr) (h h' : Heap) (nw : List (Addr × Obj)) (g : Heap) : Prop where
  mk :: (turn : KtsTurn (outer.filterMap (·.frame)) h₀ g) (fr : Fr g L h' m) (news : ∀ l, News h₀ L h l → (∀ p ∈ l, p.1 ∉ as ∨ p ∈ nw) → News g L h' l) (below : Below A₀ base outer g)
/-- what the end of a call that turns shows -/
noncomputable def EndsT (h₀ : Heap) (L : Addr) (m : Str → Option Value) (outer : List Env) (A₀ : Around) (base : Heap) (as : List Addr) (h : Heap) (FR : List Addr) (g : Heap) (L' : Addr) (R : Result → Shared → Prop) (PP : Flow → Shared → Prop) : Prop :=
  ∀ (fl : Flow) (s' : Shared) (m' : Str → Option Value) (g' : Heap) (nw : List (Addr × Obj)), KtsTurn FR g g' → Fr g' L' s'.heap m' → News g' L' s'.heap nw → (∀ g₀, Back h₀ L m outer A₀ base as h s'.heap nw g₀ → R (.ok (.ret (retOf fl))) s') → PP fl s'
theorem Back.less {h₀ base h h' g : Heap} {L : Addr} {m : Str → Option Value} {outer : List Env} {A₀ : Around} {as : List Addr} {nw a r : List (Addr × Obj)} (b : Back h₀ L m outer A₀ base as h h' nw g) (N : News h₀ L h (a ++ r)) (has : (a ++ r).map (·.1) = as) (hr : ∀ p ∈ r, p ∈ nw) : Back h₀ L m outer A₀ base (a.map (·.1)) h h' [] g :=
  ⟨b.turn, b.fr, fun l Nl H => b.news l Nl fun p hp => by
    by_cases q : p.1 ∈ as
    · right
      rw [← has, List.map_append] at q
      rcases List.mem_append.mp q with q | q
      · exact ((H p hp).resolve_right List.not_mem_nil q).elim
      · obtain ⟨x, hx, e⟩ := List.mem_map.mp q
        have z := (N x (List.mem_append_right _ hx)).1
        rw [e, (Nl p hp).1] at z
        exact (Prod.ext e (Option.some.inj z).symm : x = p) ▸ hr x hx
    · exact .inl q, b.below⟩
theorem Back.flat {h₀ base h h' g : Heap} {L : Addr} {m : Str → Option Value} {A₀ : Around} {as : List Addr} {nw : List (Addr × Obj)} (b : Back h₀ L m [] A₀ base as h h' nw g) {l : List (Addr × Obj)} (N : News h₀ L h l) (H : ∀ p ∈ l, p.1 ∉ as ∨ p ∈ nw) : Fr h₀ L h' m ∧ News h₀ L h' l := by
  have k : ∀ x o, h₀.get? x = some o → g.get? x = some o := fun x o e => b.turn.other x o e (by simp)
  exact ⟨⟨b.fr.ns, fun x o e => b.fr.keep x o (k x o e), by rw [← b.turn.size]; exact b.fr.above⟩, fun p hp => ⟨(b.news l N H p hp).1, (b.news l N H p hp).2.1, (N p hp).2.2⟩⟩
section
variable {A A₀ : Around} {L : Addr} {h₀ base h g : Heap} {m : Str → Option Value} {outer : List Env} {env : Env}
theorem endsT_of {as : List Addr} {L' : Addr} {R : Result → Shared → Prop} (B : Below A₀ base outer h₀) (F : Fr h₀ L h m) (FG : Fr h₀ L g m) (st : h₀.StaysIn g) (hf : env.frame = some L) (HG : ∀ b o, h.get? b = some o → b ∉ as → g.get? b = some o) :
    EndsT h₀ L m outer A₀ base as h ((env :: outer).filterMap (·.frame)) g L' R (fun fl s' => R (.ok (.ret (retOf fl))) s') := by
  intro fl s' m' g' nw T F' N' k
  have hmem : ∀ b, b ∈ (env :: outer).filterMap (·.frame) → b = L ∨ b ∈ outer.filterMap (·.frame) := fun b hb => by
    rw [List.filterMap_cons, hf] at hb
    exact List.mem_cons.mp hb
  have ho : ∀ b o, h₀.get? b = some o → b ∉ outer.filterMap (·.frame) → s'.heap.get? b = some o := fun b o e n => F'.keep b o (T.other b o (st b o e) fun q => by
    rcases hmem b q with z | z
    · rw [z, kts_self F] at e; cases e
    · exact n z)
  have hs : g.UpToSlots s'.heap := fun b o e _ => by
    obtain ⟨sl, z⟩ := T.up e
    exact ⟨sl, F'.keep _ _ z⟩
  obtain ⟨T', S⟩ := kts_turn_at (h := s'.heap) (fs := outer.filterMap (·.frame)) (g := h₀)
    (fun b hb => by
      refine hideG fun G9 hG9 => ?_
      obtain ⟨_, o, ho, _⟩ := B.frames.mem hb
      refine hG9 ?_
      clear hG9 G9
      exact ⟨o, ho⟩) ho
    (fun b o e hm => by
      obtain ⟨sl, z⟩ := T.up (st b o e)
      exact ⟨sl, F'.keep _ _ z⟩)
  refine k _ ⟨T', ⟨hs.ns FG.ns, S, by rw [T'.size]; exact F.above⟩, fun l N H p hp => ⟨?_, (N p hp).2.1, T'.none_ _ (N p hp).2.2⟩, ⟨B.stack, fun b o e => T'.other b o (B.stays b o e) (fun hm => by
    rw [(B.frames.mem hm).1] at e
    cases e), B.frames.of_keeps fun b o e _ => ?_⟩⟩
  · rcases H p hp with H | H
    · refine F'.keep _ _ (T.other _ _ (HG _ _ (N p hp).1 H) fun q => ?_)
      rcases hmem _ q with z | z
      · exact (N p hp).2.1 z
      · obtain ⟨_, o, ho, _⟩ := B.frames.mem z
        rw [(N p hp).2.2] at ho; cases ho
    · exact (N' p H).1
  · obtain ⟨sl, z⟩ := T'.up e
    exact ⟨_, z, rfl⟩
end
section
variable {prog : Program} {w : World} {A A₀ : Around} {s : Shared} {K : Frag} {L : Addr} {h₀ base : Heap} {m mg mb : Str → Option Value} {news : List (Addr × Obj)} {p : Program} {loose : List Str} {mean : ExcName → Option Value}
theorem code_defT {env : Env} {outer : List Env} {R : Result → Shared → Prop} {name qual : Str} {params : Arguments} {body : List Stmt} {scope : Scope} {dV kV doc pm cdv ct oc : Value} {an od : Option Addr} {osl : Array (Option Value)} {f : Addr} {args : Args} {binds : List (Str × Value)} {as : List Addr}
    (B : Below A₀ base outer h₀) (F : Fr h₀ L s.heap m) (XB : K.In base) (N : News h₀ L s.heap news) (TB : Top p loose mean mg mb base) (hA : A.frames = some (env :: outer)) (hf : env.frame = some L) (hke : env.scope.kind = .function)
    (ho : K.lookup f = some ⟨oc, od, .func (fnOf name qual params body scope dV kV doc pm an cdv ct), osl⟩) (hcd : codeIn K cdv qual = true) (hroom : A.depth < recursionLimit)
    (hbind : BindsTo s (fnOf name qual params body scope dV kV doc pm an cdv ct) args binds) (hloc : ∀ y ∈ binds, scope.names.lookup y.1 = some .local) (has : news.map (·.1) = as)
    (h : ∀ g L' h₁ PP, Fr g L' h₁ (fun y => binds.reverse.lookup y) → News g L' h₁ news → Below A base (env :: outer) g → K.In g → Top p loose mean mg mb g → EndsT h₀ L m outer A₀ base as s.heap ((env :: outer).filterMap (·.frame)) g L' R PP →
      wpAny (model prog w) (A.deeper (envOf qual scope L' f cdv)) (execs body (envOf qual scope L' f cdv)) PP NoE { s with heap := h₁, toks := s.toks + binds.length })
    (hco : scope.isCoroutine = false) (hgen : scope.isGenerator = false) (hk : scope.kind = .function)
    (hcell : ∀ x ∈ scope.names, x.2 ≠ .cell) : codeAny (model prog w) A (.call (.ref f) args) R s := by
  subst has
  refine hideG fun G9 hG9 => ?_
  obtain ⟨FG, BG, st, lv⟩ := groundX (R := R) B F N hA hf hke
  refine hG9 ?_
  clear hG9 G9
  have X₀ := XB.keeps B.stays
  have T := TB.keeps B.stays
  have X := X₀.keeps F.keep
  refine codeAny_call_def (fd := fnOf name qual params body scope dV kV doc pm an cdv ct) (body := body) (binds := binds) hroom (X _ _ ho) rfl (T.nolimit.keeps F.keep) (codeRec_of X hcd) rfl hbind hcell hloc (fun h₁ hns hk₁ => ?_) hco hgen hk
  refine wpAny_mono (h _ s.heap.objs.size h₁ _ ⟨hns, fun b o e => hk₁ b o (of_hideAll _ e), Nat.le_of_eq (hideAll_size _ _)⟩
    (fun p hp => ⟨hk₁ _ _ (N p hp).1, Nat.ne_of_lt (Heap.lt_size (N p hp).1), hideAll_none _ (List.mem_map_of_mem hp)⟩) BG (X₀.keeps st) (T.keeps st) (endsT_of B F FG st hf fun b o e hn => hideAll_get _ e hn)) (fun fl s' hl => by cases fl <;> exact hl) fun _ _ y => y.elim
theorem codeC_defCT {env : Env} {outer : List Env} {R : Result → Shared → Prop} {name qual : Str} {params : Arguments} {body : List Stmt} {scope : Scope} {dV kV doc pm cdv ct oc : Value} {an od : Option Addr} {osl : Array (Option Value)} {f : Addr} {args : Args} {binds : List (Str × Value)} {as : List Addr}
    (B : Below A₀ base outer h₀) (F : Fr h₀ L s.heap m) (XB : K.In base) (N : News h₀ L s.heap news) (TB : Top p loose mean mg mb base) (hA : A.frames = some (env :: outer)) (hf : env.frame = some L) (hke : env.scope.kind = .function)
    (ho : K.lookup f = some ⟨oc, od, .func (fnOf name qual params body scope dV kV doc pm an cdv ct), osl⟩) (hcd : codeIn K cdv qual = true) (hroom : A.depth < recursionLimit)
    (hbind : BindsTo s (fnOf name qual params body scope dV kV doc pm an cdv ct) args binds) (hkind : (binds.all fun y => scope.names.lookup y.1 == some .local || scope.names.lookup y.1 == some .cell) = true)
    (hnd : ((cellsFrom 0 scope.names []).map (·.1)).Nodup) (has : news.map (·.1) = as)
    (h : ∀ g L' h₁ tk cells PP, Fr g L' h₁ (bindL (envOfC qual scope L' f cdv).kindOf binds fun _ => none) → News g L' h₁ (cells ++ news) →
      CellsAre (bindC (envOfC qual scope L' f cdv).kindOf binds fun _ => none) (cellsFrom (L' + 1) scope.names []) cells → Below A base (env :: outer) g → K.In g → Top p loose mean mg mb g → (∀ p ∈ news, p.1 < L') → EndsT h₀ L m outer A₀ base as s.heap ((env :: outer).filterMap (·.frame)) g L' R PP →
      wpC (model prog w) (A.deeper (envOfC qual scope L' f cdv)) (execs body (envOfC qual scope L' f cdv)) PP NoE { s with heap := h₁, toks := tk })
    (hco : scope.isCoroutine = false) (hgen : scope.isGenerator = false) (hk : scope.kind = .function) : codeC (model prog w) A (.call (.ref f) args) R s := by
  subst has
  refine hideG fun G9 hG9 => ?_
  obtain ⟨FG, BG, st, lv⟩ := groundX (R := R) B F N hA hf hke
  refine hG9 ?_
  clear hG9 G9
  have X₀ := XB.keeps B.stays
  have T := TB.keeps B.stays
  have X := X₀.keeps F.keep
  refine codeC_of_tree ?_
  show wpC _ A.in1 (callAny (.ref f) args) _ _ s
  simp only [callAny]
  refine c_leaf (wpAny_load (X _ _ ho) ?_)
  refine hideG fun G9 hG9 => ?_
  obtain ⟨c, oc, vs, tq, hc, hoc, hdc, hq⟩ := codeRec_of X hcd
  refine hG9 ?_
  clear hG9 G9
  simp only [callFunction, hco, hgen, hc]
  refine c_leaf (m := field (.ref c) 1) (wpAny_field hoc hdc hq (c_bind (c_pure ?_)))
  rw [← hc]
  refine c_leaf (hbind _ _ _ _ ?_)
  refine c_leaf (wpAny_newFunctionEnv_cells hk (kindsX hkind _) fun env' he s' x => ?_)
  subst he
  refine c_leaf (wpAny_enterFrame ((T.nolimit.keeps F.keep).keeps x.toInCall.keep) hroom (c_pure (And.intro rfl (And.intro rfl (codeC_func ?_)))))
  obtain ⟨h₁, tk, rfl, _⟩ := x.done
  have hk₁ := x.toInCall.keep
  refine hideG fun G9 hG9 => ?_
  obtain ⟨cells, NC, Y⟩ := Cl.news (h₀ := s.heap) (Nat.le_refl _) fun n c hm => ⟨x.cell n c (lookup_of_mem_nodup (cellsFrom_names scope.names 0 (s.heap.objs.size + 1) [] [] rfl ▸ hnd) hm), x.above n c hm⟩
  refine hG9 ?_
  clear hG9 G9
  refine c_mono (h _ s.heap.objs.size h₁ tk cells _ ⟨x.toInCall.ns, fun b o e => hk₁ b o (of_hideAll _ e), Nat.le_of_eq (hideAll_size _ _)⟩ (fun p hp => ?_) Y BG (X₀.keeps st) (T.keeps st) (fun p hp => Heap.lt_size (N p hp).1) (endsT_of B F FG st hf fun b o e hn => hideAll_get _ e hn)) (fun fl s' hl => by cases fl <;> exact hl) fun _ _ y => y.elim
  rcases List.mem_append.mp hp with hp | hp
  · refine ⟨(NC p hp).1, (NC p hp).2.1, ?_⟩
    cases q : (hideAll s.heap (news.map (·.1))).get? p.1 with
    | none => rfl
    | some o => have := of_hideAll _ q; rw [(NC p hp).2.2] at this; cases this
  · exact ⟨hk₁ _ _ (N p hp).1, Nat.ne_of_lt (Heap.lt_size (N p hp).1), hideAll_none _ (List.mem_map_of_mem hp)⟩
end
end
/-! G11 -/
theorem flat_one {v : Value} : ∀ k, (List.replicate k [v]).flatten = List.replicate k v
  | 0 => rfl
  | k + 1 => by rw [List.replicate_succ, List.flatten_cons, flat_one k]; rfl
section
variable {prog : Program} {w : World} {A : Around} {E : Value → Shared → Prop} {s : Shared} {h₀ : Heap} {L : Addr} {m : Str → Option Value} {news : List (Addr × Obj)} {l : Addr} {vs : List Value} {Q : Value → Shared → Prop}
theorem len_vs {n : Nat} (N : News h₀ L s.heap news) (hm : (l, listOf vs.toArray n) ∈ news) (hz : vs.length ≤ 100) (h : Q (.int (vs.length : Nat) (s.toks + 1)) { s with toks := s.toks + 1 + 1 }) :
    wpAny (model prog w) A (call (.builtin "len") [.ref l]) Q E s := by
  refine len_list (News.isList N hm) ?_ (by rw [List.size_toArray]; exact h)
  rw [List.size_toArray]; exact Int.lt_of_le_of_lt (Int.ofNat_le.mpr hz) (by decide)
theorem mul_vs {v : Value} {u : Tok} {k j : Nat} (F : Fr h₀ L s.heap m) (N : News h₀ L s.heap news) (hm : (l, listOf #[v] j) ∈ news) (hk : k ≤ 100)
    (h : ∀ D h', Fr h₀ L h' m → News h₀ L h' ((D, listOf (List.replicate k v).toArray 0) :: news) → FreshAt news D → Q (.ref D) { s with heap := h' }) : wpAny (model prog w) A (binaryOp .Mult (.ref l) (.int (k : Nat) u)) Q E s := by
  refine KMa.mul (vs := [v]) F N (News.isList N hm) (nat_lo k) (Int.lt_of_le_of_lt (Int.ofNat_le.mpr hk) (by decide)) (by rw [Int.toNat_natCast]; simp only [List.length_cons, List.length_nil, Nat.zero_add, Nat.one_mul]; exact Nat.le_trans hk (by decide)) ?_ fun D h' F' N' l1 => h D h' F' N' (fresh_lt l1)
  rw [Int.toNat_natCast]
  exact flat_one k
end
/-! G13 -/
/-- what a call's end shows: what is new was not there -/
noncomputable def Ends4 (h₀ : Heap) (L : Addr) (m : Str → Option Value) (as : List Addr) (h : Heap) (g : Heap) (L' : Addr) (R : Result → Shared → Prop) (PP : Flow → Shared → Prop) : Prop :=
  ∀ (fl : Flow) (s' : Shared) (m' : Str → Option Value) (news' : List (Addr × Obj)), Fr g L' s'.heap m' → News g L' s'.heap news' → (Fr h₀ L s'.heap m → News h₀ L s'.heap news' → Kept as h s'.heap → (∀ p ∈ news', p.1 ∈ as ∨ h.get? p.1 = none) → R (.ok (.ret (retOf fl))) s') → PP fl s'
section
variable {prog : Program} {w : World} {A A₀ : Around} {s : Shared} {K : Frag} {L : Addr} {h₀ base : Heap} {m mg mb : Str → Option Value} {news : List (Addr × Obj)} {p : Program} {loose : List Str} {mean : ExcName → Option Value}
theorem code_defK4 {env : Env} {outer : List Env} {R : Result → Shared → Prop} {name qual : Str} {params : Arguments} {body : List Stmt} {scope : Scope} {dV kV doc pm cdv ct oc : Value} {an od : Option Addr} {osl : Array (Option Value)} {f : Addr} {args : Args} {binds : List (Str × Value)} {as : List Addr}
    (B : Below A₀ base outer h₀) (F : Fr h₀ L s.heap m) (X₀ : K.In h₀) (N : News h₀ L s.heap news) (T : Top p loose mean mg mb h₀) (hA : A.frames = some (env :: outer)) (hf : env.frame = some L) (hke : env.scope.kind = .function)
    (ho : K.lookup f = some ⟨oc, od, .func (fnOf name qual params body scope dV kV doc pm an cdv ct), osl⟩) (hcd : codeIn K cdv qual = true) (hroom : A.depth < recursionLimit)
    (hbind : BindsTo s (fnOf name qual params body scope dV kV doc pm an cdv ct) args binds) (hloc : ∀ y ∈ binds, scope.names.lookup y.1 = some .local) (has : news.map (·.1) = as)
    (h : ∀ g L' h₁ PP, Fr g L' h₁ (fun y => binds.reverse.lookup y) → News g L' h₁ news → Below A base (env :: outer) g → K.In g → Top p loose mean mg mb g → Ends4 h₀ L m as s.heap g L' R PP →
      wpAny (model prog w) (A.deeper (envOf qual scope L' f cdv)) (execs body (envOf qual scope L' f cdv)) PP NoE { s with heap := h₁, toks := s.toks + binds.length })
    (hco : scope.isCoroutine = false) (hgen : scope.isGenerator = false) (hk : scope.kind = .function)
    (hcell : ∀ x ∈ scope.names, x.2 ≠ .cell) : codeAny (model prog w) A (.call (.ref f) args) R s := by
  subst has
  obtain ⟨FG, BG, st, lv⟩ := groundX (R := R) B F N hA hf hke
  have X := X₀.keeps F.keep
  refine codeAny_call_def (fd := fnOf name qual params body scope dV kV doc pm an cdv ct) (body := body) (binds := binds) hroom (X _ _ ho) rfl (T.nolimit.keeps F.keep) (codeRec_of X hcd) rfl hbind hcell hloc (fun h₁ hns hk₁ => ?_) hco hgen hk
  refine wpAny_mono (h _ s.heap.objs.size h₁ (fun fl s' => R (.ok (.ret (retOf fl))) s') ⟨hns, fun b o e => hk₁ b o (of_hideAll _ e), Nat.le_of_eq (hideAll_size _ _)⟩
    (fun p hp => ⟨hk₁ _ _ (N p hp).1, Nat.ne_of_lt (Heap.lt_size (N p hp).1), hideAll_none _ (List.mem_map_of_mem hp)⟩) BG (X₀.keeps st) (T.keeps st) (fun fl s' m' news' F' N' k => ?_)) (fun fl s' hl => by cases fl <;> exact hl) fun _ _ y => y.elim
  refine lv _ _ ⟨_, m', news', F', N', fun F8 N8 => k F8 N8 (fun b o e hn => F'.keep b o (hideAll_get _ e hn)) fun p hp => ?_⟩
  by_cases q : p.1 ∈ news.map (·.1)
  · exact .inl q
  · right
    cases z : s.heap.get? p.1 with
    | none => rfl
    | some o =>
      have := (N' p hp).2.2
      rw [hideAll_get _ z q] at this
      cases this
end
local macro_rules | `(tactic| k_ne) => `(tactic| (refine neN ?_; (try dsimp only); first | assumption | exact Ne.symm (by assumption)))
local macro_rules | `(tactic| k_all) => `(tactic| first | assumption | exact off_as rfl (by assumption) | exact List.forall_mem_nil _ | (refine fm ?_ ?_; k_ne; k_all))
local macro_rules | `(tactic| k_room) => `(tactic| first | exact room_lt (j := 1) (by assumption) (by decide) | exact room_lt (j := 2) (by assumption) (by decide) | exact lt_dp (by assumption))
local macro_rules | `(tactic| omega) => `(tactic| (k_whole; first | with_reducible assumption | decide | exact Nat.le_trans (by assumption) (by decide) | exact Int.lt_of_lt_of_le (by assumption) (by decide) | exact ar_neg (by decide) | fail "no"))
/-! F10 -/
section
local macro_rules | `(tactic| walk_at "binaryOp RShift int int") => `(tactic| (k_here; (with_reducible refine rshift_int ?_ ?_); omega))
local macro_rules | `(tactic| walk_at "call builtin:len") => `(tactic| (k_here; (with_reducible show wpAny _ _ (call (Value.builtin "len") [Value.bytes _ _]) _ _ _); (refine len_bytes (by simp only [List.size_toArray]; omega) ?_)))
local macro_rules | `(tactic| walk_at "subscriptTail") => `(tactic| (k_here; (with_reducible show wpAny _ _ (subscriptTail _ _ (Value.bytes (List.toArray _) _) (Value.int _ _)) _ _ _); k_dflt (refine' item_at (by assumption) (by assumption) ?_)))
theorem bit_spec {w : World} {mean : ExcName → Option Value} {mg mb : Str → Option Value} {dp un : Nat} {gd : Option (List Code)} {cn : Str} {cs : Scope} {ca : Addr} {ccd : Value} {cl : List (Str × Addr)} {outer : List Env} {A₀ : Around} {base h₀ : Heap} {L : Addr} {m : Str → Option Value} {s : Shared} {Q E : Value → Shared → Prop}
    (B : Below A₀ base outer h₀) (F : Fr h₀ L s.heap m) (X : (hd.heap_1 w.params).In h₀) (T : Top hd.view_1 (looseW hd.view_1 []) mean mg mb h₀) (hk : cs.kind = .function) (hdp : dp + 1 < recursionLimit) (hun : un + 8 < cLine)
    {b : Nat → Nat} {ol : List UInt8} {i : Nat} {t1 : Tok} (N : News h₀ L s.heap (readerL w b ol i t1)) (hD : @Ne Nat (b 0) (b 1)) (hi : i < 8 * ol.length) (hol : ol.length ≤ 1000)
    (hret : ∀ (h' : Heap) (tk' : Nat) (t t2 : Tok), Fr h₀ L h' m → News h₀ L h' (readerL w b ol (i + 1 : Nat) t2) → Kept (rdA b) s.heap h' →  Q (.int (rbit ol i : Nat) t) { s with heap := h', toks := tk' }) :
    wpAny (model PySem.Challenge.rw_nz0255_01.row.prog w) (ktrTop dp un gd cn cs L ca ccd cl outer) (call (.ref 159) [.ref (b 0)]) Q E s := by
  have hb7 := and7 i
  have hb8 : 0 ≤ 7 - Builtin.bitAnd (i : Int) 7 := by rw [and7]; omega
  refine with_as N fun as has => ?_
  refine wpAny_call ?_
  refine code_defK (by k_asm) (by k_asm) (by k_asm) (by k_asm) (by k_asm) rfl rfl (by assumption) (by k_is) (by k_is) (lt_dp hdp) (BindsTo.of_eq rfl) (locs rfl) has ?_ rfl rfl rfl (by decide)
  intro g' L' h' PP F' N' B' X' T' HE
  (try dsimp only)
  (try k_lift B')
  (try k_fold)
  unfold readerL at N'
  refine kk_stmt ?_
  k_fold
  k_steps
  refine ⟨?_⟩
  (try dsimp only)
  (try refine tkA fun _ => ?_)
  refine kk_stmt ?_
  k_fold
  k_steps
  refine ⟨?_⟩
  (try dsimp only)
  (try refine tkA fun _ => ?_)
  refine kk_stmt ?_
  k_fold
  k_steps
  refine ⟨?_⟩
  (try dsimp only)
  (try refine tkA fun _ => ?_)
  refine kk_stmt ?_
  k_fold
  k_steps
  refine ⟨?_⟩
  (try dsimp only)
  (with_reducible rename Fr _ _ _ _ => F9)
  (with_reducible rename News _ _ _ _ => N9)
  exact HE _ _ _ _ F9 N9 fun F8 N8 K8 => by rw [rbit_eq]; exact hret _ _ _ _ F8 N8 (kept_as has K8)
end
/-! F11 -/
section
local macro_rules | `(tactic| walk_at "call builtin:len") => `(tactic| (k_here; (with_reducible show wpAny _ _ (call (Value.builtin "len") [Value.bytes _ _]) _ _ _); (refine len_bytes (by simp only [List.size_toArray]; omega) ?_)))
local macro_rules | `(tactic| walk_at "call ref") => `(tactic| (k_here; (with_reducible show wpAny _ _ (call (Value.ref 159) _) _ _ _); refine stopCall ?_))
theorem rbits_spec {w : World} {mean : ExcName → Option Value} {mg mb : Str → Option Value} {dp un : Nat} {gd : Option (List Code)} {cn : Str} {cs : Scope} {ca : Addr} {ccd : Value} {cl : List (Str × Addr)} {outer : List Env} {A₀ : Around} {base h₀ : Heap} {L : Addr} {m : Str → Option Value} {s : Shared} {Q E : Value → Shared → Prop}
    (B : Below A₀ base outer h₀) (F : Fr h₀ L s.heap m) (X : (hd.heap_1 w.params).In h₀) (T : Top hd.view_1 (looseW hd.view_1 []) mean mg mb h₀) (hk : cs.kind = .function) (hdp : dp + 3 < recursionLimit) (hun : un + 24 < cLine)
    {b : Nat → Nat} {ol : List UInt8} {i : Nat} {t1 : Tok} {n : Nat} {t3 : Tok} (N : News h₀ L s.heap (readerL w b ol i t1)) (hD : @Ne Nat (b 0) (b 1)) (hn : n ≤ 8) (hi : i + n ≤ 8 * ol.length) (hol : ol.length ≤ 1000)
    (hret : ∀ (h' : Heap) (tk' : Nat) (t t2 : Tok), Fr h₀ L h' m → News h₀ L h' (readerL w b ol (i + n : Nat) t2) → Kept (rdA b) s.heap h' →  Q (.int (bval (rbits ol i n) : Nat) t) { s with heap := h', toks := tk' }) :
    wpAny (model PySem.Challenge.rw_nz0255_01.row.prog w) (ktrTop dp un gd cn cs L ca ccd cl outer) (call (.ref 166) [.ref (b 0), .int (n : Nat) t3]) Q E s := by
  refine with_as N fun as has => ?_
  refine wpAny_call ?_
  refine code_defK (by k_asm) (by k_asm) (by k_asm) (by k_asm) (by k_asm) rfl rfl (by assumption) (by k_is) (by k_is) (lt_dp hdp) (BindsTo.of_eq rfl) (locs rfl) has ?_ rfl rfl rfl (by decide)
  intro g' L' h' PP F' N' B' X' T' HE
  (try dsimp only)
  (try k_lift B')
  (try k_fold)
  unfold readerL at N'
  refine kk_stmt ?_
  k_fold
  k_steps
  refine ⟨?_⟩
  (try dsimp only)
  (try refine tkA fun _ => ?_)
  refine kk_stmt ?_
  k_fold
  k_steps
  refine ⟨?_⟩
  (try dsimp only)
  (try refine tkA fun _ => ?_)
  refine kk_stmt (kk_for_range (n := n) (by k_asm) rfl (by rfl) (by rfl) ?_)
  k_steps
  refine ⟨_, _, _, _, _, _, _, _, rfl, by k_asm, by k_asm, by assumption, by first | decide | exact small_one (by l_bnd) (by l_bnd) (by l_bnd) (by l_bnd), range_up n, fun I lI => ?_⟩
  have hrI : I ∉ rdA b := rd_off (lI _ (.head _)) (lI _ (.tail _ (.head _)))
  k_lt lI
  refine rangeRest_acc (Str.ofString "found") (fun j => (bval (rbits ol i j) : Nat)) (fun j (t2 : Tok) => readerL w b ol (i + j : Nat) t2) rfl rfl ?_ ?_
  · rintro j u t t2 hj t4 h tk F6 N6
    have hij : i + j < 8 * ol.length := by omega
    refine kk_stmt ?_
    k_fold
    k_steps
    refine ⟨?_⟩
    (with_reducible rename Fr _ _ _ _ => F5)
    (with_reducible rename News _ _ _ _ => N5)
    refine bit_spec (by k_asm) (by k_asm) (by assumption) (by k_asm) rfl (room_lt (j := 2) hdp (by decide)) (room_lt (j := 11) hun (by decide)) (news_tail N5) hD hij hol ?_
    intro h8 tk8 t8 t9 F8 N8 K8

    have N7 := keep_cons N5 K8 hrI N8
    clear N5 N8 K8
    k_steps
    refine ⟨?_⟩
    (try dsimp only)
    k_steps
    (with_reducible rename Fr _ _ _ _ => F9)
    (with_reducible rename News _ _ _ _ => N9)
    exact UnrEnd.intro F9 N9 _ (fun p hp => hp) (off_as rfl hrI) ⟨⟨_, _, _, map_acc_i (by rw [rbits_succ, Int.natCast_add, Int.natCast_mul]; rfl), rfl⟩⟩
  · rintro u t t2 h tk F6 N6
    refine ⟨?_⟩
    dsimp only
    k_steps
    (with_reducible rename Fr _ _ _ _ => F9)
    (with_reducible rename News _ _ _ _ => N9)
    exact HE _ _ _ _ F9 N9 fun F8 N8 K8 => hret _ _ _ _ F8 N8 (kept_as has K8)
end
section
local macro_rules | `(tactic| walk_at "call ref") => `(tactic| (k_here; (with_reducible show wpAny _ _ (call (Value.ref _) _) _ _ _); refine stopCall ?_))
/-! F1 -/
section
local macro_rules | `(tactic| walk_at "binaryOp RShift int int") => `(tactic| (k_here; (with_reducible refine rshift_int ?_ ?_); omega))
local macro_rules | `(tactic| walk_at "binaryOp LShift int int") => `(tactic| (k_here; (with_reducible refine lshift_int_small ?_ ?_ ?_ ?_); omega; omega; omega))
local macro_rules | `(tactic| walk_at "getMethod ref") => `(tactic| (k_here; (with_reducible show wpAny _ _ (getMethod (Value.ref _) (PySem.Str.ofString "append") _) _ _ _); k_dflt (refine' getMethod_ba_append (o := baObj _) (at_news (by k_asm) (by k_mem)) rfl rfl ?_)))
theorem put_spec {w : World} {mean : ExcName → Option Value} {mg mb : Str → Option Value} {dp un : Nat} {gd : Option (List Code)} {cn : Str} {cs : Scope} {ca : Addr} {ccd : Value} {cl : List (Str × Addr)} {outer : List Env} {A₀ : Around} {base h₀ : Heap} {L : Addr} {m : Str → Option Value} {s : Shared} {Q : Value → Shared → Prop}
    (B : Below A₀ base outer h₀) (F : Fr h₀ L s.heap m) (X : (hd.heap_1 w.params).In h₀) (T : Top hd.view_1 (looseW hd.view_1 []) mean mg mb h₀) (hk : cs.kind = .function) (hdp : dp + 1 < recursionLimit) (hun : un + 8 < cLine)
    {c : Nat → Nat} {bs : Array UInt8} {r z : Int} {t1 t2 : Tok} {t3 t4 : Tok} {v k : Int} {bl : List Bool} (N : News h₀ L s.heap (bwL w c bs r z t1 t2)) (hD : (bwA c).Nodup) (W : WOk bl bs r z) (hz8 : z < 8) (hk0 : 0 ≤ k) (hk16 : k ≤ 16) (hv0 : 0 ≤ v) (hv : v < 2 ^ k.toNat) (hbl : bl.length < 2000)
    (hret : ∀ (h' : Heap) (tk' : Nat) (bs' : Array UInt8) (r' z' : Int) (t1' t2' : Tok), Fr h₀ L h' m → News h₀ L h' (bwL w c bs' r' z' t1' t2') → Kept (bwA c) s.heap h' → WOk (bl ++ natBits k.toNat v.toNat) bs' r' z' → z' < 8 →  Q .none { s with heap := h', toks := tk' }) :
    wpC (model PySem.Challenge.rw_nz0255_01.row.prog w) (ktrTop dp un gd cn cs L ca ccd cl outer) (call (.ref 110) [.ref (c 0), .int v t3, .int k t4]) Q NoE s := by
  have n1 := (nd3 hD).1
  have n2 := (nd3 hD).2.1
  have n3 := (nd3 hD).2.2
  obtain ⟨hz, hr, hr8, hbs⟩ := W.bounds hz8
  have W1 := W.put hv0 hv
  rw [Int.toNat_of_nonneg hk0] at W1
  have hz24 : z + k < 24 := by omega
  have hlen : (bl ++ natBits k.toNat v.toNat).length < 2020 := by rw [List.length_append, natBits_length]; omega
  refine with_as N fun as has => ?_
  refine c_call ?_
  refine codeC_defK (by k_asm) (by k_asm) (by k_asm) (by k_asm) (by k_asm) rfl rfl (by assumption) (by k_is) (by k_is) (lt_dp hdp) (BindsTo.of_eq rfl) (locs rfl) has ?_ rfl rfl rfl (by decide)
  intro g' L' h' PP F' N' B' X' T' HE
  (try dsimp only)
  (try k_lift B')
  (try k_fold)
  dsimp only [bwL] at N'
  refine k_stmt ?_
  k_fold
  k_steps
  refine ⟨?_⟩
  (try dsimp only)
  refine k_stmt ?_
  k_fold
  k_steps
  refine ⟨?_⟩
  (try dsimp only)
  refine k_stmt ?_
  k_fold
  k_steps
  refine ⟨?_⟩
  (try dsimp only)
  (with_reducible rename Fr _ _ _ _ => F3)
  (with_reducible rename News _ _ _ _ => N3)
  refine c_execs_cons (c_whileL (σ := Array UInt8 × Int × Int × Tok × Tok) (fun _ => _) (fun y => bwL w c y.1 y.2.1 y.2.2.1 y.2.2.2.1 y.2.2.2.2) (fun y => WOk (bl ++ natBits k.toNat v.toNat) y.1 y.2.1 y.2.2.1 ∧ y.2.2.1 < 24) (fun y => y.2.2.1.toNat) (_, _, _, _, _) F3 N3 ⟨W1, hz24⟩ ?_)
  clear F3 N3 W1 hz hr hr8 hbs
  intro y h tk PP1 J F3 N3 next
  dsimp only [bwL] at N3
  k_steps
  refine ⟨⟨fun hge => ?_, fun hge => ?_⟩⟩
  · refine c_execs_nil ?_
    refine HE _ _ _ _ F3 N3 fun F8 N8 K8 => ?_
    exact hret _ _ _ _ _ _ _ F8 N8 (kept_as has K8) J.1 (Int.not_le.mp (of_decide_eq_false hge))
  · have hge := of_decide_eq_true hge
    have hz0 : 0 ≤ y.2.2.1 - 8 := Int.sub_nonneg_of_le hge
    have q := J.1.emit hge
    have qb := J.1.few J.2 hlen
    refine k_stmt ?_
    k_fold
    k_steps
    refine ⟨?_⟩
    (try dsimp only)
    refine c_execs_cons (c_Expr (k_meth ?_))
    k_steps
    refine ⟨?_⟩
    refine c_callB (e := _) (rest := []) ?_
    refine c_spliced_cons (k_arg ?_)
    k_steps
    refine ⟨?_⟩
    refine c_spliced_nil ?_
    (with_reducible rename Fr _ _ _ _ => F5)
    (with_reducible rename News _ _ _ _ => N5)
    refine c_append (N5 _ (.tail _ (.tail _ (.head _)))).1 q.1 q.2.1 qb fun h6 hs6 hg6 => ⟨rfl, ?_⟩
    have F6 := upd_fr F5 N5 (.tail _ (.tail _ (.head _))) hs6
    have N6 := upd_news N5 (by k_upd) hs6 hg6
    clear F5 N5 hs6 hg6
    refine k_stmt ?_
    k_fold
    k_steps
    refine ⟨?_⟩
    (try dsimp only)
    refine c_execs_nil ?_
    (with_reducible rename Fr _ _ _ _ => F9)
    (with_reducible rename News _ _ _ _ => N9)
    refine' next (_, _, _, _, _) _ _ ?j ?m ?f ?n
    case n => exact N9
    case f => exact F9
    case j => exact ⟨q.2.2, Int.lt_trans (Int.sub_lt_self _ (by decide)) J.2⟩
    case m => exact less8 hge
end
/-! F2 -/
section
local macro_rules | `(tactic| walk_at "binaryOp RShift int int") => `(tactic| (k_here; (with_reducible refine rshift_int ?_ ?_); omega))
local macro_rules | `(tactic| walk_at "binaryOp LShift int int") => `(tactic| (k_here; (with_reducible refine lshift_int_small ?_ ?_ ?_ ?_); omega; omega; omega))
theorem pad_spec {w : World} {mean : ExcName → Option Value} {mg mb : Str → Option Value} {dp un : Nat} {gd : Option (List Code)} {cn : Str} {cs : Scope} {ca : Addr} {ccd : Value} {cl : List (Str × Addr)} {outer : List Env} {A₀ : Around} {base h₀ : Heap} {L : Addr} {m : Str → Option Value} {s : Shared} {Q : Value → Shared → Prop}
    (B : Below A₀ base outer h₀) (F : Fr h₀ L s.heap m) (X : (hd.heap_1 w.params).In h₀) (T : Top hd.view_1 (looseW hd.view_1 []) mean mg mb h₀) (hk : cs.kind = .function) (hdp : dp + 2 < recursionLimit) (hun : un + 16 < cLine)
    {c : Nat → Nat} {bs : Array UInt8} {r z : Int} {t1 t2 : Tok} {bl : List Bool} (N : News h₀ L s.heap (bwL w c bs r z t1 t2)) (hD : (bwA c).Nodup) (W : WOk bl bs r z) (hz8 : z < 8) (hbl : bl.length < 2000)
    (hret : ∀ (h' : Heap) (tk' : Nat) (bs' : Array UInt8) (r' z' : Int) (t1' t2' : Tok), Fr h₀ L h' m → News h₀ L h' (bwL w c bs' r' z' t1' t2') → Kept (bwA c) s.heap h' → WOk (padded bl) bs' r' z' → z' < 8 →  Q .none { s with heap := h', toks := tk' }) :
    wpC (model PySem.Challenge.rw_nz0255_01.row.prog w) (ktrTop dp un gd cn cs L ca ccd cl outer) (call (.ref 117) [.ref (c 0)]) Q NoE s := by
  have n1 := (nd3 hD).1
  have n2 := (nd3 hD).2.1
  have n3 := (nd3 hD).2.2
  obtain ⟨hz, hr, hr8, hbs⟩ := W.bounds hz8
  refine with_as N fun as has => ?_
  refine c_call ?_
  refine codeC_defK (by k_asm) (by k_asm) (by k_asm) (by k_asm) (by k_asm) rfl rfl (by assumption) (by k_is) (by k_is) (lt_dp hdp) (BindsTo.of_eq rfl) (locs rfl) has ?_ rfl rfl rfl (by decide)
  intro g' L' h' PP F' N' B' X' T' HE
  (try dsimp only)
  (try k_lift B')
  (try k_fold)
  dsimp only [bwL] at N'
  refine c_execs_cons (k_if ?_)
  k_steps
  refine ⟨⟨fun hb => ?_, fun hb => ?_⟩⟩
  · have hb := of_decide_eq_true hb
    have hz9 : 0 ≤ 8 - z := by omega
    refine c_execs_cons (c_Expr (k_meth ?_))
    k_steps
    refine ⟨?_⟩
    (try dsimp only)
    refine c_callK (K := hd.heap_1 w.params) (by k_is) ?_
    refine c_spliced_cons (k_arg ?_)
    k_steps
    refine ⟨?_⟩
    refine c_spliced_cons (k_arg ?_)
    k_steps
    refine ⟨?_⟩
    refine c_spliced_nil ⟨by k_in, ?_⟩
    (try dsimp only [List.cons_append, List.nil_append])
    (with_reducible rename Fr _ _ _ _ => F5)
    (with_reducible rename News _ _ _ _ => N5)

    refine put_spec (bl := bl) (by k_asm) (by k_asm) (by assumption) (by k_asm) rfl (room_lt (j := 2) hdp (by decide)) (room_lt (j := 11) hun (by decide)) N5 hD W hz8 hz9 (by omega) (pad_v _).1 (pad_v _).2 hbl ?_
    intro h5 tk5 bs5 r5 z5 t5 u5 F6 N6 K6 W6 hz6
    refine ⟨rfl, ?_⟩
    refine c_execs_nil ?_
    refine c_execs_nil ?_
    exact HE _ _ _ _ F6 N6 fun F8 N8 K8 => hret _ _ _ _ _ _ _ F8 N8 (kept_as has K8) (pad_some W hz8 hb ▸ W6) hz6
  · have hb := of_decide_eq_false hb
    refine c_execs_nil ?_
    refine c_execs_nil ?_
    exact HE _ _ _ _ F' N' fun F8 N8 K8 => hret _ _ _ _ _ _ _ F8 N8 (kept_as has K8) (by rw [pad_none W (by omega)]; exact W) hz8
end
/-! F3 -/
section
local macro_rules | `(tactic| walk_at "call type:bytes") => `(tactic| (k_here; (with_reducible show wpAny _ _ (call (Value.type _) [Value.ref _]) _ _ _); k_dflt (refine' call_bytes_ba (at_news (by k_asm) (by k_mem)) (by omega) ?_); intro _ _))
theorem octets_spec {w : World} {mean : ExcName → Option Value} {mg mb : Str → Option Value} {dp un : Nat} {gd : Option (List Code)} {cn : Str} {cs : Scope} {ca : Addr} {ccd : Value} {cl : List (Str × Addr)} {outer : List Env} {A₀ : Around} {base h₀ : Heap} {L : Addr} {m : Str → Option Value} {s : Shared} {Q E : Value → Shared → Prop}
    (B : Below A₀ base outer h₀) (F : Fr h₀ L s.heap m) (X : (hd.heap_1 w.params).In h₀) (T : Top hd.view_1 (looseW hd.view_1 []) mean mg mb h₀) (hk : cs.kind = .function) (hdp : dp + 1 < recursionLimit) (hun : un + 8 < cLine)
    {c : Nat → Nat} {bs : Array UInt8} {r z : Int} {t1 t2 : Tok} (N : News h₀ L s.heap (bwL w c bs r z t1 t2)) (hbs : bs.size ≤ 16777216)
    (hret : ∀ (h' : Heap) (tk' : Nat) (t : Tok), Fr h₀ L h' m → News h₀ L h' (bwL w c bs r z t1 t2) → Kept (bwA c) s.heap h' →  Q (.bytes bs t) { s with heap := h', toks := tk' }) :
    wpAny (model PySem.Challenge.rw_nz0255_01.row.prog w) (ktrTop dp un gd cn cs L ca ccd cl outer) (call (.ref 124) [.ref (c 0)]) Q E s := by
  refine with_as N fun as has => ?_
  refine wpAny_call ?_
  refine code_defK (by k_asm) (by k_asm) (by k_asm) (by k_asm) (by k_asm) rfl rfl (by assumption) (by k_is) (by k_is) (lt_dp hdp) (BindsTo.of_eq rfl) (locs rfl) has ?_ rfl rfl rfl (by decide)
  intro g' L' h' PP F' N' B' X' T' HE
  (try dsimp only)
  (try k_lift B')
  (try k_fold)
  dsimp only [bwL] at N'
  k_steps
  (with_reducible rename Fr _ _ _ _ => F9)
  (with_reducible rename News _ _ _ _ => N9)
  exact HE _ _ _ _ F9 N9 fun F8 N8 K8 => hret _ _ _ F8 N8 (kept_as has K8)
end
/-! F4 -/
theorem newbw_spec {w : World} {mean : ExcName → Option Value} {mg mb : Str → Option Value} {dp un : Nat} {gd : Option (List Code)} {cn : Str} {cs : Scope} {ca : Addr} {ccd : Value} {cl : List (Str × Addr)} {outer : List Env} {A₀ : Around} {base h₀ : Heap} {L : Addr} {m : Str → Option Value} {s : Shared} {Q : Value → Shared → Prop}
    (B : Below A₀ base outer h₀) (F : Fr h₀ L s.heap m) (X : (hd.heap_1 w.params).In h₀) (T : Top hd.view_1 (looseW hd.view_1 []) mean mg mb h₀) (hk : cs.kind = .function) (hdp : dp + 3 < recursionLimit) (hun : un + 24 < cLine)
     (N : News h₀ L s.heap ([])) 
    (hret : ∀ (h' : Heap) (tk' : Nat) (c : Nat → Nat) (t1 t2 : Tok), Fr h₀ L h' m → News h₀ L h' (bwL w c #[] 0 0 t1 t2) → Kept ([]) s.heap h' → (∀ a ∈ bwA c, s.heap.objs.size ≤ a) → (bwA c).Nodup →  Q (.ref (c 0)) { s with heap := h', toks := tk' }) :
    wpC (model PySem.Challenge.rw_nz0255_01.row.prog w) (ktrTop dp un gd cn cs L ca ccd cl outer) (call (.ref 127) []) Q NoE s := by
  refine c_call ?_
  refine c_makeK F N (X.keeps F.keep) (by k_is) (by k_is) (by k_is) fun x dx h1 F1 N1 l1 l2 K1 hs1 => ?_
  have l2 : @LT.lt Nat _ dx x := l2
  refine with_as N1 fun as has => ?_
  refine codeC_defK (by k_asm) (by k_asm) (by k_asm) (by k_asm) (by k_asm) rfl rfl (by assumption) (by k_is) (by k_is) (room_lt (j := 1) hdp (by decide)) (BindsTo.of_eq rfl) (locs rfl) has ?_ rfl rfl rfl (by decide)
  intro g' L' h' PP F' N' B' X' T' HE
  (try dsimp only)
  (try k_lift B')
  (try k_fold)
  refine c_execs_cons (k_assign_attr (k_name ?_))
  k_steps
  refine ⟨?_⟩
  refine c_callT0 (c_bytearray fun h3 k3 g3 => ?_)
  (with_reducible rename Fr _ _ _ _ => F5)
  (with_reducible rename News _ _ _ _ => N5)
  have l5 := above_of N5 (Nat.le_refl _)
  have N6 := new_news F5 N5 k3 (none_size _) g3
  have F6 := F5.keeps k3
  clear F5 N5
  dsimp only at l5 N6 ⊢
  k_lt l5
  k_steps
  refine ⟨?_⟩
  dsimp only
  refine k_stmt ?_
  k_fold
  k_steps
  refine ⟨?_⟩
  (try dsimp only)
  refine k_stmt ?_
  k_fold
  k_steps
  refine ⟨?_⟩
  (try dsimp only)
  refine c_execs_nil ?_
  (with_reducible rename Fr _ _ _ _ => F9)
  (with_reducible rename News _ _ _ _ => N9)
  refine HE _ _ _ _ F9 N9 fun F8 N8 K8 => ?_
  refine ⟨rfl, ?_⟩
  refine hret _ _ (lst [x, dx, _, _, _, _]) _ _ F8 (news_sub N8 ((fm ((.tail _ (.head _))) (fm ((.tail _ (.tail _ (.head _)))) (fm ((.head _)) (List.forall_mem_nil _)))))) (kept_new K1 (kept_as has K8) ((fm (Nat.le_trans hs1 (Nat.le_of_lt l2)) (fm (hs1) (List.forall_mem_nil _))))) ?_ (nd_mk l2 l5.1)
  exact (fm (Nat.le_trans hs1 (Nat.le_of_lt l2)) (fm (hs1) (fm (Nat.le_trans hs1 (Nat.le_of_lt (Nat.lt_trans l2 l5.1))) (List.forall_mem_nil _))))
/-! F5 -/
theorem newsink_spec {w : World} {mean : ExcName → Option Value} {mg mb : Str → Option Value} {dp un : Nat} {gd : Option (List Code)} {cn : Str} {cs : Scope} {ca : Addr} {ccd : Value} {cl : List (Str × Addr)} {outer : List Env} {A₀ : Around} {base h₀ : Heap} {L : Addr} {m : Str → Option Value} {s : Shared} {Q : Value → Shared → Prop}
    (B : Below A₀ base outer h₀) (F : Fr h₀ L s.heap m) (X : (hd.heap_1 w.params).In h₀) (T : Top hd.view_1 (looseW hd.view_1 []) mean mg mb h₀) (hk : cs.kind = .function) (hdp : dp + 6 < recursionLimit) (hun : un + 48 < cLine)
    {TT : Addr} (N : News h₀ L s.heap ([])) 
    (hret : ∀ (h' : Heap) (tk' : Nat) (c : Nat → Nat) (t1 t2 : Tok), Fr h₀ L h' m → News h₀ L h' (sinkL w c #[] 0 0 t1 t2) → Kept ([]) s.heap h' → (∀ a ∈ sinkA c, s.heap.objs.size ≤ a) → (sinkA c).Nodup → c 8 = TT →  Q (.ref (c 6)) { s with heap := h', toks := tk' }) :
    wpC (model PySem.Challenge.rw_nz0255_01.row.prog w) (ktrTop dp un gd cn cs L ca ccd cl outer) (call (.ref 512) [.ref TT]) Q NoE s := by
  refine c_call ?_
  refine c_makeK F N (X.keeps F.keep) (by k_is) (by k_is) (by k_is) fun x dx h1 F1 N1 l1 l2 K1 hs1 => ?_
  have l2 : @LT.lt Nat _ dx x := l2
  refine with_as N1 fun as has => ?_
  refine codeC_defK (by k_asm) (by k_asm) (by k_asm) (by k_asm) (by k_asm) rfl rfl (by assumption) (by k_is) (by k_is) (room_lt (j := 1) hdp (by decide)) (BindsTo.of_eq rfl) (locs rfl) has ?_ rfl rfl rfl (by decide)
  intro g' L' h' PP F' N' B' X' T' HE
  (try dsimp only)
  (try k_lift B')
  (try k_fold)
  refine k_stmt ?_
  k_fold
  k_steps
  refine ⟨?_⟩
  (try dsimp only)
  refine c_execs_cons (k_assign_attr (k_name ?_))
  k_steps
  refine ⟨?_⟩
  refine c_callK0 (K := hd.heap_1 w.params) (by k_in) (by k_is) ?_
  (try dsimp only [List.cons_append, List.nil_append])
  (with_reducible rename Fr _ _ _ _ => F5)
  (with_reducible rename News _ _ _ _ => N5)
  refine newbw_spec (by k_asm) (by k_asm) (by assumption) (by k_asm) rfl (room_lt (j := 5) hdp (by decide)) (room_lt (j := 28) hun (by decide)) (fun _ h => nomatch h) ?_
  intro h6 tk6 c1 t1 t2 F6 N6 K6 hf6 hD
  have hD2 := nd_sink l2 (off_new1 N5 hf6 (.head _)) (off_new1 N5 hf6 (.tail _ (.head _))) hD
  have hx6 := off_new N5 hf6
  have q0 := hx6 _ (.head _) _ (.head _)
  have q1 := hx6 _ (.head _) _ (.tail _ (.head _))
  have q2 := hx6 _ (.head _) _ (.tail _ (.tail _ (.head _)))
  have q3 := hx6 _ (.tail _ (.head _)) _ (.head _)
  have q4 := hx6 _ (.tail _ (.head _)) _ (.tail _ (.head _))
  have q5 := hx6 _ (.tail _ (.head _)) _ (.tail _ (.tail _ (.head _)))
  have hge : ∀ a ∈ bwA c1, s.heap.objs.size ≤ a := fun a ha => Nat.le_trans (Nat.le_trans hs1 (Nat.le_of_lt l2)) (Nat.le_trans (Nat.le_of_lt (Heap.lt_size (N5 _ (.head _)).1)) (hf6 a ha))
  have N7 := keep_new N5 K6 N6
  clear N5 F5 N6 K6
  dsimp only [bwL] at q0 q1 q2 q3 q4 q5
  simp only [bwL, List.cons_append, List.nil_append] at N7
  k_steps
  refine ⟨?_⟩
  dsimp only
  refine c_execs_nil ?_
  (with_reducible rename Fr _ _ _ _ => F9)
  (with_reducible rename News _ _ _ _ => N9)
  refine HE _ _ _ _ F9 N9 fun F8 N8 K8 => ?_
  refine ⟨rfl, ?_⟩
  refine hret _ _ (ext c1 6 [x, dx, TT, _, _]) _ _ F8 (news_sub N8 ((fm ((.tail _ (.tail _ (.tail _ (.head _))))) (fm ((.tail _ (.tail _ (.tail _ (.tail _ (.head _)))))) (fm ((.head _)) (fm ((.tail _ (.head _))) (fm ((.tail _ (.tail _ (.head _)))) (List.forall_mem_nil _)))))))) (kept_new K1 (kept_as has K8) ((fm (Nat.le_trans hs1 (Nat.le_of_lt l2)) (fm (hs1) (List.forall_mem_nil _))))) ?_ hD2 rfl
  exact (fm (Nat.le_trans hs1 (Nat.le_of_lt l2)) (fm (hs1) (hge)))
/-! F6 -/
theorem sinkbits_spec {w : World} {mean : ExcName → Option Value} {mg mb : Str → Option Value} {dp un : Nat} {gd : Option (List Code)} {cn : Str} {cs : Scope} {ca : Addr} {ccd : Value} {cl : List (Str × Addr)} {outer : List Env} {A₀ : Around} {base h₀ : Heap} {L : Addr} {m : Str → Option Value} {s : Shared} {Q : Value → Shared → Prop}
    (B : Below A₀ base outer h₀) (F : Fr h₀ L s.heap m) (X : (hd.heap_1 w.params).In h₀) (T : Top hd.view_1 (looseW hd.view_1 []) mean mg mb h₀) (hk : cs.kind = .function) (hdp : dp + 2 < recursionLimit) (hun : un + 16 < cLine)
    {c : Nat → Nat} {bs : Array UInt8} {r z : Int} {t1 t2 : Tok} {t3 t4 : Tok} {v k : Int} {bl : List Bool} (N : News h₀ L s.heap (sinkL w c bs r z t1 t2)) (hD : (sinkA c).Nodup) (W : WOk bl bs r z) (hz8 : z < 8) (hk0 : 0 ≤ k) (hk16 : k ≤ 16) (hv0 : 0 ≤ v) (hv : v < 2 ^ k.toNat) (hbl : bl.length < 2000)
    (hret : ∀ (h' : Heap) (tk' : Nat) (bs' : Array UInt8) (r' z' : Int) (t1' t2' : Tok), Fr h₀ L h' m → News h₀ L h' (sinkL w c bs' r' z' t1' t2') → Kept (sinkA c) s.heap h' → WOk (bl ++ natBits k.toNat v.toNat) bs' r' z' → z' < 8 →  Q .none { s with heap := h', toks := tk' }) :
    wpC (model PySem.Challenge.rw_nz0255_01.row.prog w) (ktrTop dp un gd cn cs L ca ccd cl outer) (call (.ref 502) [.ref (c 6), .int v t3, .int k t4]) Q NoE s := by
  refine with_as N fun as has => ?_
  refine c_call ?_
  refine codeC_defK (by k_asm) (by k_asm) (by k_asm) (by k_asm) (by k_asm) rfl rfl (by assumption) (by k_is) (by k_is) (lt_dp hdp) (BindsTo.of_eq rfl) (locs rfl) has ?_ rfl rfl rfl (by decide)
  intro g' L' h' PP F' N' B' X' T' HE
  (try dsimp only)
  (try k_lift B')
  (try k_fold)
  unfold sinkL at N'
  refine c_execs_cons (c_Expr (k_meth ?_))
  k_steps
  refine ⟨?_⟩
  (try dsimp only)
  refine c_callK (K := hd.heap_1 w.params) (by k_is) ?_
  refine c_spliced_cons (k_arg ?_)
  k_steps
  refine ⟨?_⟩
  refine c_spliced_cons (k_arg ?_)
  k_steps
  refine ⟨?_⟩
  refine c_spliced_nil ⟨by k_in, ?_⟩
  (try dsimp only [List.cons_append, List.nil_append])
  (with_reducible rename Fr _ _ _ _ => F5)
  (with_reducible rename News _ _ _ _ => N5)
  refine put_spec (bl := bl) (by k_asm) (by k_asm) (by assumption) (by k_asm) rfl (room_lt (j := 2) hdp (by decide)) (room_lt (j := 11) hun (by decide)) (news_tail (news_tail N5)) (sink_nd hD).2.2.1 W hz8 hk0 hk16 hv0 hv hbl ?_
  intro h6 tk6 bs6 r6 z6 t6 u6 F6 N6 K6 W6 hz6
  refine ⟨rfl, ?_⟩
  refine c_execs_nil ?_
  exact HE _ _ _ _ F6 (keep_cons N5 K6 (sink_nd hD).1 (keep_cons (news_tail N5) K6 (sink_nd hD).2.1 N6)) fun F8 N8 K8 => hret _ _ _ _ _ _ _ F8 N8 (kept_as has K8) W6 hz6
/-! F7 -/
theorem sinkfinish_spec {w : World} {mean : ExcName → Option Value} {mg mb : Str → Option Value} {dp un : Nat} {gd : Option (List Code)} {cn : Str} {cs : Scope} {ca : Addr} {ccd : Value} {cl : List (Str × Addr)} {outer : List Env} {A₀ : Around} {base h₀ : Heap} {L : Addr} {m : Str → Option Value} {s : Shared} {Q : Value → Shared → Prop}
    (B : Below A₀ base outer h₀) (F : Fr h₀ L s.heap m) (X : (hd.heap_1 w.params).In h₀) (T : Top hd.view_1 (looseW hd.view_1 []) mean mg mb h₀) (hk : cs.kind = .function) (hdp : dp + 4 < recursionLimit) (hun : un + 32 < cLine)
    {c : Nat → Nat} {bs : Array UInt8} {r z : Int} {t1 t2 : Tok} {bl : List Bool} (N : News h₀ L s.heap (sinkL w c bs r z t1 t2)) (hD : (sinkA c).Nodup) (W : WOk bl bs r z) (hz8 : z < 8) (hbl : bl.length < 2000)
    (hret : ∀ (h' : Heap) (tk' : Nat) (t : Tok), Fr h₀ L h' m → News h₀ L h' ([]) → Kept (sinkA c) s.heap h' →  Q (.bytes (pack bl) t) { s with heap := h', toks := tk' }) :
    wpC (model PySem.Challenge.rw_nz0255_01.row.prog w) (ktrTop dp un gd cn cs L ca ccd cl outer) (call (.ref 509) [.ref (c 6)]) Q NoE s := by
  have hye := (sink_nd hD).2.2.2
  refine with_as N fun as has => ?_
  refine c_call ?_
  refine codeC_defK (by k_asm) (by k_asm) (by k_asm) (by k_asm) (by k_asm) rfl rfl (by assumption) (by k_is) (by k_is) (lt_dp hdp) (BindsTo.of_eq rfl) (locs rfl) has ?_ rfl rfl rfl (by decide)
  intro g' L' h' PP F' N' B' X' T' HE
  (try dsimp only)
  (try k_lift B')
  (try k_fold)
  unfold sinkL at N'
  refine c_execs_cons (c_Expr (k_meth ?_))
  k_steps
  refine ⟨?_⟩
  (try dsimp only)
  refine c_callK0 (K := hd.heap_1 w.params) (by k_in) (by k_is) ?_
  (try dsimp only [List.cons_append, List.nil_append])
  (with_reducible rename Fr _ _ _ _ => F5)
  (with_reducible rename News _ _ _ _ => N5)
  refine pad_spec (bl := bl) (by k_asm) (by k_asm) (by assumption) (by k_asm) rfl (room_lt (j := 3) hdp (by decide)) (room_lt (j := 19) hun (by decide)) (news_tail (news_tail N5)) (sink_nd hD).2.2.1 W hz8 hbl ?_
  intro h6 tk6 bs6 r6 z6 t6 u6 F6 N6 K6 W6 hz6
  have N7 := keep_cons N5 K6 (sink_nd hD).1 (keep_cons (news_tail N5) K6 (sink_nd hD).2.1 N6)
  clear N5 N6 K6
  have hp := pad_zero W6 hz6
  rw [hp.2.1] at N7
  have hb6 := pack_few hbl
  refine ⟨rfl, ?_⟩
  dsimp only
  refine k_stmt ?_
  k_fold
  k_steps
  refine ⟨?_⟩
  (with_reducible rename Fr _ _ _ _ => F5)
  (with_reducible rename News _ _ _ _ => N5)
  refine octets_spec (by k_asm) (by k_asm) (by assumption) (by k_asm) rfl (room_lt (j := 2) hdp (by decide)) (room_lt (j := 11) hun (by decide)) (news_tail (news_tail N5)) hb6 ?_
  intro h8 tk8 t8 F8 N8 K8
  have N9 := keep_cons N5 K8 (sink_nd hD).1 (keep_cons (news_tail N5) K8 (sink_nd hD).2.1 News.nil)
  clear N5 N8 K8
  k_steps
  refine ⟨?_⟩
  (try dsimp only)
  refine c_execs_cons (k_assign_attr (k_name ?_))
  k_steps
  refine ⟨?_⟩
  refine c_callK0 (K := hd.heap_1 w.params) (by k_in) (by k_is) ?_
  (try dsimp only [List.cons_append, List.nil_append])
  (with_reducible rename Fr _ _ _ _ => F5)
  (with_reducible rename News _ _ _ _ => N5)
  refine newbw_spec (by k_asm) (by k_asm) (by assumption) (by k_asm) rfl (room_lt (j := 4) hdp (by decide)) (room_lt (j := 27) hun (by decide)) (fun _ h => nomatch h) ?_
  intro h9 tk9 c9 t1 t2 F9 N9 K9 _ _
  have N10 := keep_all N5 K9
  clear N5 N9 K9
  k_steps
  refine ⟨?_⟩
  dsimp only
  refine k_stmt ?_
  k_fold
  k_steps
  refine ⟨?_⟩
  (try dsimp only)
  (with_reducible rename Fr _ _ _ _ => F9)
  (with_reducible rename News _ _ _ _ => N9)
  exact HE _ _ _ _ F9 News.nil fun F8 N8 K8 => hret _ _ _ F8 (fun _ h => nomatch h) (kept_as has K8)
/-! F8 -/
section
local macro_rules | `(tactic| walk_at "call builtin:dict.get") => `(tactic| (k_here; k_dflt (refine' kdg_get1 (knd := PySem.intKind _ _) (by k_asm) (by k_mem) (by assumption) (by assumption) (intKind_is _ _ _ _) _ (by assumption) ?_); (try dsimp only [Option.getD])))
theorem code_spec {w : World} {mean : ExcName → Option Value} {mg mb : Str → Option Value} {dp un : Nat} {gd : Option (List Code)} {cn : Str} {cs : Scope} {ca : Addr} {ccd : Value} {cl : List (Str × Addr)} {outer : List Env} {A₀ : Around} {base h₀ : Heap} {L : Addr} {m : Str → Option Value} {s : Shared} {Q E : Value → Shared → Prop}
    (B : Below A₀ base outer h₀) (F : Fr h₀ L s.heap m) (X : (hd.heap_1 w.params).In h₀) (T : Top hd.view_1 (looseW hd.view_1 []) mean mg mb h₀) (hk : cs.kind = .function) (hdp : dp + 1 < recursionLimit) (hun : un + 8 < cLine)
    {e : Nat → Nat} {rs : List (Addr × Tok × Tok × Tok)} {cs' : List (Addr × Tok × Tok)} {o : Obj} {tt : Nat → Tok} {k : Nat} {t0 : Tok} (N : News h₀ L s.heap (tabL w e rs cs' o tt)) (ht : Tab PySem.Challenge.rw_nz0255_01.row.prog w e rs cs' o) (hk : k < 16)
    (hret : ∀ (h' : Heap) (tk' : Nat) (c : Addr) (u : Tok × Tok), Fr h₀ L h' m → News h₀ L h' (tabL w e rs cs' o tt) → Kept ([]) s.heap h' → (c, codeObj k u) ∈ codesFrom 0 cs' →  Q (.ref c) { s with heap := h', toks := tk' }) :
    wpAny (model PySem.Challenge.rw_nz0255_01.row.prog w) (ktrTop dp un gd cn cs L ca ccd cl outer) (call (.ref 341) [.ref (e 0), .int (symAt k) t0]) Q E s := by
  obtain ⟨c, hv, hc⟩ := code_at ht.2.1 hk
  have ho := ht.2.2.1
  have lo := ht.2.2.2
  refine with_as N fun as has => ?_
  refine wpAny_call ?_
  refine code_defK (by k_asm) (by k_asm) (by k_asm) (by k_asm) (by k_asm) rfl rfl (by assumption) (by k_is) (by k_is) (lt_dp hdp) (BindsTo.of_eq rfl) (locs rfl) has ?_ rfl rfl rfl (by decide)
  intro g' L' h' PP F' N' B' X' T' HE
  (try dsimp only)
  (try k_lift B')
  (try k_fold)
  unfold tabL at N'
  k_steps
  (with_reducible rename Fr _ _ _ _ => F9)
  (with_reducible rename News _ _ _ _ => N9)
  exact HE _ _ _ _ F9 N9 fun F8 N8 K8 => hret _ _ c.1 c.2 F8 N8 (kept_same N N8 (kept_as has K8)) hc
end
/-! F9 -/
section
local macro_rules | `(tactic| walk_at "subscriptTail") => `(tactic| (k_here; (with_reducible show wpAny _ _ (subscriptTail (PySem.Expr.Name _ _) _ (Value.ref _) (Value.ref _)) _ _ _); refine stop_any ?_))
theorem symbol_spec {w : World} {mean : ExcName → Option Value} {mg mb : Str → Option Value} {dp un : Nat} {gd : Option (List Code)} {cn : Str} {cs : Scope} {ca : Addr} {ccd : Value} {cl : List (Str × Addr)} {outer : List Env} {A₀ : Around} {base h₀ : Heap} {L : Addr} {m : Str → Option Value} {s : Shared} {Q : Value → Shared → Prop}
    (B : Below A₀ base outer h₀) (F : Fr h₀ L s.heap m) (X : (hd.heap_1 w.params).In h₀) (T : Top hd.view_1 (looseW hd.view_1 []) mean mg mb h₀) (hk : cs.kind = .function) (hdp : dp + 2 < recursionLimit) (hun : un + 16 < cLine)
    {c : Nat → Nat} {bs : Array UInt8} {r z : Int} {t1 t2 : Tok} {e : Nat → Nat} {rs : List (Addr × Tok × Tok × Tok)} {cs' : List (Addr × Tok × Tok)} {o to : Obj} {tt : Nat → Tok} {k : Nat} {t3 : Tok} {bl : List Bool} (N : News h₀ L s.heap (sinkL w c bs r z t1 t2)) (NR : News h₀ L s.heap ((c 14, keyObj (c 19, c 20)) :: tabsL w c e rs cs' o to tt)) (hO : ∀ p ∈ (c 14, keyObj (c 19, c 20)) :: tabsL w c e rs cs' o to tt, p.1 ∉ sinkA c) (ht : Tab PySem.Challenge.rw_nz0255_01.row.prog w e rs cs' o) (hto : TabObj PySem.Challenge.rw_nz0255_01.row.prog w (e 12) (e 0) to) (hD : (sinkA c).Nodup) (W : WOk bl bs r z) (hz8 : z < 8) (hk : k < 16) (hbl : bl.length < 2000)
    (hret : ∀ (h' : Heap) (tk' : Nat) (bs' : Array UInt8) (r' z' : Int) (t1' t2' : Tok), Fr h₀ L h' m → News h₀ L h' (sinkL w c bs' r' z' t1' t2') → Kept (sinkA c) s.heap h' → WOk (bl ++ natBits 6 k) bs' r' z' → z' < 8 →  Q .none { s with heap := h', toks := tk' }) :
    wpC (model PySem.Challenge.rw_nz0255_01.row.prog w) (ktrTop dp un gd cn cs L ca ccd cl outer) (call (.ref 495) [.ref (c 6), .ref (c 14), .int (symAt k) t3]) Q NoE s := by
  have N0 := news_app N NR
  refine with_as N0 fun as has => ?_
  refine c_call ?_
  refine codeC_defK (by k_asm) (by k_asm) (by k_asm) (by k_asm) (by k_asm) rfl rfl (by assumption) (by k_is) (by k_is) (lt_dp hdp) (BindsTo.of_eq rfl) (locs rfl) has ?_ rfl rfl rfl (by decide)
  intro g' L' h' PP F' N' B' X' T' HE
  (try dsimp only)
  (try k_lift B')
  (try k_fold)
  have N1 : News g' L' h' ((c 14, keyObj (c 19, c 20)) :: (c 6, instObj 512 (c 7)) :: (c 7, dictOf (sinkE w c) 2) :: (c 8, to) :: (e 12, keyObj (e 13, e 14)) :: (bwL w c bs r z t1 t2 ++ tabL w e rs cs' o tt)) :=
    news_sub N' ((fm (List.mem_append_right _ (.head _)) (fm (.head _) (fm (.tail _ (.head _)) (fm (List.mem_append_right _ (.tail _ (.head _))) (fm (List.mem_append_right _ (.tail _ (.tail _ (.head _)))) (fun p hp => (List.mem_append.mp hp).elim (fun q => .tail _ (.tail _ (List.mem_append_left _ q))) (fun q => List.mem_append_right _ (.tail _ (.tail _ (.tail _ q)))))))))))
  clear N'
  refine k_stmt ?_
  k_fold
  k_steps
  refine ⟨?_⟩
  refine' tab_item (by k_asm) (by k_mem) (by assumption) (by k_mem) (by k_mem) (room_lt (j := 4) (by assumption) (by decide)) ?_
  k_steps
  refine ⟨?_⟩
  (with_reducible rename Fr _ _ _ _ => F5)
  (with_reducible rename News _ _ _ _ => N5)
  refine code_spec (by k_asm) (by k_asm) (by assumption) (by k_asm) rfl (room_lt (j := 2) hdp (by decide)) (room_lt (j := 11) hun (by decide)) (fun p hp => N5 p (.tail _ (.tail _ (.tail _ (.tail _ (.tail _ (List.mem_append_right _ hp))))))) ht hk  ?_
  intro h8 tk8 cc u F8 N8 K8 hcc
  have N9 := news_dup (o' := codeObj k u) (keep_all N5 K8) (.tail _ (.tail _ (.tail _ (.tail _ (.tail _ (List.mem_append_right _ (.tail _ (.tail _ (.tail _ (.tail _ (.tail _ (List.mem_append_right _ hcc)))))))))))) rfl
  clear N5 N8 K8
  k_steps
  refine ⟨?_⟩
  (try dsimp only)
  refine c_execs_cons (c_Expr (k_meth ?_))
  k_steps
  refine ⟨?_⟩
  (try dsimp only)
  refine c_callK (K := hd.heap_1 w.params) (by k_is) ?_
  refine c_spliced_cons (k_arg ?_)
  k_steps
  refine ⟨?_⟩
  refine c_spliced_cons (k_arg ?_)
  k_steps
  refine ⟨?_⟩
  refine c_spliced_nil ⟨by k_in, ?_⟩
  (try dsimp only [List.cons_append, List.nil_append])
  (with_reducible rename Fr _ _ _ _ => F5)
  (with_reducible rename News _ _ _ _ => N5)
  refine put_spec (bl := bl) (by k_asm) (by k_asm) (by assumption) (by k_asm) rfl (room_lt (j := 2) hdp (by decide)) (room_lt (j := 11) hun (by decide)) (fun p hp => N5 p (.tail _ (.tail _ (.tail _ (.tail _ (.tail _ (.tail _ (List.mem_append_left _ hp)))))))) (sink_nd hD).2.2.1 W hz8 (by decide) (by decide) (Int.natCast_nonneg _) (Int.ofNat_lt.mpr (Nat.lt_of_lt_of_le hk (by decide))) hbl ?_
  intro h6 tk6 bs6 r6 z6 t6 u6 F6 N6 K6 W6 hz6
  refine ⟨rfl, ?_⟩
  refine c_execs_nil ?_
  have NS := keep_cons (news_sub N5 ((fm ((.tail _ (.tail _ (.head _)))) (List.forall_mem_nil _)))) K6 (sink_nd hD).1 (keep_cons (news_sub N5 ((fm ((.tail _ (.tail _ (.tail _ (.head _))))) (List.forall_mem_nil _)))) K6 (sink_nd hD).2.1 N6)
  have NT := keep_off (l := (c 14, keyObj (c 19, c 20)) :: tabsL w c e rs cs' o to tt) (news_sub N5 ((fm ((.tail _ (.head _))) (fm ((.tail _ (.tail _ (.tail _ (.tail _ (.head _)))))) (fm ((.tail _ (.tail _ (.tail _ (.tail _ (.tail _ (.head _))))))) (fun p hp => .tail _ (.tail _ (.tail _ (.tail _ (.tail _ (.tail _ (List.mem_append_right _ hp)))))))))))) K6 (off_sub hO bw_sink)
  exact HE _ _ _ _ F6 (news_app NS NT) fun F8 N8 K8 => hret _ _ _ _ _ _ _ F8 (news_left N8) (kept_left (kept_as has K8) NR NT) W6 hz6
end
/-! F12 -/
section
local macro_rules | `(tactic| walk_at "compareOp In int ref") => `(tactic| (k_here; k_dflt (refine' set_miss (by k_asm) (by k_updF) (by assumption) (by assumption) (by assumption) ?_); (try dsimp only)))
local macro_rules | `(tactic| walk_at "call builtin:set.add") => `(tactic| (k_here; k_dflt (refine' set_add (by k_asm) (by k_asm) (by k_updF) (by assumption) (by assumption) ?_); intro _ _ _ _ _ _ _))
local macro_rules | `(tactic| walk_at "getMethod ref") => `(tactic| (k_here; (with_reducible show wpAny _ _ (getMethod (Value.ref _) (PySem.Str.ofString "add") _) _ _ _); k_dflt (refine' set_meth (by k_asm) (by k_updF) (by assumption) (by assumption) ?_)))
theorem check_spec {w : World} {mean : ExcName → Option Value} {mg mb : Str → Option Value} {dp un : Nat} {gd : Option (List Code)} {cn : Str} {cs : Scope} {ca : Addr} {ccd : Value} {cl : List (Str × Addr)} {outer : List Env} {A₀ : Around} {base h₀ : Heap} {L : Addr} {m : Str → Option Value} {s : Shared} {Q E : Value → Shared → Prop}
    (B : Below A₀ base outer h₀) (F : Fr h₀ L s.heap m) (X : (hd.heap_1 w.params).In h₀) (T : Top hd.view_1 (looseW hd.view_1 []) mean mg mb h₀) (hk : cs.kind = .function) (hdp : dp + 1 < recursionLimit) (hun : un + 8 < cLine)
    {a b : Addr} {t u : Nat → Tok} {n1 n2 : Nat} (N : News h₀ L s.heap ([(b, listOf (symL t).toArray n2), (a, listOf (cntL u).toArray n1)])) 
    (hret : ∀ (h' : Heap) (tk' : Nat) , Fr h₀ L h' m → News h₀ L h' ([(b, listOf (symL t).toArray n2), (a, listOf (cntL u).toArray n1)]) → Kept ([]) s.heap h' →  Q .none { s with heap := h', toks := tk' }) :
    wpAny (model PySem.Challenge.rw_nz0255_01.row.prog w) (ktrTop dp un gd cn cs L ca ccd cl outer) (call (.ref 320) [.ref a, .ref b]) Q E s := by
  refine with_as N fun as has => ?_
  refine wpAny_call ?_
  refine code_defK (by k_asm) (by k_asm) (by k_asm) (by k_asm) (by k_asm) rfl rfl (by assumption) (by k_is) (by k_is) (lt_dp hdp) (BindsTo.of_eq rfl) (locs rfl) has ?_ rfl rfl rfl (by decide)
  intro g' L' h' PP F' N' B' X' T' HE
  (try dsimp only)
  (try k_lift B')
  (try k_fold)
  refine kk_stmt ?_
  k_fold
  k_steps
  refine ⟨?_⟩
  (try dsimp only)
  (try refine tkA fun _ => ?_)
  refine kk_stmt ?_
  k_fold
  k_steps
  refine ⟨?_⟩
  (try dsimp only)
  (try refine tkA fun _ => ?_)
  refine kk_stmt ?_
  k_fold
  k_steps
  refine ⟨?_⟩
  (try dsimp only)
  (try refine tkA fun _ => ?_)
  refine kk_stmt (kk_for_items (by k_asm) rfl ?_)
  k_steps
  (with_reducible rename News _ _ _ _ => N6)
  refine ⟨⟨_, _, symL t, _, _, _, rfl, by k_asm, N6, by k_mem, rfl, rfl, fun I lI => ?_⟩⟩
  have dI : @Ne Nat _ I := Nat.ne_of_lt (lI _ (.head _))
  refine items_ind (checkJ PySem.Challenge.rw_nz0255_01.row.prog w _ [(b, listOf (symL t).toArray n2), (a, listOf (cntL u).toArray n1)] _) ⟨_, _, _, _, map_one, rfl, by assumption, Nat.zero_le _, fun _ _ _ => rfl⟩ ?_ ?_
  · rintro i v m nw hv ⟨us, so, S, n, rfl, rfl, hso, hn, hS⟩ it h tk hc F7 N7
    obtain ⟨hi, rfl⟩ := sym_at t hv
    have hS1 := hS i (Nat.le_refl _) hi
    have hS2 := sym_or hS
    have hn20 : n ≤ 20 := Nat.le_trans hn (Nat.le_of_lt (Nat.lt_trans hi (by decide)))
    k_steps
    (with_reducible rename Fr _ _ _ _ => F9)
    (with_reducible rename News _ _ _ _ => N9)
    exact items_end F9 N9 (off_lt lI rfl) ⟨List.Mem.tail _ (.head _), ⟨_, _, _, _, map_dup, rfl, by assumption, Nat.le_trans (by assumption) (Nat.succ_le_succ hn), hS2⟩⟩
  · rintro m nw ⟨us, so, S, n, rfl, rfl, hso, hn, hS⟩ h tk F7 N7
    refine ⟨?_⟩
    (try dsimp only)
    k_steps
    (with_reducible rename Fr _ _ _ _ => F9)
    (with_reducible rename News _ _ _ _ => N9)
    exact HE _ _ _ _ F9 N9 fun F8 N8 K8 => hret _ _ F8 (news_tail N8) (kept_same N (news_tail N8) (kept_as has K8))
end
/-! F13 -/
section
local macro_rules | `(tactic| walk_at "subscriptTail") => `(tactic| (k_here; (with_reducible show wpAny _ _ (subscriptTail _ _ (Value.ref _) (Value.int _ _)) _ _ _); k_dflt (refine' item_tup (at_news (by k_asm) (by k_mem)) ?_ (by assumption) (by decide) ?_; omega)))
theorem rows_spec {w : World} {mean : ExcName → Option Value} {mg mb : Str → Option Value} {dp un : Nat} {gd : Option (List Code)} {cn : Str} {cs : Scope} {ca : Addr} {ccd : Value} {cl : List (Str × Addr)} {outer : List Env} {A₀ : Around} {base h₀ : Heap} {L : Addr} {m : Str → Option Value} {s : Shared} {Q E : Value → Shared → Prop}
    (B : Below A₀ base outer h₀) (F : Fr h₀ L s.heap m) (X : (hd.heap_1 w.params).In h₀) (T : Top hd.view_1 (looseW hd.view_1 []) mean mg mb h₀) (hk : cs.kind = .function) (hdp : dp + 3 < recursionLimit) (hun : un + 24 < cLine)
    {a : Addr} {u : Nat → Tok} (N : News h₀ L s.heap ([(a, tupObj (cntL u))])) 
    (hret : ∀ (h' : Heap) (tk' : Nat) (l : Addr) (rs : List (Addr × Tok × Tok × Tok)) (n : Nat), Fr h₀ L h' m → News h₀ L h' ((l, listOf (rowRefs rs).toArray n) :: rowsFrom 0 rs) → Kept ([]) s.heap h' → rs.length = 16 →  Q (.ref l) { s with heap := h', toks := tk' }) :
    wpAny (model PySem.Challenge.rw_nz0255_01.row.prog w) (ktrTop dp un gd cn cs L ca ccd cl outer) (call (.ref 313) [.ref a]) Q E s := by
  refine with_as N fun as has => ?_
  refine wpAny_call ?_
  refine code_defK (by k_asm) (by k_asm) (by k_asm) (by k_asm) (by k_asm) rfl rfl (by assumption) (by k_is) (by k_is) (lt_dp hdp) (BindsTo.of_eq rfl) (locs rfl) has ?_ rfl rfl rfl (by decide)
  intro g' L' h' PP F' N' B' X' T' HE
  (try dsimp only)
  (try k_lift B')
  (try k_fold)
  refine kk_stmt ?_
  k_fold
  k_steps
  refine ⟨?_⟩
  (try dsimp only)
  (try refine tkA fun _ => ?_)
  refine kk_stmt ?_
  k_fold
  k_steps
  refine ⟨?_⟩
  (try dsimp only)
  (try refine tkA fun _ => ?_)
  refine kk_stmt (kk_for_range (n := 16) (by k_asm) rfl (by rfl) (by rfl) ?_)
  k_steps
  (with_reducible rename Fr _ _ _ _ => F5)
  (with_reducible rename News _ _ _ _ => N5)
  refine ⟨_, _, _, _, _, _, _, [(_, listOf (rowRefs []).toArray 0), (a, tupObj (cntL u))], rfl, by k_asm, (news_sub N5 ((fm ((.tail _ (.head _))) (fm ((.tail _ (.tail _ (.head _)))) (List.forall_mem_nil _))))), by assumption, by decide, by rfl, fun I lI => ?_⟩
  k_lt lI
  refine rangeRest_ind (rowsJ u a _ _) ⟨_, _, _, _, [], _, map_rows0, rfl, rfl, fun p hp => nomatch hp⟩ ?_ ?_
  · rintro i m nw hi ⟨us, um, tc, tp, rs, n, rfl, hrs, rfl, hoff⟩ t4 h tk F6 N6
    have hcnt := cnt_getD hi
    have hc1 := codeAt_succ i
    have hp1 := placeAt_succ i
    have hlt := code_room i hi
    rw [← hcnt] at hlt
    k_steps
    (with_reducible rename Fr _ _ _ _ => F7)
    (with_reducible rename News _ _ _ _ => N7)
    rw [hcnt] at F7 N7
    exact rows_end hrs hoff (by omega) F7 N7 ⟨_, _, _, _, map_rows1 hc1.symm hp1.symm⟩
  · rintro m nw ⟨us, um, tc, tp, rs, n, rfl, hrs, rfl, hoff⟩ h tk F6 N6
    refine ⟨?_⟩
    (try dsimp only)
    k_steps
    (with_reducible rename Fr _ _ _ _ => F9)
    (with_reducible rename News _ _ _ _ => N9)
    exact HE _ _ _ _ F9 N9 fun F8 N8 K8 => hret _ _ _ rs _ F8 (news_sub N8 ((fm (.head _) (fun p hp => .tail _ (.tail _ hp))))) (kept_same N (news_sub N8 ((fm (.tail _ (.head _)) (List.forall_mem_nil _)))) (kept_as has K8)) hrs
end
/-! F14 -/
section
local macro_rules | `(tactic| walk_at "binaryOp RShift int int") => `(tactic| (k_here; (with_reducible refine rshift_int ?_ ?_); omega))
local macro_rules | `(tactic| walk_at "binaryOp LShift int int") => `(tactic| (k_here; (with_reducible refine lshift_int_small ?_ ?_ ?_ ?_); omega; omega; omega))
local macro_rules | `(tactic| walk_at "subscriptTail Name BinOp ref int") => `(tactic| (k_here; (with_reducible show wpAny _ _ (subscriptTail _ _ (Value.ref _) (Value.int _ _)) _ _ _); k_dflt (refine' item_list (vs := rowRefs _) (at_news (by k_asm) (by k_mem)) ?_ (by assumption) (by rw [List.length_map]; omega) ?_; omega)))
local macro_rules | `(tactic| walk_at "subscriptTail") => `(tactic| walk_at "last subscriptTail")
local macro_rules | `(tactic| walk_at "setItem ref int") => `(tactic| (k_here; refine stop_any ?_))
theorem table_spec {w : World} {mean : ExcName → Option Value} {mg mb : Str → Option Value} {dp un : Nat} {gd : Option (List Code)} {cn : Str} {cs : Scope} {ca : Addr} {ccd : Value} {cl : List (Str × Addr)} {outer : List Env} {A₀ : Around} {base h₀ : Heap} {L : Addr} {m : Str → Option Value} {s : Shared} {Q E : Value → Shared → Prop}
    (B : Below A₀ base outer h₀) (F : Fr h₀ L s.heap m) (X : (hd.heap_1 w.params).In h₀) (T : Top hd.view_1 (looseW hd.view_1 []) mean mg mb h₀) (hk : cs.kind = .function) (hdp : dp + 5 < recursionLimit) (hun : un + 40 < cLine)
    {a b : Addr} {t u : Nat → Tok} {n1 n2 : Nat} (N : News h₀ L s.heap ([(b, listOf (symL t).toArray n2), (a, listOf (cntL u).toArray n1)])) 
    (hret : ∀ (h' : Heap) (tk' : Nat) (e tt : Nat → Nat) (rs : List (Addr × Tok × Tok × Tok)) (cs : List (Addr × Tok × Tok)) (o : Obj), Fr h₀ L h' m → News h₀ L h' (tabL w e rs cs o tt) → Kept ([]) s.heap h' → Tab PySem.Challenge.rw_nz0255_01.row.prog w e rs cs o →  Q (.ref (e 0)) { s with heap := h', toks := tk' }) :
    wpAny (model PySem.Challenge.rw_nz0255_01.row.prog w) (ktrTop dp un gd cn cs L ca ccd cl outer) (call (.ref 351) [.ref a, .ref b]) Q E s := by
  refine wpAny_call (make_KK F N (X.keeps F.keep) (by k_is) (by k_is) (by k_is) fun x dx h1 F1 N1 l1 l2 K1 hs1 => ?_)
  have l2 : @LT.lt Nat _ dx x := l2
  k_lt l1
  refine with_as N1 fun as has => ?_
  refine code_defK (by k_asm) (by k_asm) (by k_asm) (by k_asm) (by k_asm) rfl rfl (by assumption) (by k_is) (by k_is) (room_lt (j := 1) hdp (by decide)) (BindsTo.of_eq rfl) (locs rfl) has ?_ rfl rfl rfl (by decide)
  intro g' L' h' PP F' N' B' X' T' HE
  (try dsimp only)
  (try k_lift B')
  (try k_fold)
  refine kk_stmt ?_
  k_fold
  k_steps
  refine ⟨?_⟩
  (with_reducible rename Fr _ _ _ _ => F5)
  (with_reducible rename News _ _ _ _ => N5)
  refine check_spec (by k_asm) (by k_asm) (by assumption) (by k_asm) rfl (room_lt (j := 3) hdp (by decide)) (room_lt (j := 12) hun (by decide)) (news_sub N5 (by repeat' (first | refine (fm (by k_mem) ?_) | exact List.forall_mem_nil _ | exact (fun p hp => by repeat (first | exact hp | refine List.Mem.tail _ ?_)))))  ?_
  intro h8 tk8 F8 N8 K8
  have N9 := keep_all N5 K8
  clear N5 N8 K8
  k_steps
  refine ⟨?_⟩
  (try dsimp only)
  refine kk_stmt ?_
  k_fold
  k_steps
  refine ⟨?_⟩
  (try dsimp only)
  (try refine tkA fun _ => ?_)
  refine kk_stmt ?_
  k_fold
  k_steps
  refine ⟨?_⟩
  (try dsimp only)
  (try refine tkA fun _ => ?_)
  refine kk_stmt ?_
  k_fold
  k_steps
  refine ⟨?_⟩
  (with_reducible rename Fr _ _ _ _ => F5)
  (with_reducible rename News _ _ _ _ => N5)
  refine rows_spec (by k_asm) (by k_asm) (by assumption) (by k_asm) rfl (room_lt (j := 5) hdp (by decide)) (room_lt (j := 28) hun (by decide)) (news_sub N5 (by repeat' (first | refine (fm (by k_mem) ?_) | exact List.forall_mem_nil _ | exact (fun p hp => by repeat (first | exact hp | refine List.Mem.tail _ ?_)))))  ?_
  intro h8 tk8 l rs n F8 N8 K8 hrs
  have N9 := keep_tail N5 K8 N8
  clear N5 N8 K8
  simp only [List.cons_append, List.nil_append] at N9
  have x1 : @Ne Nat l dx := ne_of N9 (.head _) (oa := listOf (rowRefs rs).toArray n) (ob := dictOf _ 2) (by k_mem) (by intro h; refine absurd (congrArg Obj.cls h) ?_; simp; done)
  have x2 : ∀ p ∈ rowsFrom 0 rs, p.1 ≠ dx := off_of N9 (it := dictOf _ 2) (by k_mem) (fun p hp => ⟨(by repeat (first | exact hp | refine List.Mem.tail _ ?_)), by rw [rowsFrom_cls _ _ p hp]; simp⟩)
  k_steps
  refine ⟨?_⟩
  (try dsimp only)
  refine kk_stmt ?_
  k_fold
  k_steps
  refine ⟨?_⟩
  (try dsimp only)
  (try refine tkA fun _ => ?_)
  (with_reducible rename Obj.IsDictOf _ _ _ => hisd)
  refine kk_stmt (kk_for_range (n := 16) (by k_asm) rfl (by rfl) (by rfl) ?_)
  k_steps
  (with_reducible rename News _ _ _ _ => N8)
  refine ⟨_, _, _, _, _, _, _, (_, _) :: (l, listOf (rowRefs rs).toArray n) :: (_, tupObj (symL t)) :: (_, tupObj (cntL u)) :: (x, instObj 351 dx) :: (dx, dictOf _ 4) :: (b, listOf (symL t).toArray n2) :: (a, listOf (cntL u).toArray n1) :: rowsFrom 0 rs, rfl, by k_asm, news_sub N8 (by repeat' (first | refine (fm (by k_mem) ?_) | exact List.forall_mem_nil _ | exact (fun p hp => by repeat (first | exact hp | refine List.Mem.tail _ ?_)))), by assumption, by decide, by rfl, fun I lI => ?_⟩
  refine rangeRest_ind (tabJ PySem.Challenge.rw_nz0255_01.row.prog w [(l, listOf (rowRefs rs).toArray n), (_, tupObj (symL t)), (_, tupObj (cntL u)), (x, instObj 351 dx), (dx, dictOf _ 4), (b, listOf (symL t).toArray n2), (a, listOf (cntL u).toArray n1)] rs _ _) ⟨_, _, _, _, _, [], _, fun _ => rfl, fun h => absurd h (by decide), by assumption, (by rw [show codesFrom 0 [] = [] from rfl, List.append_nil]; rfl), map_five⟩ ?_ ?_
  · rintro i m nw hi ⟨us, uf, um, up, uk, cs, o, hcs5, hcs6, ho, rfl, rfl⟩ t4 h tk F6 N6
    simp only [List.cons_append, List.nil_append] at N6
    obtain ⟨r, hr⟩ : ∃ r, rs[i]? = some r := ⟨rs[i]'(by omega), List.getElem?_eq_getElem (by omega)⟩
    obtain ⟨ra, rt⟩ := r
    have hmem : (ra, rowObj i rt) ∈ rowsFrom 0 rs ++ codesFrom 0 cs := List.mem_append_left (codesFrom 0 cs) (by have := row_get (k := 0) hr; rwa [Nat.zero_add] at this)
    have hval : (rowRefs rs)[i]? = some (.ref ra) := by rw [List.getElem?_map, hr]; rfl
    have hT : ∀ p ∈ rowsFrom 0 rs ++ codesFrom 0 cs, p.1 ≠ _ := off_of N6 (it := o) (.tail _ (.head _)) (fun p hp => ⟨(by repeat (first | exact hp | refine List.Mem.tail _ ?_)), by rw [rowsCodes_cls p hp, isDict_cls ho]; simp⟩)
    refine hideQA fun Qb hQb => ?_
    by_cases h5 : i = 5
    · subst h5
      have N7 := news_dup (a := ra) (o := rowObj 5 rt) (o' := tupObj [.int 0 rt.1, .int 16 rt.2.1, .int 0 rt.2.2]) N6 (by have hp := hmem; repeat (first | exact hp | refine List.Mem.tail _ ?_)) rfl
      clear N6
      refine kk_stmt ?_
      k_steps
      refine ⟨?_⟩
      (try dsimp only)
      refine kk_stmt (kk_for_range (n := 16) (by k_asm) rfl (by rfl) (by rfl) ?_)
      k_steps
      (with_reducible rename News _ _ _ _ => N8)
      have N9 := news_sub N8 (fun p hp => .tail _ hp)
      have hcs0 := hcs5 (by decide)
      subst hcs0
      refine ⟨_, _, _, _, _, _, _, _, rfl, by k_asm, N9, by assumption, by decide, by rfl, fun I2 lI2 => ?_⟩
      refine rangeRest_ind (tabJ3 PySem.Challenge.rw_nz0255_01.row.prog w [(l, listOf (rowRefs rs).toArray n), (_, tupObj (symL t)), (_, tupObj (cntL u)), (x, instObj 351 dx), (dx, dictOf _ 4), (b, listOf (symL t).toArray n2), (a, listOf (cntL u).toArray n1)] rs _ _ (I, _)) ⟨⟨_, [], o, rfl, ho, rfl, map_one⟩, rfl⟩ ?_ ?_
      · rintro k m nw hk16 ⟨⟨uk2, cs2, o2, hcs2, ho2, hnw, rfl⟩, hhd⟩ t7 h7 tk7 F10 N10
        rw [head_drop hhd hnw] at N10
        simp only [List.cons_append, List.nil_append] at N10
        have hT2 : ∀ p ∈ rowsFrom 0 rs ++ codesFrom 0 cs2, p.1 ≠ _ := off_of N10 (it := o2) (.tail _ (.tail _ (.head _))) (fun p hp => ⟨(by repeat (first | exact hp | refine List.Mem.tail _ ?_)), by rw [rowsCodes_cls p hp, isDict_cls ho2]; simp⟩)
        have hz2 : (pairsFrom 0 cs2).length ≤ sizeLine := by rw [pairs_len, sizeLine_eq]; omega
        refine hideQA fun Qc hQc => ?_
        k_lt lI
        k_lt lI2
        k_steps
        refine ⟨?_⟩
        first | refine kda_set (knd := PySem.intKind _ _) (by k_asm) (by k_asm) (by k_updF) (by assumption) (intKind_is _ _ _ _) (by assumption) ?_ | fail "no"
        intro _ _ _ _ _
        k_steps
        (with_reducible rename Fr _ _ _ _ => F11)
        (with_reducible rename News _ _ _ _ => N11)
        (with_reducible rename Obj.IsDictOf _ _ _ => hd9)
        rw [show ((0 : Int) + (0 + (k : Int))) = (k : Int) by omega, show ((1 : Int) + ((5 : Nat) : Int)) = 6 from rfl] at N11
        rw [sym_getD' hk16] at hd9
        exact hQc _ _ (tab_end2 F11 N11 hd9 hcs2 hk16 (by omega) ⟨_, map_dup⟩)
      · rintro m nw ⟨⟨uk2, cs2, o2, hcs2, ho2, hnw, rfl⟩, hhd⟩ h7 tk7 F10 N10
        rw [head_drop hhd hnw] at N10
        simp only [List.cons_append, List.nil_append] at N10
        refine ⟨?_⟩
        (try dsimp only)
        refine wpAny_execs_nil ?_
        exact hQb _ _ (tab_end F10 N10 ho2 (fun h => absurd h (by decide)) (fun _ => hcs2) ⟨_, _, _, _, _, (by refine canon5 ?_; repeat (first | exact offM_refl | refine offM_set (by decide) ?_))⟩)
    · have hm0 : manyAt i = 0 := if_neg h5
      have N7 := news_dup (a := ra) (o := rowObj i rt) (o' := tupObj [.int (codeAt i) rt.1, .int 0 rt.2.1, .int (placeAt i) rt.2.2]) N6 (by have hp := hmem; repeat (first | exact hp | refine List.Mem.tail _ ?_)) (by rw [rowObj, hm0])
      clear N6
      refine kk_stmt ?_
      k_steps
      refine ⟨?_⟩
      (try dsimp only)
      refine kk_stmt (kk_for_range (n := 0) (by k_asm) rfl (by rfl) (by rfl) ?_)
      k_steps
      (with_reducible rename News _ _ _ _ => N8)
      have N9 := news_sub N8 (fun p hp => .tail _ hp)
      refine ⟨_, _, _, _, _, _, _, _, rfl, by k_asm, N9, by assumption, by decide, by rfl, fun I2 lI2 => RangeRest.zero fun h7 tk7 F10 N10 => ?_⟩
      refine ⟨?_⟩
      (try dsimp only)
      refine wpAny_execs_nil ?_
      exact hQb _ _ (tab_end F10 N10 ho (fun h => hcs5 (by omega)) (fun h => hcs6 (by omega)) ⟨_, _, _, _, _, (by refine canon5 ?_; repeat (first | exact offM_refl | refine offM_set (by decide) ?_))⟩)
  · rintro m nw ⟨us, uf, um, up, uk, cs, o, hcs5, hcs6, ho, rfl, rfl⟩ h tk F6 N6
    simp only [List.cons_append, List.nil_append] at N6
    refine ⟨?_⟩
    (try dsimp only)
    k_steps
    (with_reducible rename Fr _ _ _ _ => F9)
    (with_reducible rename News _ _ _ _ => N9)
    refine HE _ _ _ _ F9 N9 fun F8 N8 K8 => ?_
    refine ⟨rfl, ?_⟩
    have K9 := kept_left (a := [(x, instObj 351 dx), (dx, emptyDict)]) (b := [(b, listOf (symL t).toArray n2), (a, listOf (cntL u).toArray n1)]) (kept_as has K8) (fun p hp => N1 p (.tail _ (.tail _ hp))) (news_sub N8 (by repeat' (first | refine (fm (by k_mem) ?_) | exact List.forall_mem_nil _ | exact (fun p hp => by repeat (first | exact hp | refine List.Mem.tail _ ?_)))))
    exact hret _ _ (lst [x, dx, _, _, _, _, _, _, _, _, _]) _ _ _ _ F8 (news_sub N8 (by repeat' (first | refine (fm (by k_mem) ?_) | exact List.forall_mem_nil _ | exact (fun p hp => by repeat (first | exact hp | refine List.Mem.tail _ ?_))))) (kept_new K1 K9 ((fm (Nat.le_trans hs1 (Nat.le_of_lt l2)) (fm (hs1) (List.forall_mem_nil _))))) ⟨hrs, hcs6 (by decide), ho, by assumption⟩
end
/-! F15 -/
section
local macro_rules | `(tactic| walk_at "call builtin:len") => `(tactic| (k_here; (with_reducible show wpAny _ _ (call (Value.builtin "len") [Value.bytes _ _]) _ _ _); (refine len_bytes (by simp only [List.size_toArray]; omega) ?_)))
inductive readJI (w : World) (tl : List (Addr × Obj)) (b : Nat → Nat) (ol : List UInt8) (i : Nat) (m0 : Str → Option Value) (j : Nat) (m : Str → Option Value) (nw : List (Addr × Obj)) : Prop
  | mk : ∀ uf um up tc t2, (j ≤ 5) → (m = (fun y => if y = PySem.Str.ofString "code" then some (.int ((bval (rbits ol i (j)) : Nat) : Int) tc) else if y = PySem.Str.ofString "first" then uf else if y = PySem.Str.ofString "many" then um else if y = PySem.Str.ofString "place" then up else m0 y)) → (nw = readerL w b ol (i + j : Nat) t2 ++ tl) → readJI w tl b ol i m0 j m nw
noncomputable def readJ (w : World) (tl : List (Addr × Obj)) (b : Nat → Nat) (ol : List UInt8) (i : Nat) (m0 : Str → Option Value) (j : Nat) (m : Str → Option Value) (nw : List (Addr × Obj)) : Prop := Stop (readJI w tl b ol i m0 j m nw)
theorem read_five {j : Nat} {x : Int} (hj : j ≤ 5) (h : x - codeAt j < manyAt j) (hx : 0 ≤ x) : j = 5 := by
  by_cases q : j = 5
  · exact q
  · unfold codeAt manyAt at h
    rw [if_pos hj, if_neg q, Int.sub_zero] at h
    exact absurd h (Int.not_lt.mpr hx)
theorem read_spec {w : World} {mean : ExcName → Option Value} {mg mb : Str → Option Value} {dp un : Nat} {gd : Option (List Code)} {cn : Str} {cs : Scope} {ca : Addr} {ccd : Value} {cl : List (Str × Addr)} {outer : List Env} {A₀ : Around} {base h₀ : Heap} {L : Addr} {m : Str → Option Value} {s : Shared} {Q E : Value → Shared → Prop}
    (B : Below A₀ base outer h₀) (F : Fr h₀ L s.heap m) (X : (hd.heap_1 w.params).In h₀) (T : Top hd.view_1 (looseW hd.view_1 []) mean mg mb h₀) (hk : cs.kind = .function) (hdp : dp + 2 < recursionLimit) (hun : un + 16 < cLine)
    {b : Nat → Nat} {ol : List UInt8} {i : Nat} {t1 : Tok} {e : Nat → Nat} {rs : List (Addr × Tok × Tok × Tok)} {cs' : List (Addr × Tok × Tok)} {o : Obj} {tt : Nat → Tok} {k : Nat} (N : News h₀ L s.heap (readerL w b ol i t1)) (NR : News h₀ L s.heap (tabL w e rs cs' o tt)) (hO : ∀ p ∈ tabL w e rs cs' o tt, p.1 ∉ rdA b) (ht : Tab PySem.Challenge.rw_nz0255_01.row.prog w e rs cs' o) (hD : @Ne Nat (b 0) (b 1)) (hk : k < 16) (hi : i + 6 ≤ 8 * ol.length) (hol : ol.length ≤ 1000) (hb : rbits ol i 6 = natBits 6 k)
    (hret : ∀ (h' : Heap) (tk' : Nat) (t2 tq : Tok), Fr h₀ L h' m → News h₀ L h' (readerL w b ol (i + 6 : Nat) t2) → Kept (rdA b) s.heap h' →  Q (.int (symAt k) tq) { s with heap := h', toks := tk' }) :
    wpAny (model PySem.Challenge.rw_nz0255_01.row.prog w) (ktrTop dp un gd cn cs L ca ccd cl outer) (call (.ref 348) [.ref (e 0), .ref (b 0)]) Q E s := by
  have hb6 : bval (rbits ol i 6) = k := by rw [hb, bval_natBits_lt (Nat.lt_trans (by assumption) (by decide : 16 < 2 ^ 6))]
  have hrs := ht.1
  have N0 := news_app N NR
  refine with_as N0 fun as has => ?_
  refine wpAny_call ?_
  refine code_defK (by k_asm) (by k_asm) (by k_asm) (by k_asm) (by k_asm) rfl rfl (by assumption) (by k_is) (by k_is) (lt_dp hdp) (BindsTo.of_eq rfl) (locs rfl) has ?_ rfl rfl rfl (by decide)
  intro g' L' h' PP F' N' B' X' T' HE
  (try dsimp only)
  (try k_lift B')
  (try k_fold)
  have N1 : News g' L' h' ((e 0, instObj 351 (e 1)) :: (e 1, dictOf (tabE w e) 4) :: (e 3, listOf (rowRefs rs).toArray (e 10)) :: (readerL w b ol i t1 ++ tabL w e rs cs' o tt)) :=
    (fm (N' _ (.tail _ (.tail _ (.head _)))) (fm (N' _ (.tail _ (.tail _ (.tail _ (.head _))))) (fm (N' _ (.tail _ (.tail _ (.tail _ (.tail _ (.tail _ (.head _))))))) (N'))))
  clear N'
  refine kk_stmt ?_
  k_fold
  k_steps
  refine ⟨?_⟩
  (try dsimp only)
  (try refine tkA fun _ => ?_)
  refine kk_stmt (kk_for_items (by k_asm) rfl ?_)
  k_steps
  (with_reducible rename News _ _ _ _ => N6)
  have N7 := news_sub N6 (l := readerL w b ol i t1 ++ tabL w e rs cs' o tt) (fun p hp => .tail _ (.tail _ (.tail _ hp)))
  refine ⟨⟨_, _, rowRefs rs, _, _, _, rfl, by k_asm, N7, List.mem_append_right _ (.tail _ (.tail _ (.tail _ (.head _)))), rfl, rfl, fun I lI => ?_⟩⟩
  have hrI : I ∉ rdA b := rd_off (lI _ (.head _)) (lI _ (.tail _ (.head _)))
  refine items_ind (readJ w (tabL w e rs cs' o tt) b ol i _) ⟨_, _, _, _, _, by decide, (canon4 offM_refl), rfl⟩ ?_ ?_
  · rintro j v m nw hv ⟨uf, um, up, tc, t2, hj, rfl, rfl⟩ it h tk hc F7 N7
    have hjl : j < rs.length := by rw [hrs]; exact Nat.lt_of_le_of_lt hj (by decide)
    have hv2 : v = .ref (rs[j]).1 := by
      have e := List.getElem?_map (f := fun r : Addr × Tok × Tok × Tok => Value.ref r.1) (l := rs) (i := j)
      rw [hv, List.getElem?_eq_getElem hjl] at e
      exact Option.some.inj e
    subst hv2
    have hrow := row_get (rs := rs) (i := j) (k := 0) (List.getElem?_eq_getElem hjl)
    rw [Nat.zero_add] at hrow
    generalize rs[j] = r at *
    obtain ⟨ra, ta, tb', tcc⟩ := r
    have hrT : (ra, rowObj j (ta, tb', tcc)) ∈ tabL w e rs cs' o tt := .tail _ (.tail _ (.tail _ (.tail _ (.tail _ (List.mem_append_left _ hrow)))))
    have N8 : News g' L' h (readerL w b ol (i + j : Nat) t2 ++ (I, it) :: (ra, rowObj j (ta, tb', tcc)) :: (e 0, instObj 351 (e 1)) :: (e 1, dictOf (tabE w e) 4) :: (e 4, tupObj (symL tt)) :: tabL w e rs cs' o tt) := news_app (news_left (news_tail N7)) ((fm (N7 _ (.head _)) (fm (N7 _ (.tail _ (List.mem_append_right _ hrT))) (news_sub N7 ((fm (.tail _ (.tail _ (.tail _ (.head _)))) (fm (.tail _ (.tail _ (.tail _ (.tail _ (.head _))))) (fm (.tail _ (.tail _ (.tail _ (.tail _ (.tail _ (.tail _ (.tail _ (.head _)))))))) (fun p hp => .tail _ (List.mem_append_right _ hp))))))))))
    dsimp only [readerL, List.cons_append, List.nil_append] at N8
    have hOv : ∀ p ∈ (I, it) :: (ra, rowObj j (ta, tb', tcc)) :: (e 0, instObj 351 (e 1)) :: (e 1, dictOf (tabE w e) 4) :: (e 4, tupObj (symL tt)) :: tabL w e rs cs' o tt, p.1 ∉ rdA b :=
      (fm (hrI) (fm (hO _ hrT) (fm (hO _ (.head _)) (fm (hO _ (.tail _ (.head _))) (fm (hO _ (.tail _ (.tail _ (.tail _ (.tail _ (.head _)))))) (hO))))))
    clear N7
    have hbv := rbits_val ol i j
    have hb5 := rbits_val ol i 5
    have hcj : codeAt j = 0 := by unfold codeAt; rw [if_pos hj]
    have hpj : placeAt j = 0 := by unfold placeAt; rw [if_pos hj]
    have hm16 : manyAt j ≤ 16 := by unfold manyAt; split <;> decide
    have hb6' : bval (rbits ol i (5 + 1)) = k := hb6
    have hval : ∀ x : Int, x = (k : Int) → ([0, 16, 32, 48, 64, 80, 96, 1, 2, 3, 17, 18, 19, 33, 34, 35] : List Int).getD x.toNat 0 = symAt k := by intro x hx; subst hx; rfl
    have hij : i + j < 8 * ol.length := Nat.lt_of_lt_of_le (Nat.add_lt_add_left (Nat.lt_succ_of_le hj) i) (by assumption)
    k_steps
    refine ⟨?_⟩
    (with_reducible rename Fr _ _ _ _ => F5)
    (with_reducible rename News _ _ _ _ => N5)
    refine bit_spec (by k_asm) (by k_asm) (by assumption) (by k_asm) rfl (room_lt (j := 2) hdp (by decide)) (room_lt (j := 11) hun (by decide)) (news_left (a := readerL w b ol (i + j : Nat) t2) (b := (I, it) :: (ra, rowObj j (ta, tb', tcc)) :: (e 0, instObj 351 (e 1)) :: (e 1, dictOf (tabE w e) 4) :: (e 4, tupObj (symL tt)) :: tabL w e rs cs' o tt) N5) hD hij hol ?_
    intro h8 tk8 t8 t9 F8 N8 K8
    have N9 := news_app N8 (keep_off (news_right (a := readerL w b ol (i + j : Nat) t2) (b := (I, it) :: (ra, rowObj j (ta, tb', tcc)) :: (e 0, instObj 351 (e 1)) :: (e 1, dictOf (tabE w e) 4) :: (e 4, tupObj (symL tt)) :: tabL w e rs cs' o tt) N5) K8 hOv)
    dsimp only [readerL, List.cons_append, List.nil_append] at N9
    clear N5 N8 K8
    k_steps
    · have hj5 : j = 5 := read_five hj (by assumption) (Int.add_nonneg (Int.mul_nonneg (Int.natCast_nonneg _) (by decide)) (Int.natCast_nonneg _))
      subst hj5
      rw [hval _ (by rw [show codeAt 5 = 0 from rfl, show placeAt 5 = 0 from rfl, Int.sub_zero, Int.zero_add, ← hb5, hb6'])]
      refine ⟨?_⟩
      show Stop _
      refine ⟨?_⟩
      dsimp only
      (with_reducible rename Fr _ _ _ _ => F9)
      (with_reducible rename News _ _ _ _ => N9)
      have NT := news_sub N9 (l := tabL w e rs cs' o tt) (fun p hp => .tail _ (.tail _ (.tail _ (.tail _ (.tail _ (.tail _ (.tail _ hp)))))))
      exact HE _ _ _ _ F9 (news_app (news_left (a := readerL w b ol (i + 5 + 1) _) N9) NT) fun F8 N8 K8 => hret _ _ _ _ F8 (news_left N8) (kept_left (kept_as has K8) NR NT)
    · have hj5 : j < 5 := by
        rcases Nat.lt_or_eq_of_le hj with hm | rfl
        · exact hm
        · refine absurd ?_ (by assumption)
          rw [show codeAt 5 = 0 from rfl, Int.sub_zero, ← hb5, hb6']
          exact Int.ofNat_lt.mpr (by assumption)
      (with_reducible rename Fr _ _ _ _ => F9)
      (with_reducible rename News _ _ _ _ => N9)
      have NT := news_sub N9 (l := tabL w e rs cs' o tt) (fun p hp => .tail _ (.tail _ (.tail _ (.tail _ (.tail _ (.tail _ (.tail _ hp)))))))
      exact items_end (nw := readerL w b ol (i + (j + 1)) _ ++ tabL w e rs cs' o tt) F9 ((fm (N9 _ (.tail _ (.tail _ (.head _)))) (news_app (news_left (a := readerL w b ol (i + (j + 1)) _) N9) NT))) (off_lt lI rfl) ⟨.tail _ (.tail _ (.tail _ (.tail _ (.tail _ (.head _))))), ⟨_, _, _, _, _, by omega, (by rw [hbv]; refine canon4 ?_; repeat (first | exact offM_refl | refine offM_set (by decide) ?_)), rfl⟩⟩
  · rintro m nw ⟨uf, um, up, tc, t2, hj, rfl, rfl⟩ h tk F7 N7
    rw [List.length_map, hrs] at hj
    exact absurd hj (by decide)
end
/-! F16 -/
section
local macro_rules | `(tactic| walk_at "binaryOp RShift int int") => `(tactic| (k_here; (with_reducible refine rshift_int ?_ ?_); omega))
theorem dccode_spec {w : World} {mean : ExcName → Option Value} {mg mb : Str → Option Value} {dp un : Nat} {gd : Option (List Code)} {cn : Str} {cs : Scope} {ca : Addr} {ccd : Value} {cl : List (Str × Addr)} {outer : List Env} {A₀ : Around} {base h₀ : Heap} {L : Addr} {m : Str → Option Value} {s : Shared} {Q : Value → Shared → Prop}
    (B : Below A₀ base outer h₀) (F : Fr h₀ L s.heap m) (X : (hd.heap_1 w.params).In h₀) (T : Top hd.view_1 (looseW hd.view_1 []) mean mg mb h₀) (hk : cs.kind = .function) (hdp : dp + 3 < recursionLimit) (hun : un + 24 < cLine)
    {c : Nat → Nat} {bs : Array UInt8} {r z : Int} {t1 t2 : Tok} {bl : List Bool} {xv : Nat → Value} {st en lo v : Int} {l : Addr} {nl : Nat} {t3 : Tok} {u5 pl : Value} (N : News h₀ L s.heap (sinkL w c bs r z t1 t2)) (NR : News h₀ L s.heap (dcwL w c ++ scanL w c xv st en lo ++ [(l, listOf #[.int v t3, u5] nl)])) (hO : ∀ p ∈ dcwL w c ++ scanL w c xv st en lo ++ [(l, listOf #[.int v t3, u5] nl)], p.1 ∉ sinkA c) (hD : (sinkA c).Nodup) (W : WOk bl bs r z) (hz8 : z < 8) (hl0 : 0 ≤ lo) (hl9 : lo < 8) (hbl : bl.length < 2000)
    (hret : ∀ (h' : Heap) (tk' : Nat) (bs' : Array UInt8) (r' z' : Int) (t1' t2' : Tok), Fr h₀ L h' m → News h₀ L h' (sinkL w c bs' r' z' t1' t2') → Kept (sinkA c) s.heap h' → WOk (bl ++ [decide ((v.fdiv (2 ^ lo.toNat)).fmod 2 = 1)]) bs' r' z' → z' < 8 →  Q .none { s with heap := h', toks := tk' }) :
    wpC (model PySem.Challenge.rw_nz0255_01.row.prog w) (ktrTop dp un gd cn cs L ca ccd cl outer) (call (.ref 383) [.ref (c 11), pl, .ref l]) Q NoE s := by
  have N0 := news_app N NR
  refine with_as N0 fun as has => ?_
  refine c_call ?_
  refine codeC_defK (by k_asm) (by k_asm) (by k_asm) (by k_asm) (by k_asm) rfl rfl (by assumption) (by k_is) (by k_is) (lt_dp hdp) (BindsTo.of_eq rfl) (locs rfl) has ?_ rfl rfl rfl (by decide)
  intro g' L' h' PP F' N' B' X' T' HE
  (try dsimp only)
  (try k_lift B')
  (try k_fold)
  have N1 : News g' L' h' ((c 6, instObj 512 (c 7)) :: (c 7, dictOf (sinkE w c) 2) :: (dcwL w c ++ scanL w c xv st en lo ++ [(l, listOf #[.int v t3, u5] nl)] ++ bwL w c bs r z t1 t2)) :=
    news_sub N' ((fm (.head _) (fm (.tail _ (.head _)) (fun p hp => (List.mem_append.mp hp).elim (List.mem_append_right _) (fun q => .tail _ (.tail _ (List.mem_append_left _ q)))))))
  clear N'
  dsimp only [dcwL, scanL, List.cons_append, List.nil_append] at N1
  refine c_execs_cons (c_Expr (k_meth ?_))
  k_steps
  refine ⟨?_⟩
  (try dsimp only)
  refine c_callK (K := hd.heap_1 w.params) (by k_is) ?_
  refine c_spliced_cons (k_arg ?_)
  k_steps
  refine ⟨?_⟩
  refine c_spliced_cons (k_arg ?_)
  k_steps
  refine ⟨?_⟩
  refine c_spliced_nil ⟨by k_in, ?_⟩
  (try dsimp only [List.cons_append, List.nil_append])
  (with_reducible rename Fr _ _ _ _ => F5)
  (with_reducible rename News _ _ _ _ => N5)
  obtain ⟨q1, q2, q3⟩ := bit1 (v.fdiv (2 ^ lo.toNat))
  have NX : News g' L' _ (dcwL w c ++ scanL w c xv st en lo ++ [(l, listOf #[.int v t3, u5] nl)]) := fun p hp => N5 p (.tail _ (.tail _ (List.mem_append_left (as := dcwL w c ++ scanL w c xv st en lo ++ [(l, listOf #[.int v t3, u5] nl)]) _ hp)))
  refine sinkbits_spec (bl := bl) (by k_asm) (by k_asm) (by assumption) (by k_asm) rfl (room_lt (j := 3) hdp (by decide)) (room_lt (j := 19) hun (by decide)) (news_app (a := [_, _]) ((fm (N5 _ (.head _)) (fm (N5 _ (.tail _ (.head _))) (List.forall_mem_nil _)))) (fun p hp => N5 p (.tail _ (.tail _ (List.mem_append_right (dcwL w c ++ scanL w c xv st en lo ++ [(l, listOf #[.int v t3, u5] nl)]) hp))))) hD W hz8 (by decide) (by decide) q1 q2 hbl ?_
  rw [q3]
  intro h6 tk6 bs6 r6 z6 t6 u6 F6 N6 K6 W6 hz6
  refine ⟨rfl, ?_⟩
  refine c_execs_nil ?_
  have NT := keep_off NX K6 hO
  exact HE _ _ _ _ F6 (news_app N6 NT) fun F8 N8 K8 => hret _ _ _ _ _ _ _ F8 (news_left N8) (kept_left (kept_as has K8) NR NT) W6 hz6
end
/-! F17 -/
noncomputable def dcwA (c : Nat → Nat) : List Addr := [c 11, c 12]
theorem dcfinish_spec {w : World} {mean : ExcName → Option Value} {mg mb : Str → Option Value} {dp un : Nat} {gd : Option (List Code)} {cn : Str} {cs : Scope} {ca : Addr} {ccd : Value} {cl : List (Str × Addr)} {outer : List Env} {A₀ : Around} {base h₀ : Heap} {L : Addr} {m : Str → Option Value} {s : Shared} {Q : Value → Shared → Prop}
    (B : Below A₀ base outer h₀) (F : Fr h₀ L s.heap m) (X : (hd.heap_1 w.params).In h₀) (T : Top hd.view_1 (looseW hd.view_1 []) mean mg mb h₀) (hk : cs.kind = .function) (hdp : dp + 5 < recursionLimit) (hun : un + 40 < cLine)
    {c : Nat → Nat} {bs : Array UInt8} {r z : Int} {t1 t2 : Tok} {bl : List Bool} (N : News h₀ L s.heap (sinkL w c bs r z t1 t2)) (NR : News h₀ L s.heap (dcwL w c)) (hD : (sinkA c).Nodup) (W : WOk bl bs r z) (hz8 : z < 8) (hbl : bl.length < 2000)
    (hret : ∀ (h' : Heap) (tk' : Nat) (t : Tok), Fr h₀ L h' m → News h₀ L h' ([]) → Kept (dcwA c ++ sinkA c) s.heap h' →  Q (.bytes (pack bl) t) { s with heap := h', toks := tk' }) :
    wpC (model PySem.Challenge.rw_nz0255_01.row.prog w) (ktrTop dp un gd cn cs L ca ccd cl outer) (call (.ref 390) [.ref (c 11)]) Q NoE s := by
  have N0 := news_app NR N
  refine with_as N0 fun as has => ?_
  refine c_call ?_
  refine codeC_defK (by k_asm) (by k_asm) (by k_asm) (by k_asm) (by k_asm) rfl rfl (by assumption) (by k_is) (by k_is) (lt_dp hdp) (BindsTo.of_eq rfl) (locs rfl) has ?_ rfl rfl rfl (by decide)
  intro g' L' h' PP F' N' B' X' T' HE
  (try dsimp only)
  (try k_lift B')
  (try k_fold)
  dsimp only [dcwL, List.cons_append, List.nil_append] at N'
  refine c_execs_cons (c_Return (k_meth ?_))
  k_steps
  refine ⟨?_⟩
  (try dsimp only)
  refine c_callK0 (K := hd.heap_1 w.params) (by k_in) (by k_is) ?_
  (try dsimp only [List.cons_append, List.nil_append])
  (with_reducible rename Fr _ _ _ _ => F5)
  (with_reducible rename News _ _ _ _ => N5)
  refine sinkfinish_spec (bl := bl) (by k_asm) (by k_asm) (by assumption) (by k_asm) rfl (room_lt (j := 5) hdp (by decide)) (room_lt (j := 35) hun (by decide)) (fun p hp => N5 p (.tail _ (.tail _ hp))) hD W hz8 hbl ?_
  intro h6 tk6 t6 F6 N6 K6
  (try dsimp only)
  exact HE _ _ _ _ F6 News.nil fun F8 N8 K8 => hret _ _ _ F8 (fun _ h => nomatch h) (kept_as has K8)
/-! F18 -/
section
local macro_rules | `(tactic| walk_at "eval ListComp") => `(tactic| (k_here; k_dflt (refine comp_step (_F₀ := by k_asm) (by with_unfolding_all rfl) (by decide) (by rfl) (by decide) (by rfl) ?_)))
theorem oct_room {n i : Nat} (hi : i < n / 8) : 8 * i + 8 ≤ n := Nat.le_trans (Nat.mul_le_mul_left 8 hi) (Nat.mul_div_le n 8)
theorem octets_law {w : World} {mean : ExcName → Option Value} {mg mb : Str → Option Value} {dp un : Nat} {gd : Option (List Code)} {cn : Str} {cs : Scope} {ca : Addr} {ccd : Value} {cl : List (Str × Addr)} {outer : List Env} {A₀ : Around} {base h₀ : Heap} {L : Addr} {m : Str → Option Value} {s : Shared} {Q E : Value → Shared → Prop}
    (B : Below A₀ base outer h₀) (F : Fr h₀ L s.heap m) (X : (hd.heap_1 w.params).In h₀) (T : Top hd.view_1 (looseW hd.view_1 []) mean mg mb h₀) (hk : cs.kind = .function) (hdp : dp + 1 < recursionLimit) (hun : un + 8 < cLine)
    {t0 : Tok} {bl : List Bool} (N : News h₀ L s.heap ([])) (hbl : bl.length ≤ 1000) (hl : (figs bl).length ≤ 1000)
    (hret : ∀ (h' : Heap) (tk' : Nat) (t : Tok), Fr h₀ L h' m → News h₀ L h' ([]) → Kept ([]) s.heap h' →  Q (.bytes (pack bl) t) { s with heap := h', toks := tk' }) :
    wpAny (model PySem.Challenge.rw_nz0255_01.row.prog w) (ktrTop dp un gd cn cs L ca ccd cl outer) (call (.ref 540) [.str (figs bl) t0]) Q E s := by
  refine with_as N fun as has => ?_
  refine wpAny_call ?_
  refine code_defCK (by k_asm) (by k_asm) (by k_asm) (by k_asm) (by k_asm) rfl rfl (by assumption) (by k_is) (by k_is) (lt_dp hdp) (BindsTo.of_eq rfl) rfl (by decide +kernel) has ?_ rfl rfl rfl
  intro g' L' h' tk' cells' PP F' N' Y' B' X' T' l1 HE
  k_lt l1
  k_cells Y'
  (try simp only [List.cons_append, List.nil_append] at N')
  (try dsimp only)
  (try k_lift B')
  (try k_fold)
  refine kk_stmt ?_
  k_fold
  k_steps
  refine ⟨?_⟩
  (try dsimp only)
  (try refine tkA fun _ => ?_)
  rename_i dd
  rw [pad_text bl hbl] at dd
  have hpm := padded_mod bl
  have hpl9 : (padded bl).length ≤ 1010 := by rw [padded_length]; exact Nat.le_trans (Nat.add_le_add hbl (Nat.le_of_lt (Nat.mod_lt _ (by decide)))) (by decide)
  have hfl : (figs (padded bl)).length = (padded bl).length := figs_length _
  have hf9 : (figs (padded bl)).length ≤ 1010 := by rw [figs_length]; exact hpl9
  refine kk_stmt ?_
  k_fold
  k_steps
  refine ⟨_, _, _, _, _, _, _, (padded bl).length / 8, _, rfl, rfl, by k_asm, by k_asm, by assumption, ?_, ?_, ?_, fun g => ?_⟩
  · rw [hfl]; exact small_by8 hpm (Nat.le_trans hpl9 (by decide))
  · rw [hfl]; exact range_by8 hpm
  · rw [sizeLine_eq]; exact Nat.le_trans (Nat.div_le_self _ _) (Nat.le_trans hpl9 (by decide))
  refine comp_ind (fun i ys nw => nw = _ ∧ IntsAre ys ((List.range i).map fun j => ((bval (((padded bl).drop (8 * j)).take 8) : Nat) : Int))) ⟨rfl, .nil⟩ ?_ ?_
  · rintro i ys nw hi ⟨rfl, hys⟩ v I oI C oC D m₂ h tk E' ⟨_, t, rfl⟩ hNs hm₂ F₁ N₁ off ne
    obtain ⟨⟨o1, o2, o3⟩, _⟩ := off
    obtain ⟨e1, e2, e3⟩ := ne
    k_steps
    rw [slice_figs (oct_room hi)]
    refine call_int2 (by rw [List.length_take, List.length_drop]; exact Nat.min_eq_left (Nat.le_sub_of_add_le' (oct_room hi))) ?_
    k_steps
    (try lcg_end)
    (try refine And.intro rfl ?_)
    rw [List.range_succ, List.map_append]
    exact ints_snoc hys
  · rintro ys nw ⟨rfl, hys⟩ D h tk F₁ N₁ off
    k_steps
    have hlen := hys.length
    rw [List.length_map, List.length_range] at hlen
    refine call_bytes_ints (News.isList N₁ (.head _)) hys ?_ ?_ rfl fun h' t' k' hk' => ?_
    · intro n hn
      obtain ⟨j, _, rfl⟩ := List.mem_map.mp hn
      have := bval_lt (((padded bl).drop (8 * j)).take 8)
      have h8 : 2 ^ (((padded bl).drop (8 * j)).take 8).length ≤ 2 ^ 8 := Nat.pow_le_pow_right (by decide) (by rw [List.length_take]; exact Nat.min_le_left _ _)
      exact ⟨Int.natCast_nonneg _, Int.ofNat_lt.mpr (Nat.lt_of_lt_of_le this h8)⟩
    · rw [sizeLine_eq]; exact Nat.le_trans (Nat.le_of_eq hlen) (Nat.le_trans (Nat.div_le_self _ _) (Nat.le_trans hpl9 (by decide)))
    rw [pack_eq]
    have F₂ := F₁.keeps hk'
    have N₂ := News.grown N₁ hk'
    clear F₁ N₁
    k_steps
    refine ⟨?_⟩
    (try dsimp only)
    (with_reducible rename Fr _ _ _ _ => F9)
    (with_reducible rename News _ _ _ _ => N9)
    exact HE _ _ _ _ F9 News.nil fun F8 N8 K8 => hret _ _ _ F8 (fun _ h => nomatch h) (kept_as has K8)
end
/-! F19 -/
section
local macro_rules | `(tactic| walk_at "eval ListComp") => `(tactic| (k_here; k_dflt (refine comp_step (_F₀ := by k_asm) (by with_unfolding_all rfl) (by decide) (by rfl) (by decide) (by rfl) ?_)))
theorem figures_spec {w : World} {mean : ExcName → Option Value} {mg mb : Str → Option Value} {dp un : Nat} {gd : Option (List Code)} {cn : Str} {cs : Scope} {ca : Addr} {ccd : Value} {cl : List (Str × Addr)} {outer : List Env} {A₀ : Around} {base h₀ : Heap} {L : Addr} {m : Str → Option Value} {s : Shared} {Q E : Value → Shared → Prop}
    (B : Below A₀ base outer h₀) (F : Fr h₀ L s.heap m) (X : (hd.heap_1 w.params).In h₀) (T : Top hd.view_1 (looseW hd.view_1 []) mean mg mb h₀) (hk : cs.kind = .function) (hdp : dp + 1 < recursionLimit) (hun : un + 8 < cLine)
    {x k : Int} {n : Nat} {t1 t2 : Tok} (N : News h₀ L s.heap ([])) (hk0 : k = n) (hn : n ≤ 8) (hx : 0 ≤ x) (hx2 : x < 1000)
    (hret : ∀ (h' : Heap) (tk' : Nat) (t : Tok), Fr h₀ L h' m → News h₀ L h' ([]) → Kept ([]) s.heap h' →  Q (.str (figs (natBits n x.toNat)) t) { s with heap := h', toks := tk' }) :
    wpAny (model PySem.Challenge.rw_nz0255_01.row.prog w) (ktrTop dp un gd cn cs L ca ccd cl outer) (call (.ref 535) [.int x t1, .int k t2]) Q E s := by
  subst hk0
  refine with_as N fun as has => ?_
  refine wpAny_call ?_
  refine code_defCK (by k_asm) (by k_asm) (by k_asm) (by k_asm) (by k_asm) rfl rfl (by assumption) (by k_is) (by k_is) (lt_dp hdp) (BindsTo.of_eq rfl) rfl (by decide +kernel) has ?_ rfl rfl rfl
  intro g' L' h' tk' cells' PP F' N' Y' B' X' T' l1 HE
  k_lt l1
  k_cells Y'
  (try simp only [List.cons_append, List.nil_append] at N')
  (try dsimp only)
  (try k_lift B')
  (try k_fold)
  k_steps
  refine ⟨_, _, _, _, _, _, _, n, _, rfl, rfl, by k_asm, by k_asm, by assumption, ?_, ?_, ?_, fun g => ?_⟩
  · exact small_down (Nat.le_trans hn (by decide))
  · exact range_down n
  · rw [sizeLine_eq]; exact Nat.le_trans hn (by decide)
  refine comp_ind (fun i ys nw => nw = _ ∧ StrsAre ys ((List.range i).map fun j => figs [x.toNat.testBit (n - 1 - j)])) ⟨rfl, .nil⟩ ?_ ?_
  · rintro i ys nw hi ⟨rfl, hys⟩ v I oI C oC D m₂ h tk E' ⟨_, t, rfl⟩ hNs hm₂ F₁ N₁ off ne
    obtain ⟨⟨o1, o2, o3⟩, _⟩ := off
    obtain ⟨e1, e2, e3⟩ := ne
    have en : (n : Int) - 1 + (i : Int) * -1 = ((n - 1 - i : Nat) : Int) := by rw [Int.ofNat_sub (Nat.le_sub_one_of_lt hi), Int.ofNat_sub (Nat.lt_of_le_of_lt (Nat.zero_le i) hi), Int.mul_neg_one]; rfl
    have hz := Nat.le_trans (Nat.sub_le (n - 1) i) (Nat.le_trans (Nat.sub_le n 1) hn)
    have z0 : 0 ≤ (n : Int) - 1 + (i : Int) * -1 := by rw [en]; exact Int.natCast_nonneg _
    have z1 : (n : Int) - 1 + (i : Int) * -1 ≤ 1000000 := by rw [en]; exact ar_le hz (by decide)
    have z2 : (n : Int) - 1 + (i : Int) * -1 < 9000 := by rw [en]; exact ar_ltl hz (by decide)
    k_steps
    (try lcg_end)
    (try refine And.intro rfl ?_)
    rw [bit_text _ _ hx, digit_text, List.range_succ, List.map_append]
    have e : ((n : Int) - 1 + (i : Int) * -1).toNat = n - 1 - i := by rw [en, Int.toNat_natCast]
    rw [e]
    exact strs_snoc hys
  · rintro ys nw ⟨rfl, hys⟩ D h tk F₁ N₁ off
    k_steps
    refine join_listW (News.isList N₁ (.head _)) (by simpa using hys) (by decide +kernel) ?_ fun t' k' => ?_
    · rw [sum_ones _ _ (fun _ => rfl), List.length_map, List.length_range]; exact Nat.le_trans (Nat.add_le_add hn hn) (by decide)
    have e : (List.range n).map (fun j => figs [x.toNat.testBit (n - 1 - j)]) = (natBits n x.toNat).map fun b => figs [b] := by rw [natBits_map, List.map_map]; rfl
    rw [e, join_figs]
    k_steps
    (try dsimp only)
    (with_reducible rename Fr _ _ _ _ => F9)
    (with_reducible rename News _ _ _ _ => N9)
    exact HE _ _ _ _ F9 News.nil fun F8 N8 K8 => hret _ _ _ F8 (fun _ h => nomatch h) (kept_as has K8)
end
/-! F20 -/
section
theorem fmod_lo {x k : Int} (h : 0 < k) : 0 ≤ x.fmod k := by rw [Int.fmod_eq_emod_of_nonneg _ (Int.le_of_lt h)]; exact Int.emod_nonneg _ (Int.ne_of_gt h)
theorem fmod_hi {x k : Int} (h : 0 < k) : x.fmod k < k := by rw [Int.fmod_eq_emod_of_nonneg _ (Int.le_of_lt h)]; exact Int.emod_lt_of_pos _ h
theorem fdiv_lo {x k : Int} (h : 0 < k) (hx : 0 ≤ x) : 0 ≤ x.fdiv k := by rw [Int.fdiv_eq_ediv_of_nonneg _ (Int.le_of_lt h)]; exact Int.ediv_nonneg hx (Int.le_of_lt h)
local macro_rules | `(tactic| walk_at "binaryOp Mult int int") => `(tactic| (simp only [Int.toNat_one, Int.toNat_zero, List.getD_cons_succ, List.getD_cons_zero]; refine mul_int ?_))
noncomputable def SrcL (l : Addr) (a b : Int) (ta tb : Tok) (n : Nat) : List (Addr × Obj) := [(l, listOf #[.int a ta, .int b tb] n)]
theorem draw_spec {w : World} {mean : ExcName → Option Value} {mg mb : Str → Option Value} {dp un : Nat} {gd : Option (List Code)} {cn : Str} {cs : Scope} {ca : Addr} {ccd : Value} {cl : List (Str × Addr)} {outer : List Env} {A₀ : Around} {base h₀ : Heap} {L : Addr} {m : Str → Option Value} {s : Shared} {Q E : Value → Shared → Prop}
    (B : Below A₀ base outer h₀) (F : Fr h₀ L s.heap m) (X : (hd.heap_1 w.params).In h₀) (T : Top hd.view_1 (looseW hd.view_1 []) mean mg mb h₀) (hk : cs.kind = .function) (hdp : dp + 1 < recursionLimit) (hun : un + 8 < cLine)
    {l : Addr} {a b k : Int} {ta tb tk : Tok} {n : Nat} (N : News h₀ L s.heap (SrcL l a b ta tb n)) (hk1 : 0 < k) (hk2 : k < 1000) (ha : 0 ≤ a) (hb : 0 ≤ b) (hb2 : b < 2147483647)
    (hret : ∀ (h' : Heap) (tk' : Nat) (r : Int) (t : Tok) (a' b' : Int) (ta' tb' : Tok) (n' : Nat), Fr h₀ L h' m → News h₀ L h' (SrcL l a' b' ta' tb' n') → Kept ([l]) s.heap h' → 0 ≤ r → r < k → 0 ≤ a' → 0 ≤ b' → b' < 2147483647 →  Q (.int r t) { s with heap := h', toks := tk' }) :
    wpAny (model PySem.Challenge.rw_nz0255_01.row.prog w) (ktrTop dp un gd cn cs L ca ccd cl outer) (call (.ref 530) [.ref l, .int k tk]) Q E s := by
  refine with_as N fun as has => ?_
  refine wpAny_call ?_
  refine code_defK (by k_asm) (by k_asm) (by k_asm) (by k_asm) (by k_asm) rfl rfl (by assumption) (by k_is) (by k_is) (lt_dp hdp) (BindsTo.of_eq rfl) (locs rfl) has ?_ rfl rfl rfl (by decide)
  intro g' L' h' PP F' N' B' X' T' HE
  (try dsimp only)
  (try k_lift B')
  (try k_fold)
  unfold SrcL at N'
  k_steps
  · skip
    (with_reducible rename Fr _ _ _ _ => F9)
    (with_reducible rename News _ _ _ _ => N9)
    exact HE _ _ _ _ F9 N9 fun F8 N8 K8 => hret _ _ _ _ _ _ _ _ _ F8 N8 (kept_as has K8) (fmod_lo hk1) (fmod_hi hk1) (fdiv_lo hk1 (by simpa using ha)) hb hb2
  · skip
    (with_reducible rename Fr _ _ _ _ => F9)
    (with_reducible rename News _ _ _ _ => N9)
    exact HE _ _ _ _ F9 N9 fun F8 N8 K8 => hret _ _ _ _ _ _ _ _ _ F8 N8 (kept_as has K8) (fmod_lo hk1) (fmod_hi hk1) ha (fmod_lo (by decide)) (fmod_hi (by decide))
end
/-! F21 -/
theorem source_spec {w : World} {mean : ExcName → Option Value} {mg mb : Str → Option Value} {dp un : Nat} {gd : Option (List Code)} {cn : Str} {cs : Scope} {ca : Addr} {ccd : Value} {cl : List (Str × Addr)} {outer : List Env} {A₀ : Around} {base h₀ : Heap} {L : Addr} {m : Str → Option Value} {s : Shared} {Q E : Value → Shared → Prop}
    (B : Below A₀ base outer h₀) (F : Fr h₀ L s.heap m) (X : (hd.heap_1 w.params).In h₀) (T : Top hd.view_1 (looseW hd.view_1 []) mean mg mb h₀) (hk : cs.kind = .function) (hdp : dp + 1 < recursionLimit) (hun : un + 8 < cLine)
    {l : Addr} {vs : List Value} {ns : List Int} (N : News h₀ L s.heap ([])) (hl : base.IsList l vs.toArray) (hi : IntsAre vs ns) (hlen : ns.length ≤ 63) (hlay : (PyData.list (ns.map PyData.int)).layable0 = true)
    (hret : ∀ (h' : Heap) (tk' : Nat) (r : Addr) (a b : Int) (ta tb : Tok) (n : Nat), Fr h₀ L h' m → News h₀ L h' (SrcL r a b ta tb n) → Kept ([]) s.heap h' → 0 ≤ a → 0 ≤ b → b < 2147483647 →  Q (.ref r) { s with heap := h', toks := tk' }) :
    wpAny (model PySem.Challenge.rw_nz0255_01.row.prog w) (ktrTop dp un gd cn cs L ca ccd cl outer) (call (.ref 523) [.ref l]) Q E s := by
  refine with_as N fun as has => ?_
  refine wpAny_call ?_
  refine code_defK (by k_asm) (by k_asm) (by k_asm) (by k_asm) (by k_asm) rfl rfl (by assumption) (by k_is) (by k_is) (lt_dp hdp) (BindsTo.of_eq rfl) (locs rfl) has ?_ rfl rfl rfl (by decide)
  intro g' L' h' PP F' N' B' X' T' HE
  (try dsimp only)
  (try k_lift B')
  (try k_fold)
  k_with "pyIter ref" => k_state (fun (pre : List Int) (mixed : Int) => 0 ≤ mixed ∧ mixed < 2147483647) "mixed"
  k_steps
  all_goals (
    (with_reducible rename Fr _ _ _ _ => F9)
    (with_reducible rename News _ _ _ _ => N9)
    refine HE _ _ _ _ F9 (by (refine' cb_drop ?cbN ?cbS; (case cbN => assumption); (case cbS => kcj_all))) fun F8 N8 K8 => hret _ _ _ _ _ _ _ _ F8 N8 (kept_as has K8) ?_ ?_ ?_)
  all_goals first | omega | (refine Int.mul_nonneg ?_ ?_ <;> split <;> omega)
/-! F22 -/
section
theorem sym_out {h₀ h : Heap} {L D : Addr} {n : Nat} {a0 a1 a2 a3 a4 a5 a6 a7 a8 a9 a10 a11 a12 a13 a14 a15 : Tok} {r : List (Addr × Obj)} (N : News h₀ L h ((D, listOf #[.int 0 a0, .int 16 a1, .int 32 a2, .int 48 a3, .int 64 a4, .int 80 a5, .int 96 a6, .int 1 a7, .int 2 a8, .int 3 a9, .int 17 a10, .int 18 a11, .int 19 a12, .int 33 a13, .int 34 a14, .int 35 a15] n) :: r)) : ∃ t, News h₀ L h [(D, listOf (symL t).toArray n)] :=
  ⟨fun k => List.getD [a0, a1, a2, a3, a4, a5, a6, a7, a8, a9, a10, a11, a12, a13, a14, a15] k 0, fun p hp => by rw [List.mem_singleton.mp hp]; exact N _ (.head _)⟩
theorem ij_val {i j : Nat} (hj : j < 3) : (16 : Int) * (0 + (i : Int)) + (1 + (j : Int)) = 16 * (((i * 3 + j) / 3 : Nat) : Int) + (1 + (((i * 3 + j) % 3 : Nat) : Int)) := by
  have h1 : (i * 3 + j) / 3 = i := by omega
  have h2 : (i * 3 + j) % 3 = j := by omega
  rw [h1, h2]; omega
theorem ints_of {ys : List Value} {n : Nat} {f : Nat → Int} (hl : ys.length = n) (hP : ∀ k z, ys[k]? = some z → ∃ t, z = Value.int (f k) t) : ∃ u : Nat → Tok, ys = (List.range n).map fun k => Value.int (f k) (u k) := by
  refine ⟨fun k => match ys[k]? with | some (.int _ t) => t | _ => 0, List.ext_getElem? fun k => ?_⟩
  cases e : ys[k]? with
  | none => exact (List.getElem?_eq_none (by rw [List.length_map, List.length_range, ← hl]; exact List.getElem?_eq_none_iff.mp e)).symm
  | some z =>
    obtain ⟨t, rfl⟩ := hP k z e
    rw [List.getElem?_map, List.getElem?_range (hl ▸ (List.getElem?_eq_some_iff.mp e).1), Option.map_some]; dsimp only; rw [e]
theorem nine_ints {ys : List Value} (hl : ys.length = 3 * 3) (hP : ∀ k z, ys[k]? = some z → ∃ t, z = Value.int (16 * ((k / 3 : Nat) : Int) + (1 + ((k % 3 : Nat) : Int))) t) : ∃ u : Nat → Tok, ys = [Value.int (16 * ((0 / 3 : Nat) : Int) + (1 + ((0 % 3 : Nat) : Int))) (u 0), .int (16 * ((1 / 3 : Nat) : Int) + (1 + ((1 % 3 : Nat) : Int))) (u 1), .int (16 * ((2 / 3 : Nat) : Int) + (1 + ((2 % 3 : Nat) : Int))) (u 2), .int (16 * ((3 / 3 : Nat) : Int) + (1 + ((3 % 3 : Nat) : Int))) (u 3), .int (16 * ((4 / 3 : Nat) : Int) + (1 + ((4 % 3 : Nat) : Int))) (u 4), .int (16 * ((5 / 3 : Nat) : Int) + (1 + ((5 % 3 : Nat) : Int))) (u 5), .int (16 * ((6 / 3 : Nat) : Int) + (1 + ((6 % 3 : Nat) : Int))) (u 6), .int (16 * ((7 / 3 : Nat) : Int) + (1 + ((7 % 3 : Nat) : Int))) (u 7), .int (16 * ((8 / 3 : Nat) : Int) + (1 + ((8 % 3 : Nat) : Int))) (u 8)] := ints_of hl hP
local macro_rules | `(tactic| walk_at "eval ListComp") => `(tactic| (k_here; (with_reducible show wpAny _ _ (eval (PySem.Expr.ListComp _ [_, _] _ _) _) _ _ _); refine stop_any ?_))
theorem symbols_spec {w : World} {mean : ExcName → Option Value} {mg mb : Str → Option Value} {dp un : Nat} {gd : Option (List Code)} {cn : Str} {cs : Scope} {ca : Addr} {ccd : Value} {cl : List (Str × Addr)} {outer : List Env} {A₀ : Around} {base h₀ : Heap} {L : Addr} {m : Str → Option Value} {s : Shared} {Q E : Value → Shared → Prop}
    (B : Below A₀ base outer h₀) (F : Fr h₀ L s.heap m) (X : (hd.heap_1 w.params).In h₀) (T : Top hd.view_1 (looseW hd.view_1 []) mean mg mb h₀) (hk : cs.kind = .function) (hdp : dp + 1 < recursionLimit) (hun : un + 8 < cLine)
     (N : News h₀ L s.heap ([])) 
    (hret : ∀ (h' : Heap) (tk' : Nat) (l : Addr) (t : Nat → Tok) (n : Nat), Fr h₀ L h' m → News h₀ L h' ([(l, listOf (symL t).toArray n)]) → Kept ([]) s.heap h' →  Q (.ref l) { s with heap := h', toks := tk' }) :
    wpAny (model PySem.Challenge.rw_nz0255_01.row.prog w) (ktrTop dp un gd cn cs L ca ccd cl outer) (call (.ref 545) []) Q E s := by
  refine with_as N fun as has => ?_
  refine wpAny_call ?_
  refine code_defK (by k_asm) (by k_asm) (by k_asm) (by k_asm) (by k_asm) rfl rfl (by assumption) (by k_is) (by k_is) (lt_dp hdp) (BindsTo.of_eq rfl) (locs rfl) has ?_ rfl rfl rfl (by decide)
  intro g' L' h' PP F' N' B' X' T' HE
  (try dsimp only)
  (try k_lift B')
  (try k_fold)
  k_steps
  refine ⟨?_⟩
  refine comp_two (fun k v => ∃ t, v = .int (16 * ((k / 3 : Nat) : Int) + (1 + ((k % 3 : Nat) : Int))) t) 3 3 (by k_asm) (by with_unfolding_all rfl) (by decide) (by rfl) (by decide) (by rfl) (by rfl) (by decide +kernel) rfl (by decide) ?_
  k_steps
  refine ⟨_, _, _, _, _, _, 1, _, rfl, by k_asm, by k_asm, by assumption, by decide, by rfl, ?_, ?_, ?_⟩
  · intro all hh C tk E' F1 N1
    k_steps
    exact ⟨⟨_, _, _, _, _, _, _, rfl, rfl, by k_asm, by assumption, by assumption, by decide, by rfl⟩⟩
  · intro all hh C oC m₂ tk E' i j ti tj hi hj hC hx hy F1 N1
    k_steps
    exact ⟨⟨⟨_, (congrArg (fun v => Value.int v _) (ij_val hj))⟩, _, _, rfl, by k_asm, by first | assumption | exact fun _ _ e => e⟩⟩
  · intro D h' tk ys F1 N1 hl hP
    obtain ⟨u, rfl⟩ := nine_ints hl hP
    clear hP hl
    k_steps
    (with_reducible rename Fr _ _ _ _ => F9)
    (with_reducible rename News _ _ _ _ => N9)
    obtain ⟨t9, N8⟩ := sym_out N9
    exact HE _ _ _ _ F9 N8 fun F8 N8 K8 => hret _ _ _ t9 _ F8 N8 (kept_as has K8)
end
/-! F23 -/
theorem runcode_spec {w : World} {mean : ExcName → Option Value} {mg mb : Str → Option Value} {dp un : Nat} {gd : Option (List Code)} {cn : Str} {cs : Scope} {ca : Addr} {ccd : Value} {cl : List (Str × Addr)} {outer : List Env} {A₀ : Around} {base h₀ : Heap} {L : Addr} {m : Str → Option Value} {s : Shared} {Q E : Value → Shared → Prop}
    (B : Below A₀ base outer h₀) (F : Fr h₀ L s.heap m) (X : (hd.heap_1 w.params).In h₀) (T : Top hd.view_1 (looseW hd.view_1 []) mean mg mb h₀) (hk : cs.kind = .function) (hdp : dp + 1 < recursionLimit) (hun : un + 8 < cLine)
    {n p : Nat} {t0 : Tok} (N : News h₀ L s.heap ([])) (h1 : 2 ^ p ≤ n) (h2 : n < 2 ^ (p + 1)) (hp : p ≤ 6)
    (hret : ∀ (h' : Heap) (tk' : Nat) (c : Addr) (t t2 : Tok), Fr h₀ L h' m → News h₀ L h' ([(c, tupObj [.int (symAt p) t, .int (p : Int) t2])]) → Kept ([]) s.heap h' →  Q (.ref c) { s with heap := h', toks := tk' }) :
    wpAny (model PySem.Challenge.rw_nz0255_01.row.prog w) (ktrTop dp un gd cn cs L ca ccd cl outer) (call (.ref 201) [.int (n : Int) t0]) Q E s := by
  have hb : Builtin.Int.intBits (n : Int) = p + 1 := bits_is (by simpa using h1) (by simpa using h2)
  have hb2 : ((Builtin.Int.intBits (n : Int) : Nat) : Int) - 1 = (p : Int) := by rw [hb]; omega
  refine with_as N fun as has => ?_
  refine wpAny_call ?_
  refine code_defK (by k_asm) (by k_asm) (by k_asm) (by k_asm) (by k_asm) rfl rfl (by assumption) (by k_is) (by k_is) (lt_dp hdp) (BindsTo.of_eq rfl) (locs rfl) has ?_ rfl rfl rfl (by decide)
  intro g' L' h' PP F' N' B' X' T' HE
  (try dsimp only)
  (try k_lift B')
  (try k_fold)
  k_steps
  (with_reducible rename Fr _ _ _ _ => F9)
  (with_reducible rename News _ _ _ _ => N9)
  simp only [hb2] at N9
  rw [sym_pow p hp] at N9
  exact HE _ _ _ _ F9 N9 fun F8 N8 K8 => hret _ _ _ _ _ F8 N8 (kept_as has K8)
theorem category_spec {w : World} {mean : ExcName → Option Value} {mg mb : Str → Option Value} {dp un : Nat} {gd : Option (List Code)} {cn : Str} {cs : Scope} {ca : Addr} {ccd : Value} {cl : List (Str × Addr)} {outer : List Env} {A₀ : Around} {base h₀ : Heap} {L : Addr} {m : Str → Option Value} {s : Shared} {Q E : Value → Shared → Prop}
    (B : Below A₀ base outer h₀) (F : Fr h₀ L s.heap m) (X : (hd.heap_1 w.params).In h₀) (T : Top hd.view_1 (looseW hd.view_1 []) mean mg mb h₀) (hk : cs.kind = .function) (hdp : dp + 1 < recursionLimit) (hun : un + 8 < cLine)
    {v : Int} {p : Nat} {t0 : Tok} (N : News h₀ L s.heap ([])) (h1 : 2 ^ p ≤ v.natAbs) (h2 : v.natAbs < 2 ^ (p + 1))
    (hret : ∀ (h' : Heap) (tk' : Nat) (t : Tok), Fr h₀ L h' m → News h₀ L h' ([]) → Kept ([]) s.heap h' →  Q (.int ((p + 1 : Nat) : Int) t) { s with heap := h', toks := tk' }) :
    wpAny (model PySem.Challenge.rw_nz0255_01.row.prog w) (ktrTop dp un gd cn cs L ca ccd cl outer) (call (.ref 180) [.int v t0]) Q E s := by
  have hb : Builtin.Int.intBits (if v < 0 then -v else v) = p + 1 := bits_is (by rw [neg_abs]; simpa using h1) (by rw [neg_abs]; simpa using h2)
  refine with_as N fun as has => ?_
  refine wpAny_call ?_
  refine code_defK (by k_asm) (by k_asm) (by k_asm) (by k_asm) (by k_asm) rfl rfl (by assumption) (by k_is) (by k_is) (lt_dp hdp) (BindsTo.of_eq rfl) (locs rfl) has ?_ rfl rfl rfl (by decide)
  intro g' L' h' PP F' N' B' X' T' HE
  (try dsimp only)
  (try k_lift B')
  (try k_fold)
  k_steps
  rw [hb]
  (with_reducible rename Fr _ _ _ _ => F9)
  (with_reducible rename News _ _ _ _ => N9)
  exact HE _ _ _ _ F9 N9 fun F8 N8 K8 => hret _ _ _ F8 N8 (kept_as has K8)
theorem bitsof_spec {w : World} {mean : ExcName → Option Value} {mg mb : Str → Option Value} {dp un : Nat} {gd : Option (List Code)} {cn : Str} {cs : Scope} {ca : Addr} {ccd : Value} {cl : List (Str × Addr)} {outer : List Env} {A₀ : Around} {base h₀ : Heap} {L : Addr} {m : Str → Option Value} {s : Shared} {Q E : Value → Shared → Prop}
    (B : Below A₀ base outer h₀) (F : Fr h₀ L s.heap m) (X : (hd.heap_1 w.params).In h₀) (T : Top hd.view_1 (looseW hd.view_1 []) mean mg mb h₀) (hk : cs.kind = .function) (hdp : dp + 1 < recursionLimit) (hun : un + 8 < cLine)
    {v : Int} {p : Nat} {t0 t1 : Tok} (N : News h₀ L s.heap ([])) (hp : p ≤ 6)
    (hret : ∀ (h' : Heap) (tk' : Nat) (t : Tok), Fr h₀ L h' m → News h₀ L h' ([]) → Kept ([]) s.heap h' →  Q (.int (if v < 0 then v + 2 ^ p - 1 else v) t) { s with heap := h', toks := tk' }) :
    wpAny (model PySem.Challenge.rw_nz0255_01.row.prog w) (ktrTop dp un gd cn cs L ca ccd cl outer) (call (.ref 187) [.int v t0, .int (p : Int) t1]) Q E s := by
  have e1 : v < 0 → (v + 2 ^ ((p : Int)).toNat - 1) = (if v < 0 then v + 2 ^ p - 1 else v) := fun hv => by rw [if_pos hv]; rfl
  have e2 : ¬ v < 0 → v = (if v < 0 then v + 2 ^ p - 1 else v) := fun hv => by rw [if_neg hv]
  refine with_as N fun as has => ?_
  refine wpAny_call ?_
  refine code_defK (by k_asm) (by k_asm) (by k_asm) (by k_asm) (by k_asm) rfl rfl (by assumption) (by k_is) (by k_is) (lt_dp hdp) (BindsTo.of_eq rfl) (locs rfl) has ?_ rfl rfl rfl (by decide)
  intro g' L' h' PP F' N' B' X' T' HE
  (try dsimp only)
  (try k_lift B')
  (try k_fold)
  k_steps
  · rw [e1 (by assumption)]
    (with_reducible rename Fr _ _ _ _ => F9)
    (with_reducible rename News _ _ _ _ => N9)
    exact HE _ _ _ _ F9 N9 fun F8 N8 K8 => hret _ _ _ F8 N8 (kept_as has K8)
  · have e3 := e2 (by assumption)
    (with_reducible rename Fr _ _ _ _ => F9)
    (with_reducible rename News _ _ _ _ => N9)
    exact HE _ _ _ _ F9 N9 fun F8 N8 K8 => e3 ▸ hret _ _ _ F8 N8 (kept_as has K8)
theorem shrunk_spec {w : World} {mean : ExcName → Option Value} {mg mb : Str → Option Value} {dp un : Nat} {gd : Option (List Code)} {cn : Str} {cs : Scope} {ca : Addr} {ccd : Value} {cl : List (Str × Addr)} {outer : List Env} {A₀ : Around} {base h₀ : Heap} {L : Addr} {m : Str → Option Value} {s : Shared} {Q E : Value → Shared → Prop}
    (B : Below A₀ base outer h₀) (F : Fr h₀ L s.heap m) (X : (hd.heap_1 w.params).In h₀) (T : Top hd.view_1 (looseW hd.view_1 []) mean mg mb h₀) (hk : cs.kind = .function) (hdp : dp + 1 < recursionLimit) (hun : un + 8 < cLine)
    {v : Int} {t0 t1 : Tok} (N : News h₀ L s.heap ([])) 
    (hret : ∀ (h' : Heap) (tk' : Nat) (t : Tok), Fr h₀ L h' m → News h₀ L h' ([]) → Kept ([]) s.heap h' →  Q (.int (v.natAbs : Int) t) { s with heap := h', toks := tk' }) :
    wpAny (model PySem.Challenge.rw_nz0255_01.row.prog w) (ktrTop dp un gd cn cs L ca ccd cl outer) (call (.ref 208) [.int v t0, .int 0 t1]) Q E s := by
  have hb : (if v < 0 then -v else v).fdiv (2 ^ Int.toNat 0) = (v.natAbs : Int) := by rw [neg_abs]; simp
  refine with_as N fun as has => ?_
  refine wpAny_call ?_
  refine code_defK (by k_asm) (by k_asm) (by k_asm) (by k_asm) (by k_asm) rfl rfl (by assumption) (by k_is) (by k_is) (lt_dp hdp) (BindsTo.of_eq rfl) (locs rfl) has ?_ rfl rfl rfl (by decide)
  intro g' L' h' PP F' N' B' X' T' HE
  (try dsimp only)
  (try k_lift B')
  (try k_fold)
  k_steps
  rw [hb]
  (with_reducible rename Fr _ _ _ _ => F9)
  (with_reducible rename News _ _ _ _ => N9)
  exact HE _ _ _ _ F9 N9 fun F8 N8 K8 => hret _ _ _ F8 N8 (kept_as has K8)
/-! F24 -/
theorem putrun_spec {w : World} {mean : ExcName → Option Value} {mg mb : Str → Option Value} {dp un : Nat} {gd : Option (List Code)} {cn : Str} {cs : Scope} {ca : Addr} {ccd : Value} {cl : List (Str × Addr)} {outer : List Env} {A₀ : Around} {base h₀ : Heap} {L : Addr} {m : Str → Option Value} {s : Shared} {Q : Value → Shared → Prop}
    (B : Below A₀ base outer h₀) (F : Fr h₀ L s.heap m) (X : (hd.heap_1 w.params).In h₀) (T : Top hd.view_1 (looseW hd.view_1 []) mean mg mb h₀) (hk : cs.kind = .function) (hdp : dp + 4 < recursionLimit) (hun : un + 32 < cLine)
    {c : Nat → Nat} {bs : Array UInt8} {r z : Int} {t1 t2 : Tok} {e : Nat → Nat} {rs : List (Addr × Tok × Tok × Tok)} {cs' : List (Addr × Tok × Tok)} {o to : Obj} {tt : Nat → Tok} {n : Nat} {tr : Tok} {bl : List Bool} (N : News h₀ L s.heap (acwL w c (n : Nat) tr ++ sinkL w c bs r z t1 t2)) (NR : News h₀ L s.heap ((c 14, keyObj (c 19, c 20)) :: tabsL w c e rs cs' o to tt)) (hO : ∀ p ∈ (c 14, keyObj (c 19, c 20)) :: tabsL w c e rs cs' o to tt, p.1 ∉ acA c) (ht : Tab PySem.Challenge.rw_nz0255_01.row.prog w e rs cs' o) (hto : TabObj PySem.Challenge.rw_nz0255_01.row.prog w (e 12) (e 0) to) (hD : (acA c).Nodup) (W : WOk bl bs r z) (hz8 : z < 8) (hn : n ≤ 90) (hbl : bl.length < 1900)
    (hret : ∀ (h' : Heap) (tk' : Nat) (bs' : Array UInt8) (r' z' : Int) (t1' t2' : Tok) (tr' : Tok), Fr h₀ L h' m → News h₀ L h' (acwL w c 0 tr' ++ sinkL w c bs' r' z' t1' t2') → Kept (acA c) s.heap h' → WOk (bl ++ runBits n) bs' r' z' → z' < 8 →  Q .none { s with heap := h', toks := tk' }) :
    wpC (model PySem.Challenge.rw_nz0255_01.row.prog w) (ktrTop dp un gd cn cs L ca ccd cl outer) (call (.ref 236) [.ref (c 11)]) Q NoE s := by
  have N0 := news_app N NR
  have nv := (ac_nd hD).2.2.2
  have h12 := ac_no hD hO
  have ny := (sink_nd (ac_nd hD).2.2.1).2.2.2
  refine with_as N0 fun as has => ?_
  refine c_call ?_
  refine codeC_defK (by k_asm) (by k_asm) (by k_asm) (by k_asm) (by k_asm) rfl rfl (by assumption) (by k_is) (by k_is) (lt_dp hdp) (BindsTo.of_eq rfl) (locs rfl) has ?_ rfl rfl rfl (by decide)
  intro g' L' h' PP F' N' B' X' T' HE
  (try dsimp only)
  (try k_lift B')
  (try k_fold)
  dsimp only [acwL, sinkL, List.cons_append, List.nil_append] at N'
  refine c_execs_cons (k_if ?_)
  k_steps
  refine ⟨⟨fun hb => ?_, fun hb => ?_⟩⟩
  · have hn0 : n ≠ 0 := fun h => by subst h; exact absurd hb (by decide)
    have g1 := Nat.log2_self_le hn0
    have g2 := log2_hi (n := n)
    have g3 := log2_le hn0 hn
    have g4 : runBits n = natBits 6 n.log2 ++ natBits n.log2 (n - 2 ^ n.log2) := if_neg hn0
    rw [g4] at hret
    generalize n.log2 = p at *
    refine k_stmt ?_
    k_fold
    k_steps
    refine ⟨?_⟩
    (with_reducible rename Fr _ _ _ _ => F5)
    (with_reducible rename News _ _ _ _ => N5)
    refine runcode_spec (by k_asm) (by k_asm) (by assumption) (by k_asm) rfl (room_lt (j := 2) hdp (by decide)) (room_lt (j := 11) hun (by decide)) News.nil g1 g2 g3 ?_
    intro h8 tk8 cc tc1 tc2 F8 N8 K8

    have N9 := keep_new N5 K8 N8
    clear N5 N8 K8
    dsimp only [List.cons_append, List.nil_append] at N9
    k_steps
    refine ⟨?_⟩
    (try dsimp only)
    (with_reducible rename Fr _ _ _ _ => F4)
    (with_reducible rename News _ _ _ _ => N4)

    have N10 := news_tail N4
    clear N4
    refine c_execs_cons (c_Expr (k_meth ?_))
    k_steps
    refine ⟨?_⟩
    (try dsimp only)
    refine c_callK (K := hd.heap_1 w.params) (by k_is) ?_
    refine c_spliced_cons (k_arg ?_)
    k_steps
    refine ⟨?_⟩
    refine c_spliced_cons (k_arg ?_)
    k_steps
    refine ⟨?_⟩
    refine c_spliced_nil ⟨by k_in, ?_⟩
    (try dsimp only [List.cons_append, List.nil_append])
    (with_reducible rename Fr _ _ _ _ => F5)
    (with_reducible rename News _ _ _ _ => N5)

    refine symbol_spec (bl := bl) (by k_asm) (by k_asm) (by assumption) (by k_asm) rfl (room_lt (j := 3) hdp (by decide)) (room_lt (j := 19) hun (by decide)) (news_left (a := sinkL w c _ _ _ _ _) (b := (c 14, keyObj (c 19, c 20)) :: tabsL w c e rs cs' o to tt) (news_tail (news_tail N5))) (news_right (a := sinkL w c _ _ _ _ _) (b := (c 14, keyObj (c 19, c 20)) :: tabsL w c e rs cs' o to tt) (news_tail (news_tail N5))) (off_sub hO sink_ac) ht hto (ac_nd hD).2.2.1 W hz8 (Nat.lt_of_le_of_lt g3 (by decide)) (Nat.lt_trans hbl (by decide)) ?_
    intro h6 tk6 bs6 r6 z6 t6 u6 F6 N6 K6 W6 hz6
    have N7 := join2 (z := (c 14, keyObj (c 19, c 20)) :: tabsL w c e rs cs' o to tt) N5 K6 (ac_nd hD).1 (ac_nd hD).2.1 N6 (fun p hp => N5 p (.tail _ (.tail _ (List.mem_append_right (sinkL w c _ _ _ _ _) hp)))) (off_sub hO sink_ac)
    clear N5
    dsimp only [sinkL, List.cons_append, List.nil_append] at N7
    refine ⟨rfl, ?_⟩
    (try dsimp only)
    refine c_execs_cons (k_if ?_)
    k_steps
    refine ⟨⟨fun hb2 => ?_, fun hb2 => ?_⟩⟩
    · skip
      refine c_execs_cons (c_Expr (k_meth ?_))
      k_steps
      refine ⟨?_⟩
      (try dsimp only)
      refine c_callK (K := hd.heap_1 w.params) (by k_is) ?_
      refine c_spliced_cons (k_arg ?_)
      k_steps
      refine ⟨?_⟩
      refine c_spliced_cons (k_arg ?_)
      k_steps
      refine ⟨?_⟩
      refine c_spliced_nil ⟨by k_in, ?_⟩
      (try dsimp only [List.cons_append, List.nil_append])
      (with_reducible rename Fr _ _ _ _ => F5)
      (with_reducible rename News _ _ _ _ => N5)

      refine sinkbits_spec (bl := bl ++ natBits 6 p) (by k_asm) (by k_asm) (by assumption) (by k_asm) rfl (room_lt (j := 3) hdp (by decide)) (room_lt (j := 19) hun (by decide)) (news_left (a := sinkL w c _ _ _ _ _) (b := (c 14, keyObj (c 19, c 20)) :: tabsL w c e rs cs' o to tt) (news_tail (news_tail N5))) (ac_nd hD).2.2.1 W6 hz6 (Int.natCast_nonneg _) (Int.ofNat_le.mpr (Nat.le_trans g3 (by decide))) (run_low g1) (run_high g2) (six_room hbl (by decide)) ?_
      rw [run_bits]
      intro h7 tk7 bs7 r7 z7 t7 u7 F7 N7 K7 W7 hz7
      have N8 := join2 (z := (c 14, keyObj (c 19, c 20)) :: tabsL w c e rs cs' o to tt) N5 K7 (ac_nd hD).1 (ac_nd hD).2.1 N7 (fun p hp => N5 p (.tail _ (.tail _ (List.mem_append_right (sinkL w c _ _ _ _ _) hp)))) (off_sub hO sink_ac)
      clear N5
      dsimp only [sinkL, List.cons_append, List.nil_append] at N8
      refine ⟨rfl, ?_⟩
      refine c_execs_nil ?_
      (try dsimp only)
      refine k_stmt ?_
      k_fold
      k_steps
      refine ⟨?_⟩
      (try dsimp only)
      (try refine tkC fun _ => ?_)
      refine c_execs_nil ?_
      (try dsimp only)
      refine c_execs_nil ?_
      (with_reducible rename Fr _ _ _ _ => F9)
      (with_reducible rename News _ _ _ _ => N9)
      exact HE _ _ _ _ F9 N9 fun F8 N8 K8 => hret _ _ _ _ _ _ _ _ F8 (news_left (a := acwL w c 0 _ ++ sinkL w c _ _ _ _ _) N8) (kept_left (kept_as has K8) NR (news_right (a := acwL w c 0 _ ++ sinkL w c _ _ _ _ _) N9)) (by rw [← List.append_assoc]; exact W7) hz7
    · have hp0 : p = 0 := by
        have h := of_decide_eq_false hb2
        omega
      subst hp0
      refine c_execs_nil ?_
      (try dsimp only)
      refine k_stmt ?_
      k_fold
      k_steps
      refine ⟨?_⟩
      (try dsimp only)
      (try refine tkC fun _ => ?_)
      refine c_execs_nil ?_
      (try dsimp only)
      refine c_execs_nil ?_
      (with_reducible rename Fr _ _ _ _ => F9)
      (with_reducible rename News _ _ _ _ => N9)
      exact HE _ _ _ _ F9 N9 fun F8 N8 K8 => hret _ _ _ _ _ _ _ _ F8 (news_left (a := acwL w c 0 _ ++ sinkL w c _ _ _ _ _) N8) (kept_left (kept_as has K8) NR (news_right (a := acwL w c 0 _ ++ sinkL w c _ _ _ _ _) N9)) (by rw [show natBits 0 (n - 2 ^ 0) = [] from rfl, List.append_nil]; exact W6) hz6
  · have hn0 : n = 0 := by
      have h := of_decide_eq_false hb
      omega
    subst hn0
    refine c_execs_nil ?_
    (try dsimp only)
    refine c_execs_nil ?_
    (with_reducible rename Fr _ _ _ _ => F9)
    (with_reducible rename News _ _ _ _ => N9)
    exact HE _ _ _ _ F9 N9 fun F8 N8 K8 => hret _ _ _ _ _ _ _ _ F8 (news_left (a := acwL w c 0 _ ++ sinkL w c _ _ _ _ _) N8) (kept_left (kept_as has K8) NR (news_right (a := acwL w c 0 _ ++ sinkL w c _ _ _ _ _) N9)) (by rw [show runBits 0 = [] from rfl, List.append_nil]; exact W) hz8
/-! F25 -/
theorem putvalue_spec {w : World} {mean : ExcName → Option Value} {mg mb : Str → Option Value} {dp un : Nat} {gd : Option (List Code)} {cn : Str} {cs : Scope} {ca : Addr} {ccd : Value} {cl : List (Str × Addr)} {outer : List Env} {A₀ : Around} {base h₀ : Heap} {L : Addr} {m : Str → Option Value} {s : Shared} {Q : Value → Shared → Prop}
    (B : Below A₀ base outer h₀) (F : Fr h₀ L s.heap m) (X : (hd.heap_1 w.params).In h₀) (T : Top hd.view_1 (looseW hd.view_1 []) mean mg mb h₀) (hk : cs.kind = .function) (hdp : dp + 5 < recursionLimit) (hun : un + 40 < cLine)
    {c : Nat → Nat} {bs : Array UInt8} {r z : Int} {t1 t2 : Tok} {e : Nat → Nat} {rs : List (Addr × Tok × Tok × Tok)} {cs' : List (Addr × Tok × Tok)} {o to : Obj} {tt : Nat → Tok} {n : Nat} {vv : Int} {tr tz tv : Tok} {bl : List Bool} (N : News h₀ L s.heap (acwL w c (n : Nat) tr ++ sinkL w c bs r z t1 t2)) (NR : News h₀ L s.heap ((c 14, keyObj (c 19, c 20)) :: tabsL w c e rs cs' o to tt)) (hO : ∀ p ∈ (c 14, keyObj (c 19, c 20)) :: tabsL w c e rs cs' o to tt, p.1 ∉ acA c) (ht : Tab PySem.Challenge.rw_nz0255_01.row.prog w e rs cs' o) (hto : TabObj PySem.Challenge.rw_nz0255_01.row.prog w (e 12) (e 0) to) (hD : (acA c).Nodup) (W : WOk bl bs r z) (hz8 : z < 8) (hn : n ≤ 90) (hv0 : vv ≠ 0) (hv7 : vv.natAbs ≤ 7) (hbl : bl.length < 1800)
    (hret : ∀ (h' : Heap) (tk' : Nat) (bs' : Array UInt8) (r' z' : Int) (t1' t2' : Tok) (tr' : Tok), Fr h₀ L h' m → News h₀ L h' (acwL w c 0 tr' ++ sinkL w c bs' r' z' t1' t2') → Kept (acA c) s.heap h' → WOk (bl ++ runBits n ++ valBits vv) bs' r' z' → z' < 8 →  Q .none { s with heap := h', toks := tk' }) :
    wpC (model PySem.Challenge.rw_nz0255_01.row.prog w) (ktrTop dp un gd cn cs L ca ccd cl outer) (call (.ref 243) [.ref (c 11), .int 1 tz, .int vv tv]) Q NoE s := by
  have g0 : vv.natAbs ≠ 0 := fun h => hv0 (Int.natAbs_eq_zero.mp h)
  have g1 := Nat.log2_self_le g0
  have g2 := log2_hi (n := vv.natAbs)
  have g3 : vv.natAbs.log2 ≤ 2 := Nat.le_of_lt_succ ((Nat.log2_lt (k := 3) g0).mpr (Nat.lt_of_le_of_lt hv7 (by decide)))
  have g4 : valBits vv = natBits 6 (10 + vv.natAbs.log2) ++ natBits (vv.natAbs.log2 + 1) (if vv < 0 then vv + 2 ^ (vv.natAbs.log2 + 1) - 1 else vv).toNat := rfl
  rw [g4] at hret
  have hsz := run_room hn hbl
  generalize vv.natAbs.log2 = p at *
  obtain ⟨g5, g6⟩ := val_fit g1 g2
  have N0 := news_app N NR
  refine with_as N0 fun as has => ?_
  refine c_call ?_
  refine codeC_defK (by k_asm) (by k_asm) (by k_asm) (by k_asm) (by k_asm) rfl rfl (by assumption) (by k_is) (by k_is) (lt_dp hdp) (BindsTo.of_eq rfl) (locs rfl) has ?_ rfl rfl rfl (by decide)
  intro g' L' h' PP F' N' B' X' T' HE
  (try dsimp only)
  (try k_lift B')
  (try k_fold)
  dsimp only [acwL, sinkL, List.cons_append, List.nil_append] at N'
  refine c_execs_cons (c_Expr (k_meth ?_))
  k_steps
  refine ⟨?_⟩
  (try dsimp only)
  refine c_callK0 (K := hd.heap_1 w.params) (by k_in) (by k_is) ?_
  (try dsimp only [List.cons_append, List.nil_append])
  (with_reducible rename Fr _ _ _ _ => F5)
  (with_reducible rename News _ _ _ _ => N5)
  refine putrun_spec (bl := bl) (by k_asm) (by k_asm) (by assumption) (by k_asm) rfl (room_lt (j := 5) hdp (by decide)) (room_lt (j := 35) hun (by decide)) (news_left (a := acwL w c (n : Nat) tr ++ sinkL w c _ _ _ _ _) N5) (news_right (a := acwL w c (n : Nat) tr ++ sinkL w c _ _ _ _ _) N5) hO ht hto hD W hz8 hn (Nat.lt_trans hbl (by decide)) ?_
  intro h6 tk6 bs6 r6 z6 t6 u6 tr6 F6 N6 K6 W6 hz6
  have N7 := news_app N6 (keep_off (news_right (a := acwL w c (n : Nat) tr ++ sinkL w c _ _ _ _ _) N5) K6 hO)
  clear N5 N6 K6
  dsimp only [acwL, sinkL, List.cons_append, List.nil_append] at N7
  refine ⟨rfl, ?_⟩
  (try dsimp only)
  refine k_stmt ?_
  k_fold
  k_steps
  refine ⟨?_⟩
  (try dsimp only)
  (try refine tkC fun _ => ?_)
  refine k_stmt ?_
  k_fold
  k_steps
  refine ⟨?_⟩
  (with_reducible rename Fr _ _ _ _ => F5)
  (with_reducible rename News _ _ _ _ => N5)
  refine category_spec (by k_asm) (by k_asm) (by assumption) (by k_asm) rfl (room_lt (j := 2) hdp (by decide)) (room_lt (j := 11) hun (by decide)) News.nil g1 g2 ?_
  intro h8 tk8 t8 F8 N8 K8
  have N9 := keep_all N5 K8
  clear N5 N8 K8
  k_steps
  refine ⟨?_⟩
  (try dsimp only)
  refine k_stmt ?_
  k_fold
  k_steps
  refine ⟨?_⟩
  (try dsimp only)
  (try refine tkC fun _ => ?_)
  refine c_execs_cons (c_Expr (k_meth ?_))
  k_steps
  refine ⟨?_⟩
  (try dsimp only)
  refine c_callK (K := hd.heap_1 w.params) (by k_is) ?_
  refine c_spliced_cons (k_arg ?_)
  k_steps
  refine ⟨?_⟩
  refine c_spliced_cons (k_arg ?_)
  k_steps
  refine ⟨?_⟩
  refine c_spliced_nil ⟨by k_in, ?_⟩
  (try dsimp only [List.cons_append, List.nil_append])
  (with_reducible rename Fr _ _ _ _ => F5)
  (with_reducible rename News _ _ _ _ => N5)
  rw [sym_val p g3]
  refine symbol_spec (bl := bl ++ runBits n) (by k_asm) (by k_asm) (by assumption) (by k_asm) rfl (room_lt (j := 3) hdp (by decide)) (room_lt (j := 19) hun (by decide)) (news_left (a := sinkL w c _ _ _ _ _) (b := (c 14, keyObj (c 19, c 20)) :: tabsL w c e rs cs' o to tt) (news_tail (news_tail N5))) (news_right (a := sinkL w c _ _ _ _ _) (b := (c 14, keyObj (c 19, c 20)) :: tabsL w c e rs cs' o to tt) (news_tail (news_tail N5))) (off_sub hO sink_ac) ht hto (ac_nd hD).2.2.1 W6 hz6 (Nat.lt_of_le_of_lt (Nat.add_le_add_left g3 10) (by decide)) (Nat.lt_trans hsz (by decide)) ?_
  intro h7 tk7 bs7 r7 z7 t7 u7 F7 N7 K7 W7 hz7
  have N8 := join2 (z := (c 14, keyObj (c 19, c 20)) :: tabsL w c e rs cs' o to tt) N5 K7 (ac_nd hD).1 (ac_nd hD).2.1 N7 (fun p hp => N5 p (.tail _ (.tail _ (List.mem_append_right (sinkL w c _ _ _ _ _) hp)))) (off_sub hO sink_ac)
  clear N5
  dsimp only [sinkL, List.cons_append, List.nil_append] at N8
  refine ⟨rfl, ?_⟩
  (try dsimp only)
  refine c_execs_cons (c_Expr (k_meth ?_))
  k_steps
  refine ⟨?_⟩
  (try dsimp only)
  refine c_callK (K := hd.heap_1 w.params) (by k_is) ?_
  refine c_spliced_cons (k_arg ?_)
  k_steps
  refine ⟨?_⟩
  (with_reducible rename Fr _ _ _ _ => F5)
  (with_reducible rename News _ _ _ _ => N5)
  refine bitsof_spec (by k_asm) (by k_asm) (by assumption) (by k_asm) rfl (room_lt (j := 2) hdp (by decide)) (room_lt (j := 11) hun (by decide)) News.nil (p := p + 1) (Nat.le_trans (Nat.succ_le_succ g3) (by decide)) ?_
  intro h8 tk8 t8 F8 N8 K8
  have N9 := keep_all N5 K8
  clear N5 N8 K8
  k_steps
  refine ⟨?_⟩
  refine c_spliced_cons (k_arg ?_)
  k_steps
  refine ⟨?_⟩
  refine c_spliced_nil ⟨by k_in, ?_⟩
  (try dsimp only [List.cons_append, List.nil_append])
  (with_reducible rename Fr _ _ _ _ => F5)
  (with_reducible rename News _ _ _ _ => N5)
  refine sinkbits_spec (bl := bl ++ runBits n ++ natBits 6 (10 + p)) (by k_asm) (by k_asm) (by assumption) (by k_asm) rfl (room_lt (j := 3) hdp (by decide)) (room_lt (j := 19) hun (by decide)) (news_left (a := sinkL w c _ _ _ _ _) (b := (c 14, keyObj (c 19, c 20)) :: tabsL w c e rs cs' o to tt) (news_tail (news_tail N5))) (ac_nd hD).2.2.1 W7 hz7 (Int.natCast_nonneg _) (Int.ofNat_le.mpr (Nat.le_trans (Nat.succ_le_succ g3) (by decide))) g5 g6 (six_room hsz (by decide)) ?_
  intro h9 tk9 bs9 r9 z9 t9 u9 F9 N9 K9 W9 hz9
  have N8 := join2 (z := (c 14, keyObj (c 19, c 20)) :: tabsL w c e rs cs' o to tt) N5 K9 (ac_nd hD).1 (ac_nd hD).2.1 N9 (fun p hp => N5 p (.tail _ (.tail _ (List.mem_append_right (sinkL w c _ _ _ _ _) hp)))) (off_sub hO sink_ac)
  clear N5
  dsimp only [sinkL, List.cons_append, List.nil_append] at N8
  refine ⟨rfl, ?_⟩
  refine c_execs_nil ?_
  (with_reducible rename Fr _ _ _ _ => F9)
  (with_reducible rename News _ _ _ _ => N9)
  exact HE _ _ _ _ F9 N9 fun F8 N8 K8 => hret _ _ _ _ _ _ _ _ F8 (news_left (a := acwL w c 0 _ ++ sinkL w c _ _ _ _ _) N8) (kept_left (kept_as has K8) NR (news_right (a := acwL w c 0 _ ++ sinkL w c _ _ _ _ _) N9)) (by rw [← List.append_assoc]; exact W9) hz9
/-! F26 -/
noncomputable def zf (vv : Int) (i : Nat) : Nat := if i ≤ 1 then i else if vv = 0 then i else i - 2
noncomputable def rf (vv : Int) (n i : Nat) : Nat := if 2 ≤ i ∧ vv ≠ 0 then 0 else n
noncomputable def bf (vv : Int) (n : Nat) (bl : List Bool) (i : Nat) : List Bool := if 2 ≤ i ∧ vv ≠ 0 then bl ++ runBits n ++ valBits vv else bl
inductive CodeJ (w : World) (c : Nat → Nat) (vv : Int) (n : Nat) (bl : List Bool) (fx rest : List (Addr × Obj)) (m0 : Str → Option Value) (i : Nat) (m : Str → Option Value) (nw : List (Addr × Obj)) : Prop
  | mk (uk us : Option Value) (tz : Tok) (bs : Array UInt8) (r z : Int) (t1 t2 tr : Tok) (e1 : m = (fun y => if y = PySem.Str.ofString "zeros" then some (.int ((zf vv i : Nat) : Int) tz) else if y = PySem.Str.ofString "k" then uk else if y = PySem.Str.ofString "size" then us else m0 y)) (e2 : nw = acwL w c (rf vv n i : Nat) tr ++ (fx ++ (sinkL w c bs r z t1 t2 ++ rest))) (W : WOk (bf vv n bl i) bs r z) (hz : z < 8) : CodeJ w c vv n bl fx rest m0 i m nw
noncomputable def codeJ (w : World) (c : Nat → Nat) (vv : Int) (n : Nat) (bl : List Bool) (fx rest : List (Addr × Obj)) (m0 : Str → Option Value) (i : Nat) (m : Str → Option Value) (nw : List (Addr × Obj)) : Prop := Stop (CodeJ w c vv n bl fx rest m0 i m nw)
theorem row_item (vv : Int) : ∀ i : Nat, i < 3 → ([7, 0, vv, 0] : List Int).getD (1 + (i : Int)).toNat 0 = if i = 1 then vv else 0
  | 0, _ => rfl
  | 1, _ => rfl
  | 2, _ => rfl
  | n + 3, h => absurd h (Nat.not_lt.mpr (Nat.le_add_left 3 n))
theorem zf_up {vv : Int} {n : Nat} {bl : List Bool} {i : Nat} (h : i ≠ 1 ∨ vv = 0) (hi : i < 3) : zf vv (i + 1) = zf vv i + 1 ∧ rf vv n (i + 1) = rf vv n i ∧ bf vv n bl (i + 1) = bf vv n bl i := by
  unfold zf rf bf
  by_cases hv : vv = 0
  · subst hv; simp
  · have : i = 0 ∨ i = 2 := by omega
    rcases this with rfl | rfl <;> simp [hv]
theorem zf_one {vv : Int} {n : Nat} {bl : List Bool} (hv : vv ≠ 0) : zf vv 1 = 1 ∧ rf vv n 1 = n ∧ bf vv n bl 1 = bl ∧ zf vv 2 = 0 ∧ rf vv n 2 = 0 ∧ bf vv n bl 2 = bl ++ runBits n ++ valBits vv := by
  unfold zf rf bf; simp [hv]
theorem zf_end {vv : Int} {n : Nat} {bl : List Bool} : 0 < zf vv 3 ∧ ((rf vv n 3 : Nat) : Int) + 1 = ((if vv = 0 then n + 1 else 1 : Nat) : Int) ∧ bf vv n bl 3 = if vv = 0 then bl else bl ++ runBits n ++ valBits vv := by
  unfold zf rf bf
  by_cases hv : vv = 0
  · subst hv; simp
  · simp [hv]
theorem code_no {c : Nat → Nat} {w : World} {f r : List (Addr × Obj)} {bs : Array UInt8} {r' z : Int} {t1 t2 : Tok} (hD : (acA c).Nodup) (hO : ∀ p ∈ f ++ r, p.1 ∉ acA c) : c 12 ∉ (f ++ (sinkL w c bs r' z t1 t2 ++ r)).map (·.1) := off_no fun p hp e => by
  rcases List.mem_append.mp hp with hp | hp
  · exact hO p (List.mem_append_left _ hp) (e ▸ .tail _ (.head _))
  rcases List.mem_append.mp hp with hp | hp
  · exact (ac_nd hD).2.1 (e ▸ List.mem_map_of_mem (f := (·.1)) hp)
  · exact hO p (List.mem_append_right _ hp) (e ▸ .tail _ (.head _))
theorem code2_spec {w : World} {mean : ExcName → Option Value} {mg mb : Str → Option Value} {dp un : Nat} {gd : Option (List Code)} {cn : Str} {cs : Scope} {ca : Addr} {ccd : Value} {cl : List (Str × Addr)} {outer : List Env} {A₀ : Around} {base h₀ : Heap} {L : Addr} {m : Str → Option Value} {s : Shared} {Q : Value → Shared → Prop}
    (B : Below A₀ base outer h₀) (F : Fr h₀ L s.heap m) (X : (hd.heap_1 w.params).In h₀) (T : Top hd.view_1 (looseW hd.view_1 []) mean mg mb h₀) (hk : cs.kind = .function) (hdp : dp + 6 < recursionLimit) (hun : un + 48 < cLine)
    {c : Nat → Nat} {bs : Array UInt8} {r z : Int} {t1 t2 : Tok} {e : Nat → Nat} {rs : List (Addr × Tok × Tok × Tok)} {cs' : List (Addr × Tok × Tok)} {o to : Obj} {tt : Nat → Tok} {xv : Nat → Value} {ra : Addr} {u0 u1 u2 u3 : Tok} {nl : Nat} {vv : Int} {n : Nat} {tr : Tok} {pl : Value} {bl : List Bool} (N : News h₀ L s.heap (acwL w c (n : Nat) tr ++ sinkL w c bs r z t1 t2)) (NR : News h₀ L s.heap ((scanL w c xv 1 3 0 ++ [(ra, listOf #[.int 7 u0, .int 0 u1, .int vv u2, .int 0 u3] nl)]) ++ ((c 14, keyObj (c 19, c 20)) :: tabsL w c e rs cs' o to tt))) (hO : ∀ p ∈ (scanL w c xv 1 3 0 ++ [(ra, listOf #[.int 7 u0, .int 0 u1, .int vv u2, .int 0 u3] nl)]) ++ ((c 14, keyObj (c 19, c 20)) :: tabsL w c e rs cs' o to tt), p.1 ∉ acA c) (ht : Tab PySem.Challenge.rw_nz0255_01.row.prog w e rs cs' o) (hto : TabObj PySem.Challenge.rw_nz0255_01.row.prog w (e 12) (e 0) to) (hD : (acA c).Nodup) (W : WOk bl bs r z) (hz8 : z < 8) (hn : n ≤ 90) (hv7 : vv.natAbs ≤ 7) (hbl : bl.length < 1800)
    (hret : ∀ (h' : Heap) (tk' : Nat) (bs' : Array UInt8) (r' z' : Int) (t1' t2' : Tok) (tr' : Tok), Fr h₀ L h' m → News h₀ L h' (acwL w c ((if vv = 0 then n + 1 else 1 : Nat) : Int) tr' ++ sinkL w c bs' r' z' t1' t2') → Kept (acA c) s.heap h' → WOk (if vv = 0 then bl else bl ++ runBits n ++ valBits vv) bs' r' z' → z' < 8 →  Q .none { s with heap := h', toks := tk' }) :
    wpC (model PySem.Challenge.rw_nz0255_01.row.prog w) (ktrTop dp un gd cn cs L ca ccd cl outer) (call (.ref 250) [.ref (c 11), pl, .ref ra]) Q NoE s := by
  have N0 := news_app N NR
  have nv := (ac_nd hD).2.2.2
  refine with_as N0 fun as has => ?_
  refine c_call ?_
  refine codeC_defK (by k_asm) (by k_asm) (by k_asm) (by k_asm) (by k_asm) rfl rfl (by assumption) (by k_is) (by k_is) (lt_dp hdp) (BindsTo.of_eq rfl) (locs rfl) has ?_ rfl rfl rfl (by decide)
  intro g' L' h' PP F' N' B' X' T' HE
  (try dsimp only)
  (try k_lift B')
  (try k_fold)
  have N1 := news_mid (a := acwL w c (n : Nat) tr) (s := sinkL w c bs r z t1 t2) (f := (scanL w c xv 1 3 0 ++ [(ra, listOf #[.int 7 u0, .int 0 u1, .int vv u2, .int 0 u3] nl)])) (r := ((c 14, keyObj (c 19, c 20)) :: tabsL w c e rs cs' o to tt)) N'
  clear N'
  dsimp only [acwL, scanL, List.cons_append, List.nil_append] at N1
  refine k_stmt ?_
  k_fold
  k_steps
  refine ⟨?_⟩
  (try dsimp only)
  (try refine tkC fun _ => ?_)
  refine c_execs_cons (c_for_range (by k_asm) rfl ?_)
  k_steps
  (with_reducible rename News _ _ _ _ => N5)
  refine ⟨_, _, _, _, _, _, 3, _, _, rfl, by k_asm, (N5 : News g' L' _ (acwL w c (n : Nat) tr ++ ((scanL w c xv 1 3 0 ++ [(ra, listOf #[.int 7 u0, .int 0 u1, .int vv u2, .int 0 u3] nl)]) ++ (sinkL w c bs r z t1 t2 ++ ((c 14, keyObj (c 19, c 20)) :: tabsL w c e rs cs' o to tt))))), by assumption, by decide, by rfl, codeJ w c vv n bl (scanL w c xv 1 3 0 ++ [(ra, listOf #[.int 7 u0, .int 0 u1, .int vv u2, .int 0 u3] nl)]) (((c 14, keyObj (c 19, c 20)) :: tabsL w c e rs cs' o to tt)) _, ⟨_, _, _, _, _, _, _, _, _, (canon3 offM_refl), rfl, W, hz8⟩, ?_, ?_⟩
  · rintro I i m nw hi ⟨⟨uk, us, tz, bs, r, z, t1, t2, tr, rfl, rfl, W, hz8⟩⟩ it t h tk hc F7 N7 off
    have hrow := row_item vv i hi
    dsimp only [acwL, scanL, List.cons_append, List.nil_append] at N7
    k_steps
    refine ⟨?_⟩
    (try dsimp only)
    refine hideQ fun Qb hQb => ?_
    refine k_stmt ?_
    k_fold
    k_steps
    refine ⟨?_⟩
    (with_reducible rename Fr _ _ _ _ => F5)
    (with_reducible rename News _ _ _ _ => N5)
    refine shrunk_spec (by k_asm) (by k_asm) (by assumption) (by k_asm) rfl (room_lt (j := 2) hdp (by decide)) (room_lt (j := 11) hun (by decide)) News.nil  ?_
    intro h8 tk8 t8 F8 N8 K8

    have N9 := keep_all N5 K8
    clear N5 N8 K8
    rw [hrow]
    k_steps
    refine ⟨?_⟩
    (try dsimp only)
    refine c_execs_cons (k_if ?_)
    k_steps
    refine ⟨⟨fun hb => ?_, fun hb => ?_⟩⟩
    · have h0 : i ≠ 1 ∨ vv = 0 := by
        by_cases h : i = 1
        · rw [if_pos h] at hb
          exact .inr (by simpa using hb)
        · exact .inl h
      obtain ⟨e1, e2, e3⟩ := zf_up (n := n) (bl := bl) h0 hi
      have e1 : ((zf vv (i + 1) : Nat) : Int) = ((zf vv i : Nat) : Int) + 1 := by rw [e1]; rfl
      refine k_stmt ?_
      k_fold
      k_steps
      refine ⟨?_⟩
      (try dsimp only)
      (try refine tkC fun _ => ?_)
      refine c_execs_nil ?_
      (try dsimp only)
      refine c_execs_nil ?_
      (with_reducible rename Fr _ _ _ _ => F9)
      (with_reducible rename News _ _ _ _ => N9)
      refine hQb _ _ ?_
      exact ⟨_, _, _, acwL w c (rf vv n i : Nat) tr ++ ((scanL w c xv 1 3 0 ++ [(ra, listOf #[.int 7 u0, .int 0 u1, .int vv u2, .int 0 u3] nl)]) ++ (sinkL w c bs r z t1 t2 ++ ((c 14, keyObj (c 19, c 20)) :: tabsL w c e rs cs' o to tt))), rfl, F9, N9, off, ⟨_, _, _, _, _, _, _, _, _, (by rw [e1]; refine canon3 ?_; repeat (first | exact offM_refl | refine offM_set (by decide) ?_)), by rw [e2], by rw [e3]; exact W, hz8⟩⟩
    · have hi1 : i = 1 := by
        by_cases h : i = 1
        · exact h
        · rw [if_neg h] at hb
          exact absurd hb (by decide)
      subst hi1
      have hv : vv ≠ 0 := fun h => by subst h; exact absurd hb (by decide)
      obtain ⟨z1, r1, b1, z2, r2, b2⟩ := zf_one (n := n) (bl := bl) hv
      have z2 : ((zf vv (1 + 1) : Nat) : Int) = 0 := congrArg Int.ofNat z2
      refine c_execs_cons (c_Expr (k_meth ?_))
      k_steps
      refine ⟨?_⟩
      refine c_callK (K := hd.heap_1 w.params) (by k_is) ?_
      refine c_spliced_cons (k_arg ?_)
      k_steps
      refine ⟨?_⟩
      refine c_spliced_cons (k_arg ?_)
      refine ifexp_two (x := vv) ?_
      k_steps
      refine ⟨⟨fun hb2 => ?_, fun hb2 => ?_, fun t9 tk9 => ?_⟩⟩
      · have hx : 0 < vv := by
          have h := of_decide_eq_true hb2
          rw [hrow, if_pos rfl] at h
          exact h
        have e : (((if 1 = 1 then vv else 0 : Int).natAbs : Nat) : Int) = vv := by rw [if_pos rfl]; omega
        k_steps
        exact ⟨⟨⟨_, congrArg (fun v => Value.int v _) e⟩, _, rfl⟩⟩
      · have hx : ¬ 0 < vv := fun h => by
          have h2 := of_decide_eq_false hb2
          rw [hrow, if_pos rfl] at h2
          exact h2 h
        have e : -(((if 1 = 1 then vv else 0 : Int).natAbs : Nat) : Int) = vv := by rw [if_pos rfl]; omega
        k_steps
        exact ⟨⟨⟨_, congrArg (fun v => Value.int v _) e⟩, _, rfl⟩⟩
      refine ⟨?_⟩
      refine c_spliced_nil ⟨by k_in, ?_⟩
      (try dsimp only [List.cons_append, List.nil_append])
      (with_reducible rename Fr _ _ _ _ => F5)
      (with_reducible rename News _ _ _ _ => N5)
      have NX := news_mid' (a := acwL w c (rf vv n 1 : Nat) tr) (s := sinkL w c bs r z t1 t2) (f := (scanL w c xv 1 3 0 ++ [(ra, listOf #[.int 7 u0, .int 0 u1, .int vv u2, .int 0 u3] nl)])) (r := ((c 14, keyObj (c 19, c 20)) :: tabsL w c e rs cs' o to tt)) (news_tail N5)
      rw [z1]
      refine putvalue_spec (bl := bf vv n bl 1) (by k_asm) (by k_asm) (by assumption) (by k_asm) rfl (room_lt (j := 6) hdp (by decide)) (room_lt (j := 43) hun (by decide)) (news_left NX) (news_right (news_right NX)) (fun p hp => hO p (List.mem_append_right _ hp)) ht hto hD W hz8 (r1 ▸ hn) hv hv7 (b1 ▸ hbl) ?_
      intro h6 tk6 bs6 r6 z6 t6 u6 tr6 F6 N6 K6 W6 hz6
      have N7 := keep_cons N5 K6 (off_no (a := acwL w c (rf vv n 1 : Nat) tr ++ sinkL w c bs r z t1 t2) (fun p hp => off p ((List.mem_append.mp hp).elim (List.mem_append_left _) (fun q => List.mem_append_right _ (List.mem_append_right _ (List.mem_append_left _ q)))))) (news_mid (news_app N6 (keep_off (news_right NX) K6 hO)))
      clear N5 NX N6 K6
      dsimp only [acwL, scanL, List.cons_append, List.nil_append] at N7
      rw [b1, r1] at W6
      refine ⟨rfl, ?_⟩
      (try dsimp only)
      refine k_stmt ?_
      k_fold
      k_steps
      refine ⟨?_⟩
      (try dsimp only)
      (try refine tkC fun _ => ?_)
      refine c_execs_nil ?_
      (try dsimp only)
      refine c_execs_nil ?_
      (with_reducible rename Fr _ _ _ _ => F9)
      (with_reducible rename News _ _ _ _ => N9)
      refine hQb _ _ ?_
      exact ⟨_, _, _, acwL w c 0 tr6 ++ ((scanL w c xv 1 3 0 ++ [(ra, listOf #[.int 7 u0, .int 0 u1, .int vv u2, .int 0 u3] nl)]) ++ (sinkL w c bs6 r6 z6 t6 u6 ++ ((c 14, keyObj (c 19, c 20)) :: tabsL w c e rs cs' o to tt))), rfl, F9, N9, off_eq off rfl, ⟨_, _, _, _, _, _, _, _, _, (by rw [z2]; refine canon3 ?_; repeat (first | exact offM_refl | refine offM_set (by decide) ?_)), by rw [r2]; rfl, by rw [b2]; exact W6, hz6⟩⟩
  · rintro m nw ⟨⟨uk, us, tz, bs, r, z, t1, t2, tr, rfl, rfl, W, hz8⟩⟩ h tk F7 N7
    have h12 := code_no (w := w) (f := (scanL w c xv 1 3 0 ++ [(ra, listOf #[.int 7 u0, .int 0 u1, .int vv u2, .int 0 u3] nl)])) (r := ((c 14, keyObj (c 19, c 20)) :: tabsL w c e rs cs' o to tt)) (bs := bs) (r' := r) (z := z) (t1 := t1) (t2 := t2) hD hO
    obtain ⟨e1, e2, e3⟩ := zf_end (vv := vv) (n := n) (bl := bl)
    have e1 : (0 : Int) < (zf vv 3 : Nat) := Int.ofNat_lt.mpr e1
    dsimp only [acwL, scanL, List.cons_append, List.nil_append] at N7
    refine c_execs_cons (k_if ?_)
    k_steps
    refine ⟨⟨fun hb => ?_, fun hb => ?_⟩⟩
    · skip
      refine k_stmt ?_
      k_fold
      k_steps
      refine ⟨?_⟩
      (try dsimp only)
      (try refine tkC fun _ => ?_)
      refine c_execs_cons (k_if ?_)
      k_steps
      refine ⟨⟨fun hb => ?_, fun hb => ?_⟩⟩
      · exfalso
        have h : ((rf vv n 3 : Nat) : Int) + 1 = 32767 := by simpa using hb
        rw [e2] at h
        split at h <;> omega
      · refine c_execs_nil ?_
        (try dsimp only)
        refine c_execs_nil ?_
        (try dsimp only)
        refine c_execs_nil ?_
        (with_reducible rename Fr _ _ _ _ => F9)
        (with_reducible rename News _ _ _ _ => N9)
        rw [e2] at N9
        have N10 := news_mid' (a := acwL w c _ _) (s := sinkL w c bs r z t1 t2) (f := (scanL w c xv 1 3 0 ++ [(ra, listOf #[.int 7 u0, .int 0 u1, .int vv u2, .int 0 u3] nl)])) (r := ((c 14, keyObj (c 19, c 20)) :: tabsL w c e rs cs' o to tt)) N9
        exact HE _ _ _ _ F9 N10 fun F8 N8 K8 => hret _ _ _ _ _ _ _ _ F8 (news_left N8) (kept_left (kept_as has K8) NR (news_right N10)) (e3 ▸ W) hz8
    · exact absurd e1 (of_decide_eq_false hb)
/-! F27 -/
theorem acfinish_spec {w : World} {mean : ExcName → Option Value} {mg mb : Str → Option Value} {dp un : Nat} {gd : Option (List Code)} {cn : Str} {cs : Scope} {ca : Addr} {ccd : Value} {cl : List (Str × Addr)} {outer : List Env} {A₀ : Around} {base h₀ : Heap} {L : Addr} {m : Str → Option Value} {s : Shared} {Q : Value → Shared → Prop}
    (B : Below A₀ base outer h₀) (F : Fr h₀ L s.heap m) (X : (hd.heap_1 w.params).In h₀) (T : Top hd.view_1 (looseW hd.view_1 []) mean mg mb h₀) (hk : cs.kind = .function) (hdp : dp + 6 < recursionLimit) (hun : un + 48 < cLine)
    {c : Nat → Nat} {bs : Array UInt8} {r z : Int} {t1 t2 : Tok} {e : Nat → Nat} {rs : List (Addr × Tok × Tok × Tok)} {cs' : List (Addr × Tok × Tok)} {o to : Obj} {tt : Nat → Tok} {n : Nat} {tr : Tok} {bl : List Bool} (N : News h₀ L s.heap (acwL w c (n : Nat) tr ++ sinkL w c bs r z t1 t2)) (NR : News h₀ L s.heap ((c 14, keyObj (c 19, c 20)) :: tabsL w c e rs cs' o to tt)) (hO : ∀ p ∈ (c 14, keyObj (c 19, c 20)) :: tabsL w c e rs cs' o to tt, p.1 ∉ acA c) (ht : Tab PySem.Challenge.rw_nz0255_01.row.prog w e rs cs' o) (hto : TabObj PySem.Challenge.rw_nz0255_01.row.prog w (e 12) (e 0) to) (hD : (acA c).Nodup) (W : WOk bl bs r z) (hz8 : z < 8) (hn : n ≤ 90) (hbl : bl.length < 1800)
    (hret : ∀ (h' : Heap) (tk' : Nat) (t : Tok), Fr h₀ L h' m → News h₀ L h' ([]) → Kept (acA c) s.heap h' →  Q (.bytes (pack (bl ++ runBits n)) t) { s with heap := h', toks := tk' }) :
    wpC (model PySem.Challenge.rw_nz0255_01.row.prog w) (ktrTop dp un gd cn cs L ca ccd cl outer) (call (.ref 257) [.ref (c 11)]) Q NoE s := by
  have hsz := run_room hn hbl
  have N0 := news_app N NR
  refine with_as N0 fun as has => ?_
  refine c_call ?_
  refine codeC_defK (by k_asm) (by k_asm) (by k_asm) (by k_asm) (by k_asm) rfl rfl (by assumption) (by k_is) (by k_is) (lt_dp hdp) (BindsTo.of_eq rfl) (locs rfl) has ?_ rfl rfl rfl (by decide)
  intro g' L' h' PP F' N' B' X' T' HE
  (try dsimp only)
  (try k_lift B')
  (try k_fold)
  dsimp only [acwL, sinkL, List.cons_append, List.nil_append] at N'
  refine c_execs_cons (c_Expr (k_meth ?_))
  k_steps
  refine ⟨?_⟩
  (try dsimp only)
  refine c_callK0 (K := hd.heap_1 w.params) (by k_in) (by k_is) ?_
  (try dsimp only [List.cons_append, List.nil_append])
  (with_reducible rename Fr _ _ _ _ => F5)
  (with_reducible rename News _ _ _ _ => N5)
  refine putrun_spec (bl := bl) (by k_asm) (by k_asm) (by assumption) (by k_asm) rfl (room_lt (j := 5) hdp (by decide)) (room_lt (j := 35) hun (by decide)) (news_left (a := acwL w c (n : Nat) tr ++ sinkL w c _ _ _ _ _) N5) (news_right (a := acwL w c (n : Nat) tr ++ sinkL w c _ _ _ _ _) N5) hO ht hto hD W hz8 hn (Nat.lt_trans hbl (by decide)) ?_
  intro h6 tk6 bs6 r6 z6 t6 u6 tr6 F6 N6 K6 W6 hz6
  have N7 := news_app N6 (keep_off (news_right (a := acwL w c (n : Nat) tr ++ sinkL w c _ _ _ _ _) N5) K6 hO)
  clear N5 N6 K6
  dsimp only [acwL, sinkL, List.cons_append, List.nil_append] at N7
  refine ⟨rfl, ?_⟩
  (try dsimp only)
  refine c_execs_cons (c_Return (k_meth ?_))
  k_steps
  refine ⟨?_⟩
  (try dsimp only)
  refine c_callK0 (K := hd.heap_1 w.params) (by k_in) (by k_is) ?_
  (try dsimp only [List.cons_append, List.nil_append])
  (with_reducible rename Fr _ _ _ _ => F5)
  (with_reducible rename News _ _ _ _ => N5)
  refine sinkfinish_spec (bl := bl ++ runBits n) (by k_asm) (by k_asm) (by assumption) (by k_asm) rfl (room_lt (j := 5) hdp (by decide)) (room_lt (j := 35) hun (by decide)) (news_left (a := sinkL w c _ _ _ _ _) (b := (c 14, keyObj (c 19, c 20)) :: tabsL w c e rs cs' o to tt) (news_tail (news_tail N5))) (ac_nd hD).2.2.1 W6 hz6 (Nat.lt_trans hsz (by decide)) ?_
  intro h7 tk7 t7 F7 N7 K7
  have N8 := keep_off (news_right (a := acwL w c 0 _ ++ sinkL w c _ _ _ _ _) (b := (c 14, keyObj (c 19, c 20)) :: tabsL w c e rs cs' o to tt) N5) K7 (off_sub hO sink_ac)
  (try dsimp only)
  exact HE _ _ _ _ F7 N8 fun F8 N9 K8 => hret _ _ _ F8 (fun _ h => nomatch h) (kept_left (a := acwL w c (n : Nat) tr ++ sinkL w c bs r z t1 t2) (kept_as has K8) NR N8)
/-! F28 -/
theorem val_back {v : Int} {q : Nat} (h1 : q ≤ v.natAbs) : ((if v < 0 then v + (q : Int) * 2 - 1 else v) < (q : Int) → (if v < 0 then v + (q : Int) * 2 - 1 else v) - (q : Int) * 2 + 1 = v) ∧ (¬ (if v < 0 then v + (q : Int) * 2 - 1 else v) < (q : Int) → (if v < 0 then v + (q : Int) * 2 - 1 else v) = v) := by
  have h := Int.ofNat_le.mpr h1
  by_cases hv : v < 0
  · rw [Int.ofNat_natAbs_of_nonpos (Int.le_of_lt hv)] at h
    rw [if_pos hv]
    refine ⟨fun _ => by rw [Int.sub_sub, Int.add_comm 1, ← Int.sub_sub, Int.add_sub_cancel, Int.sub_add_cancel], fun n => absurd ?_ n⟩
    clear h1 n hv
    omega
  · rw [Int.natAbs_of_nonneg (Int.not_lt.mp hv)] at h
    rw [if_neg hv]
    exact ⟨fun n => absurd n (Int.not_lt.mpr h), fun _ => rfl⟩
theorem valueof_spec {w : World} {mean : ExcName → Option Value} {mg mb : Str → Option Value} {dp un : Nat} {gd : Option (List Code)} {cn : Str} {cs : Scope} {ca : Addr} {ccd : Value} {cl : List (Str × Addr)} {outer : List Env} {A₀ : Around} {base h₀ : Heap} {L : Addr} {m : Str → Option Value} {s : Shared} {Q E : Value → Shared → Prop}
    (B : Below A₀ base outer h₀) (F : Fr h₀ L s.heap m) (X : (hd.heap_1 w.params).In h₀) (T : Top hd.view_1 (looseW hd.view_1 []) mean mg mb h₀) (hk : cs.kind = .function) (hdp : dp + 1 < recursionLimit) (hun : un + 8 < cLine)
    {v : Int} {p : Nat} {t0 t1 : Tok} (N : News h₀ L s.heap ([])) (hp : p ≤ 2) (h1 : 2 ^ p ≤ v.natAbs) (h2 : v.natAbs < 2 ^ (p + 1))
    (hret : ∀ (h' : Heap) (tk' : Nat) (t : Tok), Fr h₀ L h' m → News h₀ L h' ([]) → Kept ([]) s.heap h' →  Q (.int v t) { s with heap := h', toks := tk' }) :
    wpAny (model PySem.Challenge.rw_nz0255_01.row.prog w) (ktrTop dp un gd cn cs L ca ccd cl outer) (call (.ref 194) [.int (if v < 0 then v + 2 ^ (p + 1) - 1 else v) t0, .int ((p + 1 : Nat) : Int) t1]) Q E s := by
  have f1 : 0 < ((p + 1 : Nat) : Int) := Int.natCast_pos.mpr (Nat.succ_pos _)
  have f2 : (((p + 1 : Nat) : Int)).toNat = p + 1 := Int.toNat_natCast _
  have f0 : ((p + 1 : Nat) : Int) - 1 = (p : Int) := Int.add_sub_cancel (p : Int) 1
  have f3 : (((p + 1 : Nat) : Int) - 1).toNat = p := by rw [f0]; exact Int.toNat_natCast _
  have z1 : (0 : Int) ≤ ((p + 1 : Nat) : Int) - 1 := by rw [f0]; exact Int.natCast_nonneg _
  have z2 : ((p + 1 : Nat) : Int) - 1 ≤ 1000000 := by rw [f0]; exact ar_le hp (by decide)
  have z3 : (0 : Int) ≤ ((p + 1 : Nat) : Int) := Int.natCast_nonneg _
  have z4 : ((p + 1 : Nat) : Int) ≤ 1000000 := ar_le (Nat.succ_le_succ hp) (by decide)
  have e : (2 : Int) ^ p = ((2 ^ p : Nat) : Int) := by push_cast; rfl
  have e' : (2 : Int) ^ (p + 1) = ((2 ^ p : Nat) : Int) * 2 := by rw [Int.pow_succ, e]
  have e1 : (if v < 0 then v + 2 ^ (p + 1) - 1 else v) < 2 ^ (((p + 1 : Nat) : Int) - 1).toNat → (if v < 0 then v + 2 ^ (p + 1) - 1 else v) - 2 ^ (((p + 1 : Nat) : Int)).toNat + 1 = v := by
    rw [f2, f3, e, e']; exact (val_back h1).1
  have e2 : ¬ (if v < 0 then v + 2 ^ (p + 1) - 1 else v) < 2 ^ (((p + 1 : Nat) : Int) - 1).toNat → (if v < 0 then v + 2 ^ (p + 1) - 1 else v) = v := by
    rw [f3, e, e']; exact (val_back h1).2
  clear f0 f3 e e' h1
  refine with_as N fun as has => ?_
  refine wpAny_call ?_
  refine code_defK (by k_asm) (by k_asm) (by k_asm) (by k_asm) (by k_asm) rfl rfl (by assumption) (by k_is) (by k_is) (lt_dp hdp) (BindsTo.of_eq rfl) (locs rfl) has ?_ rfl rfl rfl (by decide)
  intro g' L' h' PP F' N' B' X' T' HE
  (try dsimp only)
  (try k_lift B')
  (try k_fold)
  k_steps
  all_goals (try dsimp only)
  · rw [e1 (by assumption)]
    (with_reducible rename Fr _ _ _ _ => F9)
    (with_reducible rename News _ _ _ _ => N9)
    exact HE _ _ _ _ F9 N9 fun F8 N8 K8 => hret _ _ _ F8 N8 (kept_as has K8)
  · have e3 := e2 (by assumption)
    (with_reducible rename Fr _ _ _ _ => F9)
    (with_reducible rename News _ _ _ _ => N9)
    exact HE _ _ _ _ F9 N9 fun F8 N8 K8 => by
      show Q (.int _ _) _
      rw [e3]
      exact hret _ _ _ F8 N8 (kept_as has K8)
/-! F29 -/
section
local macro_rules | `(tactic| walk_at "call type:list") => `(tactic| (k_here; (with_reducible show wpAny _ _ (call (Value.type _) [Value.ref _]) _ _ _); (with_unfolding_all refine' list_copyK (by k_asm) (by k_asm) (by is_list) ?_ (by size_fits); k_whole); intro _ _ _ _ _ l1; have fD' := fresh_lt l1; clear l1))
local macro_rules | `(tactic| walk_at "call builtin:len") => `(tactic| (k_here; (with_reducible show wpAny _ _ (call (Value.builtin "len") [Value.bytes _ _]) _ _ _); (refine len_bytes (by simp only [List.size_toArray]; omega) ?_)))
local macro_rules | `(tactic| walk_at "binaryOp RShift int int") => `(tactic| (k_here; (with_reducible refine rshift_int ?_ ?_); omega))
theorem not_pos {k : Nat} (h : ¬ 0 < (k : Int)) : k = 0 := Nat.eq_zero_of_not_pos fun q => h (Int.natCast_pos.mpr q)
theorem less_one {q n : Nat} (h : q ≤ n) (h0 : 0 < q) : (q : Int) - 1 + ((n - q : Nat) : Int) = ((n - 1 : Nat) : Int) := by
  obtain ⟨m, rfl⟩ := Nat.exists_eq_add_of_le h
  cases q with
  | zero => exact absurd h0 (Nat.lt_irrefl 0)
  | succ k =>
    rw [Nat.add_sub_cancel_left, show ((k + 1 : Nat) : Int) - 1 = (k : Int) from Int.add_sub_cancel (k : Int) 1, Nat.succ_add]
    rfl
theorem acread_spec {w : World} {mean : ExcName → Option Value} {mg mb : Str → Option Value} {dp un : Nat} {gd : Option (List Code)} {cn : Str} {cs : Scope} {ca : Addr} {ccd : Value} {cl : List (Str × Addr)} {outer : List Env} {A₀ : Around} {base h₀ : Heap} {L : Addr} {m : Str → Option Value} {s : Shared} {Q E : Value → Shared → Prop}
    (B : Below A₀ base outer h₀) (F : Fr h₀ L s.heap m) (X : (hd.heap_1 w.params).In h₀) (T : Top hd.view_1 (looseW hd.view_1 []) mean mg mb h₀) (hk : cs.kind = .function) (hdp : dp + 6 < recursionLimit) (hun : un + 48 < cLine)
    {c d b : Nat → Nat} {ol : List UInt8} {i i' k k' : Nat} {v : Int} {t1 tr : Tok} {xv : Nat → Value} {ra : Addr} {u0 u1 u2 u3 : Tok} {nl : Nat} {pl : Value} {e : Nat → Nat} {rs : List (Addr × Tok × Tok × Tok)} {cs' : List (Addr × Tok × Tok)} {o : Obj} {tt : Nat → Tok} (N : News h₀ L s.heap ((acrL w d (c 21) (e 0) (b 0) (k : Nat) tr ++ readerL w b ol i t1))) (NR : News h₀ L s.heap ((scanL w c xv 1 3 0 ++ [(ra, listOf #[.int 7 u0, .int 0 u1, .int 0 u2, .int 0 u3] nl)]) ++ tabL w e rs cs' o tt)) (hO : ∀ p ∈ (scanL w c xv 1 3 0 ++ [(ra, listOf #[.int 7 u0, .int 0 u1, .int 0 u2, .int 0 u3] nl)]) ++ tabL w e rs cs' o tt, p.1 ∉ arA d b) (ht : Tab PySem.Challenge.rw_nz0255_01.row.prog w e rs cs' o) (hD : (arA d b).Nodup) (hx : Nxt ol i k v i' k') (hol : ol.length ≤ 1000)
    (hret : ∀ (h' : Heap) (tk' : Nat) (D : Addr) (w0 w1 w2 w3 t2 tr' : Tok) (n' : Nat), Fr h₀ L h' m → News h₀ L h' ((D, listOf #[.int 7 w0, .int 0 w1, .int v w2, .int 0 w3] n') :: (acrL w d (c 21) (e 0) (b 0) (k' : Nat) tr' ++ readerL w b ol i' t2)) → Kept (arA d b) s.heap h' → s.heap.get? D = none →  Q (.ref D) { s with heap := h', toks := tk' }) :
    wpAny (model PySem.Challenge.rw_nz0255_01.row.prog w) (ktrTop dp un gd cn cs L ca ccd cl outer) (call (.ref 292) [.ref (d 0), pl, .ref ra]) Q E s := by
  have N0 := news_app N NR
  refine with_as N0 fun as has => ?_
  refine wpAny_call ?_
  refine code_defK4 (by k_asm) (by k_asm) (by k_asm) (by k_asm) (by k_asm) rfl rfl (by assumption) (by k_is) (by k_is) (lt_dp hdp) (BindsTo.of_eq rfl) (locs rfl) has ?_ rfl rfl rfl (by decide)
  intro g' L' h' PP F' N' B' X' T' HE
  (try dsimp only)
  (try k_lift B')
  (try k_fold)
  dsimp only [acrL, readerL, scanL, tabL, List.cons_append, List.nil_append] at N'
  have n0 := (ar_nd hD).1
  have h1 := ar_no hD hO
  have hOT : ∀ p ∈ tabL w e rs cs' o tt, p.1 ∉ rdA b := fun p hp q => hO p (List.mem_append_right _ hp) (.tail _ (.tail _ q))
  have hOX : ∀ p ∈ (scanL w c xv 1 3 0 ++ [(ra, listOf #[.int 7 u0, .int 0 u1, .int 0 u2, .int 0 u3] nl)]) ++ tabL w e rs cs' o tt, p.1 ∉ rdA b := fun p hp q => hO p hp (.tail _ (.tail _ q))
  refine kk_stmt ?_
  k_fold
  k_steps
  refine ⟨?_⟩
  (try dsimp only)
  (try refine tkA fun _ => ?_)
  (with_reducible rename FreshAt _ _ => fD)
  have nD := fresh_ne (a := d 1) fD (.tail _ (.head _))
  have fD0 := fresh_rd (X := (scanL w c xv 1 3 0 ++ [(ra, listOf #[.int 7 u0, .int 0 u1, .int 0 u2, .int 0 u3] nl)]) ++ tabL w e rs cs' o tt) fD
  have fD1 := fD.out
  refine kk_stmt (kk_if ?_)
  k_steps
  refine ⟨⟨fun hb => ?_, fun hb => ?_⟩⟩
  · cases hx with
    | zeros => exact absurd hb (by decide)
    | val => exact absurd hb (by decide)
    | skip =>
      have e9 : (((k' + 1 : Nat) : Int)) - 1 = (k' : Int) := Int.add_sub_cancel (k' : Int) 1
      refine kk_stmt ?_
      k_fold
      k_steps
      refine ⟨?_⟩
      (try dsimp only)
      (try refine tkA fun _ => ?_)
      refine kk_stmt ?_
      k_fold
      k_steps
      refine ⟨?_⟩
      (try dsimp only)
      refine ⟨?_⟩
      (try dsimp only)
      (with_reducible rename Fr _ _ _ _ => F9)
      (with_reducible rename News _ _ _ _ => N9)
      rw [e9] at N9
      exact HE _ _ _ _ F9 N9 fun F8 N8 K8 Z8 => hret _ _ _ u0 u1 u2 u3 t1 _ _ F8 (news_left (a := (_, listOf #[.int 7 u0, .int 0 u1, .int 0 u2, .int 0 u3] _) :: (acrL w d (c 21) (e 0) (b 0) (k' : Nat) _ ++ readerL w b ol i t1)) (b := (scanL w c xv 1 3 0 ++ [(ra, listOf #[.int 7 u0, .int 0 u1, .int 0 u2, .int 0 u3] nl)]) ++ tabL w e rs cs' o tt) N8) (kept_left (a := (acrL w d (c 21) (e 0) (b 0) (k' + 1 : Nat) tr ++ readerL w b ol i t1)) (kept_as has K8) NR (news_right (a := (acrL w d (c 21) (e 0) (b 0) (k' : Nat) _ ++ readerL w b ol i t1)) (b := (scanL w c xv 1 3 0 ++ [(ra, listOf #[.int 7 u0, .int 0 u1, .int 0 u2, .int 0 u3] nl)]) ++ tabL w e rs cs' o tt) (news_tail N9))) ((Z8 _ (.head _)).resolve_left (by rw [← has]; exact fD1))
  · have hk0 : k = 0 := not_pos (of_decide_eq_false hb)
    subst hk0
    refine wpAny_execs_nil ?_
    refine ⟨?_⟩
    (try dsimp only)
    refine kk_stmt ?_
    k_fold
    k_steps
    refine ⟨?_⟩
    (try dsimp only)
    (try refine tkA fun _ => ?_)
    (with_reducible rename Fr _ _ _ _ => F5)
    (with_reducible rename News _ _ _ _ => N5)
    refine kk_stmt (kk_whileL (readM _) (readLed w d b (c 21) (e 0) tr ol ((scanL w c xv 1 3 0 ++ [(ra, listOf #[.int 7 u0, .int 0 u1, .int 0 u2, .int 0 u3] nl)]) ++ tabL w e rs cs' o tt) _) (LJ ol v i' k') (fun y => (4 - y.kv).toNat) _ (readM_start F5 rfl) (news_tail N5 : News g' L' _ (readLed w d b (c 21) (e 0) tr ol ((scanL w c xv 1 3 0 ++ [(ra, listOf #[.int 7 u0, .int 0 u1, .int 0 u2, .int 0 u3] nl)]) ++ tabL w e rs cs' o tt) _ ⟨1, _, _, _, _, 0, lst [u0, u1, u2, u3], _, i, t1⟩)) (lj_start hx) ?_)
    clear N5 F5
    intro y h tk PP Jy F3 N3 next ret
    refine hideG fun G9 hG9 => ?_
    obtain ⟨hkv, hi6, _⟩ := id Jy
    refine hG9 ?_
    clear hG9 G9
    refine hideG fun G9 hG9 => ?_
    obtain ⟨j, hj, hbj, hcase⟩ := lj_sym Jy
    refine hG9 ?_
    clear hG9 G9
    dsimp only [readM] at F3
    dsimp only [readLed, acrL, readerL, scanL, tabL, List.cons_append, List.nil_append] at N3
    k_steps
    refine ⟨⟨fun hb2 => absurd hkv (of_decide_eq_false hb2), fun _ => ?_⟩⟩
    refine kk_stmt ?_
    k_fold
    k_steps
    refine ⟨?_⟩
    (with_reducible rename Fr _ _ _ _ => F5)
    (with_reducible rename News _ _ _ _ => N5)
    refine read_spec (by k_asm) (by k_asm) (by assumption) (by k_asm) rfl (room_lt (j := 3) hdp (by decide)) (room_lt (j := 19) hun (by decide)) (news_right (a := acrL w d (c 21) (e 0) (b 0) 0 tr) (b := readerL w b ol y.i y.t1) (news_left (a := acrL w d (c 21) (e 0) (b 0) 0 tr ++ readerL w b ol y.i y.t1) (b := (scanL w c xv 1 3 0 ++ [(ra, listOf #[.int 7 u0, .int 0 u1, .int 0 u2, .int 0 u3] nl)]) ++ tabL w e rs cs' o tt) (news_tail N5))) (news_right (a := (scanL w c xv 1 3 0 ++ [(ra, listOf #[.int 7 u0, .int 0 u1, .int 0 u2, .int 0 u3] nl)])) (b := tabL w e rs cs' o tt) (news_right (a := acrL w d (c 21) (e 0) (b 0) 0 tr ++ readerL w b ol y.i y.t1) (b := (scanL w c xv 1 3 0 ++ [(ra, listOf #[.int 7 u0, .int 0 u1, .int 0 u2, .int 0 u3] nl)]) ++ tabL w e rs cs' o tt) (news_tail N5))) hOT ht (ar_nd hD).2.2.2 hj hi6 hol hbj ?_
    intro h8 tk8 t8 q8 F8 N8 K8

    have N9 := rd_join (A := acrL w d (c 21) (e 0) (b 0) 0 tr) (R := readerL w b ol y.i y.t1) (X := (scanL w c xv 1 3 0 ++ [(ra, listOf #[.int 7 u0, .int 0 u1, .int 0 u2, .int 0 u3] nl)]) ++ tabL w e rs cs' o tt) N5 K8 fD0 (acr_off hD) N8 hOX
    clear N5 N8 K8
    dsimp only [acrL, readerL, scanL, tabL, List.cons_append, List.nil_append] at N9
    k_steps
    refine ⟨?_⟩
    (try dsimp only)
    refine kk_stmt ?_
    k_fold
    k_steps
    refine ⟨?_⟩
    (try dsimp only)
    (try refine tkA fun _ => ?_)
    (with_reducible rename Fr _ _ _ _ => F5)
    (with_reducible rename News _ _ _ _ => N5)
    have N6 := news_tail N5
    clear N5
    rcases hcase with ⟨hxv, n, hz⟩ | ⟨hkv1, hx0, p, rfl, hv⟩
    · obtain ⟨s1, s2⟩ := sym_sh j hz.1
      rw [s1, s2] at F5
      refine hideG fun G9 hG9 => ?_
      obtain ⟨hj6, g1, g2, _, b2, hlen, hi', hk'⟩ := hz
      refine hG9 ?_
      clear hG9 G9
      subst hi' hk'
      rw [hxv] at N6
      have zj0 : (0 : Int) ≤ (j : Int) := Int.natCast_nonneg j
      have zj6 : (j : Int) ≤ 1000000 := ar_le hj6 (by decide)
      have hj15 : ((j : Nat) : Int) < 15 := Int.ofNat_lt.mpr (Nat.lt_of_le_of_lt hj6 (by decide))
      have ev : ((bval (rbits ol (y.i + 6) j) : Nat) : Int) = ((n - 2 ^ j : Nat) : Int) := by rw [b2, bval_natBits_lt (by have h := g2; rw [Nat.pow_succ, Nat.mul_two] at h; exact Nat.sub_lt_left_of_lt_add g1 h)]
      have er : (2 : Int) ^ ((j : Nat) : Int).toNat - 1 + ((n - 2 ^ j : Nat) : Int) = ((n - 1 : Nat) : Int) := by
        rw [Int.toNat_natCast]
        have e : (2 : Int) ^ j = ((2 ^ j : Nat) : Int) := by push_cast; rfl
        rw [e]; exact less_one g1 (Nat.two_pow_pos j)
      refine kk_stmt (kk_if ?_)
      k_steps
      refine ⟨⟨fun hb3 => ?_, fun hb3 => ?_⟩⟩
      · skip
        refine kk_stmt ?_
        k_fold
        k_steps
        refine ⟨?_⟩
        (try dsimp only)
        (try refine tkA fun _ => ?_)
        refine kk_stmt (kk_if ?_)
        k_steps
        refine ⟨⟨fun hb4 => ?_, fun hb4 => ?_⟩⟩
        · refine kk_stmt ?_
          k_fold
          k_steps
          refine ⟨?_⟩
          (with_reducible rename Fr _ _ _ _ => F5)
          (with_reducible rename News _ _ _ _ => N5)
          refine rbits_spec (by k_asm) (by k_asm) (by assumption) (by k_asm) rfl (room_lt (j := 4) hdp (by decide)) (room_lt (j := 27) hun (by decide)) (news_right (a := acrL w d (c 21) (e 0) (b 0) _ _) (b := readerL w b ol _ _) (news_left (b := (scanL w c xv 1 3 0 ++ [(ra, listOf #[.int 7 u0, .int 0 u1, .int 0 u2, .int 0 u3] nl)]) ++ tabL w e rs cs' o tt) (news_tail N5))) (n := j) (ar_nd hD).2.2.2 (Nat.le_trans hj6 (by decide)) hlen hol ?_
          intro h8 tk8 t8 t9 F8 N8 K8

          have N9 := rd_join (A := acrL w d (c 21) (e 0) (b 0) _ _) (R := readerL w b ol _ _) (X := (scanL w c xv 1 3 0 ++ [(ra, listOf #[.int 7 u0, .int 0 u1, .int 0 u2, .int 0 u3] nl)]) ++ tabL w e rs cs' o tt) N5 K8 fD0 (acr_off hD) N8 hOX
          clear N5 N8 K8
          rw [ev]
          dsimp only [acrL, readerL, scanL, tabL, List.cons_append, List.nil_append] at N9
          k_steps
          refine ⟨?_⟩
          (try dsimp only)
          rw [er] at *
          refine wpAny_execs_nil ?_
          refine ⟨?_⟩
          (try dsimp only)
          refine kk_stmt ?_
          k_fold
          k_steps
          refine ⟨⟨ret _ _ ?_⟩⟩
          refine ⟨?_⟩
          (try dsimp only)
          (with_reducible rename Fr _ _ _ _ => F9)
          (with_reducible rename News _ _ _ _ => N9)
          exact HE _ _ _ _ F9 N9 fun F8 N8 K8 Z8 => hret _ _ _ _ _ _ _ _ _ _ F8 (news_left (a := _ :: (acrL w d (c 21) (e 0) (b 0) _ _ ++ readerL w b ol _ _)) (b := (scanL w c xv 1 3 0 ++ [(ra, listOf #[.int 7 u0, .int 0 u1, .int 0 u2, .int 0 u3] nl)]) ++ tabL w e rs cs' o tt) N8) (kept_left (a := (acrL w d (c 21) (e 0) (b 0) _ tr ++ readerL w b ol i t1)) (kept_as has K8) NR (news_right (a := (acrL w d (c 21) (e 0) (b 0) _ _ ++ readerL w b ol _ _)) (b := (scanL w c xv 1 3 0 ++ [(ra, listOf #[.int 7 u0, .int 0 u1, .int 0 u2, .int 0 u3] nl)]) ++ tabL w e rs cs' o tt) (news_tail N9))) ((Z8 _ (.head _)).resolve_left (by rw [← has]; exact fD1))
        · have hj0 : j = 0 := not_pos (of_decide_eq_false hb4)
          subst hj0
          have er0 : (2 : Int) ^ ((0 : Nat) : Int).toNat - 1 = ((n - 1 : Nat) : Int) := by
            obtain rfl : n = 1 := Nat.le_antisymm (Nat.le_of_lt_succ g2) g1
            rfl
          refine wpAny_execs_nil ?_
          refine ⟨?_⟩
          (try dsimp only)
          refine kk_stmt ?_
          k_fold
          k_steps
          refine ⟨⟨ret _ _ ?_⟩⟩
          refine ⟨?_⟩
          (try dsimp only)
          (with_reducible rename Fr _ _ _ _ => F9)
          (with_reducible rename News _ _ _ _ => N9)
          rw [er0] at N9
          exact HE _ _ _ _ F9 N9 fun F8 N8 K8 Z8 => hret _ _ _ _ _ _ _ _ _ _ F8 (news_left (a := _ :: (acrL w d (c 21) (e 0) (b 0) _ _ ++ readerL w b ol _ _)) (b := (scanL w c xv 1 3 0 ++ [(ra, listOf #[.int 7 u0, .int 0 u1, .int 0 u2, .int 0 u3] nl)]) ++ tabL w e rs cs' o tt) N8) (kept_left (a := (acrL w d (c 21) (e 0) (b 0) _ tr ++ readerL w b ol i t1)) (kept_as has K8) NR (news_right (a := (acrL w d (c 21) (e 0) (b 0) _ _ ++ readerL w b ol _ _)) (b := (scanL w c xv 1 3 0 ++ [(ra, listOf #[.int 7 u0, .int 0 u1, .int 0 u2, .int 0 u3] nl)]) ++ tabL w e rs cs' o tt) (news_tail N9))) ((Z8 _ (.head _)).resolve_left (by rw [← has]; exact fD1))
      · exact absurd hb3 (by decide)
    · obtain ⟨s1, s2⟩ := sym_sv p hv.1
      unfold readM at F5
      rw [s1, s2, hkv1] at F5
      rw [hx0] at N6
      refine hideG fun G9 hG9 => ?_
      obtain ⟨hp2, g1, g2, _, b2, b3, hlen, hi', hk'⟩ := hv
      refine hG9 ?_
      clear hG9 G9
      have hpp : ((p + 1 : Nat) : Int) ≠ 0 := Int.ofNat_ne_zero.mpr (Nat.succ_ne_zero p)
      have hpq : 0 < ((p + 1 : Nat) : Int) := Int.natCast_pos.mpr (Nat.succ_pos p)
      have ev : ((bval (rbits ol (y.i + 6) (p + 1)) : Nat) : Int) = (if v < 0 then v + 2 ^ (p + 1) - 1 else v) := by
        obtain ⟨q1, q2⟩ := val_fit g1 g2
        rw [b2, bval_natBits_lt]
        · exact Int.toNat_of_nonneg q1
        · have e : (2 : Int) ^ (p + 1) = ((2 ^ (p + 1) : Nat) : Int) := by push_cast; rfl
          rw [e] at q2
          exact (Int.toNat_lt (by rw [← e] at q2; exact q1)).mpr q2
      refine kk_stmt (kk_if ?_)
      k_steps
      · exact absurd (by assumption) hpp
      refine ⟨⟨fun hb3 => ?_, fun hb3 => ?_⟩⟩
      · exact absurd hb3 (by decide)
      · refine wpAny_execs_nil ?_
        refine ⟨?_⟩
        (try dsimp only)
        refine kk_stmt ?_
        k_fold
        k_steps
        refine ⟨?_⟩
        (try dsimp only)
        (try refine tkA fun _ => ?_)
        refine kk_stmt ?_
        k_fold
        k_steps
        refine ⟨?_⟩
        (try dsimp only)
        (try refine tkA fun _ => ?_)
        refine kk_stmt (kk_if ?_)
        k_steps
        refine ⟨⟨fun hb4 => ?_, fun hb4 => ?_⟩⟩
        · refine kk_stmt ?_
          k_fold
          k_steps
          refine ⟨?_⟩
          (with_reducible rename Fr _ _ _ _ => F5)
          (with_reducible rename News _ _ _ _ => N5)
          refine rbits_spec (by k_asm) (by k_asm) (by assumption) (by k_asm) rfl (room_lt (j := 4) hdp (by decide)) (room_lt (j := 27) hun (by decide)) (news_right (a := acrL w d (c 21) (e 0) (b 0) _ _) (b := readerL w b ol _ _) (news_left (b := (scanL w c xv 1 3 0 ++ [(ra, listOf #[.int 7 u0, .int 0 u1, .int 0 u2, .int 0 u3] nl)]) ++ tabL w e rs cs' o tt) (news_tail N5))) (n := p + 1) (ar_nd hD).2.2.2 (Nat.le_trans (Nat.succ_le_succ hp2) (by decide)) (Nat.le_trans (Nat.le_add_right _ 6) hlen) hol ?_
          intro h8 tk8 t8 t9 F8 N8 K8

          have N9 := rd_join (A := acrL w d (c 21) (e 0) (b 0) _ _) (R := readerL w b ol _ _) (X := (scanL w c xv 1 3 0 ++ [(ra, listOf #[.int 7 u0, .int 0 u1, .int 0 u2, .int 0 u3] nl)]) ++ tabL w e rs cs' o tt) N5 K8 fD0 (acr_off hD) N8 hOX
          clear N5 N8 K8
          rw [ev]
          dsimp only [acrL, readerL, scanL, tabL, List.cons_append, List.nil_append] at N9
          k_steps
          refine ⟨?_⟩
          (with_reducible rename Fr _ _ _ _ => F5)
          (with_reducible rename News _ _ _ _ => N5)
          refine valueof_spec (by k_asm) (by k_asm) (by assumption) (by k_asm) rfl (room_lt (j := 2) hdp (by decide)) (room_lt (j := 11) hun (by decide)) News.nil hp2 g1 g2 ?_
          intro h8 tk8 t8 F8 N8 K8

          have N9 := keep_all N5 K8
          clear N5 N8 K8
          k_steps
          refine ⟨?_⟩
          (try dsimp only)
          refine wpAny_execs_nil ?_
          refine ⟨?_⟩
          (try dsimp only)
          refine kk_stmt ?_
          k_fold
          k_steps
          refine ⟨?_⟩
          (try dsimp only)
          (try refine tkA fun _ => ?_)
          refine wpAny_execs_nil ?_
          (with_reducible rename Fr _ _ _ _ => F9)
          (with_reducible rename News _ _ _ _ => N9)
          refine' next ⟨1 + 1 + 1, _, _, _, _, _, lst [y.u 0, y.u 1, _, y.u 3], _, _, _⟩ _ _ ?lj ?mu ?fr ?nw
          case nw => exact N9
          case fr => exact fr_eq F9 (by unfold readM; refine canon4 ?_; repeat (first | exact offM_refl | refine offM_set (by decide) ?_))
          case mu =>
            show (4 - (1 + 1 + 1) : Int).toNat < (4 - y.kv).toNat
            rw [hkv1]
            decide
          case lj => exact ⟨by show (1 + 1 + 1 : Int) ≤ 3; decide, hlen, .inl ⟨by simp, 1, 0, by decide, by decide, by decide, b3, rfl, hlen, hi', hk'⟩⟩
        · exact absurd hpq (of_decide_eq_false hb4)
end
/-! F30 -/
theorem exc_spec {w : World} {mean : ExcName → Option Value} {mg mb : Str → Option Value} {dp un : Nat} {gd : Option (List Code)} {cn : Str} {cs : Scope} {ca : Addr} {ccd : Value} {cl : List (Str × Addr)} {outer : List Env} {A₀ : Around} {base h₀ : Heap} {L : Addr} {m : Str → Option Value} {s : Shared} {Q E : Value → Shared → Prop}
    (B : Below A₀ base outer h₀) (F : Fr h₀ L s.heap m) (X : (hd.heap_1 w.params).In h₀) (T : Top hd.view_1 (looseW hd.view_1 []) mean mg mb h₀) (hk : cs.kind = .function) (hdp : dp + 4 < recursionLimit) (hun : un + 32 < cLine)
    {C : Addr} {msg : Str} {t0 : Tok} (N : News h₀ L s.heap ([])) (hE : ExcOk (hd.heap_1 w.params) C)
    (hret : ∀ (h' : Heap) (tk' : Nat) (e t1 d1 : Addr), Fr h₀ L h' m → News h₀ L h' ([(e, excObj C t1 (some d1))]) → Kept ([]) s.heap h' → (∀ b o, s.heap.get? b = some o → b ≠ e) →  Q (.ref e) { s with heap := h', toks := tk' }) :
    wpAny (model PySem.Challenge.rw_nz0255_01.row.prog w) (ktrTop dp un gd cn cs L ca ccd cl outer) (call (.ref C) [.str msg t0]) Q E s := by
  obtain ⟨⟨nm, qn, NN, bs, bm, hdct, sn, sub, ab, col, dd, k0, k1, k2, k3, k5, hC, hcB, hcA, hcN, hbase⟩, hsa, ⟨cd9, hcl, hmro, hobj, hne, hdict⟩, htk, hini, hfn⟩ := hE
  obtain ⟨hp, gn, dr, tk0, os⟩ := s
  dsimp only at F N hret
  have XX := X.keeps F.keep
  refine wpAny_call (ex_make hcB hcA hcN (XX _ _ hC) (looks_findIn XX hini) (fun self => bind_fn XX self hfn) (by rw [sizeLine_eq]; exact (by decide : 1 ≤ 16777216)) ?_)
  have F1 := (F.push { cls := .type "tuple", data := .seq [Value.str msg t0].toArray }).push (excObj C hp.objs.size none)
  have N1 : News h₀ L ((hp.push { cls := .type "tuple", data := .seq [Value.str msg t0].toArray }).push (excObj C hp.objs.size none)) [(hp.objs.size + 1, excObj C hp.objs.size none)] := by
    have z := (News.push F News.nil { cls := .type "tuple", data := .seq [Value.str msg t0].toArray }).push (F.push _) (excObj C hp.objs.size none)
    rw [Heap.size_push] at z
    exact fun p hp => z p (by rcases List.mem_cons.mp hp with rfl | q; exact .head _; cases q)
  have K1 : Kept [] hp ((hp.push { cls := .type "tuple", data := .seq [Value.str msg t0].toArray }).push (excObj C hp.objs.size none)) := fun b o e _ => Heap.get?_push_of_some _ (Heap.get?_push_of_some _ e)
  have hs1 : ∀ a ∈ [hp.objs.size + 1], hp.objs.size ≤ a := fun a ha => by rw [List.mem_singleton.mp ha]; exact Nat.le_succ _
  have hne1 : ∀ b o, hp.get? b = some o → b ≠ hp.objs.size + 1 := fun b o e q => by
    have h := Heap.lt_size e
    rw [q] at h
    exact absurd h (Nat.not_lt.mpr (Nat.le_succ _))
  generalize hp.objs.size + 1 = e at *
  generalize (hp.push _).push _ = h2 at *
  refine with_as N1 fun as has => ?_
  refine code_defK (by k_asm) (by k_asm) (by k_asm) (by k_asm) (by k_asm) rfl rfl (by assumption) (by k_is) (by k_is) (room_lt (j := 1) hdp (by decide)) (BindsTo.of_eq rfl) (locs rfl) has ?_ rfl rfl rfl (by decide)
  intro g' L' h' PP F' N' B' X' T' HE
  (try dsimp only)
  (try k_lift B')
  (try k_fold)
  refine kk_stmt ?_
  k_fold
  k_steps
  with_reducible refine method_type (by k_asm) (by k_asm) (by exact type_Exc) (by decide +kernel) (by k_dflt k_is) (by k_handed) ?_
  k_steps
  (with_reducible rename Fr _ _ _ _ => F5)
  (with_reducible rename News _ _ _ _ => N5)
  refine ex_init F5 N5 hcB ((X'.keeps F5.keep) _ _ hC) (fun _ h => nomatch h) fun t1 h3 F6 N6 => ?_
  clear F5 N5
  k_steps
  refine ⟨?_⟩
  (try dsimp only)
  refine kk_stmt ?_
  k_fold
  k_steps
  (with_reducible rename Fr _ _ _ _ => F5)
  (with_reducible rename News _ _ _ _ => N5)
  refine ex_set F5 N5 (X'.keeps F5.keep) hsa hcl (hmro _) hobj hne hdict htk (fun _ h => nomatch h) fun d1 h4 tk4 F6 N6 => ?_
  clear F5 N5
  k_steps
  refine ⟨?_⟩
  (try dsimp only)
  k_steps
  (with_reducible rename Fr _ _ _ _ => F9)
  (with_reducible rename News _ _ _ _ => N9)
  refine HE _ _ _ _ F9 N9 fun F8 N8 K8 => ?_
  exact ⟨rfl, hret _ _ e t1 d1 F8 N8 (kept_new K1 (kept_as has K8) hs1) hne1⟩
/-! F31 -/
theorem newbr_spec {w : World} {mean : ExcName → Option Value} {mg mb : Str → Option Value} {dp un : Nat} {gd : Option (List Code)} {cn : Str} {cs : Scope} {ca : Addr} {ccd : Value} {cl : List (Str × Addr)} {outer : List Env} {A₀ : Around} {base h₀ : Heap} {L : Addr} {m : Str → Option Value} {s : Shared} {Q E : Value → Shared → Prop}
    (B : Below A₀ base outer h₀) (F : Fr h₀ L s.heap m) (X : (hd.heap_1 w.params).In h₀) (T : Top hd.view_1 (looseW hd.view_1 []) mean mg mb h₀) (hk : cs.kind = .function) (hdp : dp + 3 < recursionLimit) (hun : un + 24 < cLine)
    {ol : List UInt8} {t0 : Tok} (N : News h₀ L s.heap ([])) 
    (hret : ∀ (h' : Heap) (tk' : Nat) (b : Nat → Nat) (t1 : Tok), Fr h₀ L h' m → News h₀ L h' (readerL w b ol 0 t1) → Kept ([]) s.heap h' → (∀ a ∈ rdA b, s.heap.objs.size ≤ a) → @Ne Nat (b 0) (b 1) →  Q (.ref (b 0)) { s with heap := h', toks := tk' }) :
    wpAny (model PySem.Challenge.rw_nz0255_01.row.prog w) (ktrTop dp un gd cn cs L ca ccd cl outer) (call (.ref 169) [.bytes ol.toArray t0]) Q E s := by
  refine wpAny_call (make_KK F N (X.keeps F.keep) (by k_is) (by k_is) (by k_is) fun x dx h1 F1 N1 l1 l2 K1 hs1 => ?_)
  have l2 : @LT.lt Nat _ dx x := l2
  refine with_as N1 fun as has => ?_
  refine code_defK (by k_asm) (by k_asm) (by k_asm) (by k_asm) (by k_asm) rfl rfl (by assumption) (by k_is) (by k_is) (room_lt (j := 1) hdp (by decide)) (BindsTo.of_eq rfl) (locs rfl) has ?_ rfl rfl rfl (by decide)
  intro g' L' h' PP F' N' B' X' T' HE
  (try dsimp only)
  (try k_lift B')
  (try k_fold)
  have nx : @Ne Nat x dx := Nat.ne_of_gt l2
  k_steps
  (with_reducible rename Fr _ _ _ _ => F9)
  (with_reducible rename News _ _ _ _ => N9)
  refine HE _ _ _ _ F9 N9 fun F8 N8 K8 => ?_
  exact ⟨rfl, hret _ _ (lst [x, dx, _, _, _]) _ F8 N8 (kept_new K1 (kept_as has K8) ((fm (Nat.le_trans hs1 (Nat.le_of_lt l2)) (fm (hs1) (List.forall_mem_nil _))))) ((fm (Nat.le_trans hs1 (Nat.le_of_lt l2)) (fm (hs1) (List.forall_mem_nil _)))) nx⟩
/-! F32 -/
section
local macro_rules | `(tactic| walk_at "subscriptTail") => `(tactic| (k_here; (with_reducible show wpAny _ _ (subscriptTail _ _ (Value.ref _) (Value.ref _)) _ _ _); k_dflt (refine' tab_item2 (by k_asm) (by k_mem) (by assumption) (by k_mem) (by k_mem) (by first | exact room_lt (j := 4) (by assumption) (by decide) | exact room_lt (j := 5) (by assumption) (by decide) | exact room_lt (j := 6) (by assumption) (by decide) | exact room_lt (j := 7) (by assumption) (by decide)) ?_)))
theorem newacr_spec {w : World} {mean : ExcName → Option Value} {mg mb : Str → Option Value} {dp un : Nat} {gd : Option (List Code)} {cn : Str} {cs : Scope} {ca : Addr} {ccd : Value} {cl : List (Str × Addr)} {outer : List Env} {A₀ : Around} {base h₀ : Heap} {L : Addr} {m : Str → Option Value} {s : Shared} {Q E : Value → Shared → Prop}
    (B : Below A₀ base outer h₀) (F : Fr h₀ L s.heap m) (X : (hd.heap_1 w.params).In h₀) (T : Top hd.view_1 (looseW hd.view_1 []) mean mg mb h₀) (hk : cs.kind = .function) (hdp : dp + 4 < recursionLimit) (hun : un + 32 < cLine)
    {c : Nat → Nat} {xv : Nat → Value} {ac : Addr} {ta : Tok} {nac : Nat} {e : Nat → Nat} {rs : List (Addr × Tok × Tok × Tok)} {cs' : List (Addr × Tok × Tok)} {o to : Obj} {tt : Nat → Tok} (N : News h₀ L s.heap ((scanL w c xv 1 3 0 ++ [(ac, listOf #[.int 0 ta] nac)]) ++ tabsL w c e rs cs' o to tt)) (ht : Tab PySem.Challenge.rw_nz0255_01.row.prog w e rs cs' o) (hto : TabObj PySem.Challenge.rw_nz0255_01.row.prog w (e 12) (e 0) to) (hx2 : xv 2 = .ref ac)
    (hret : ∀ (h' : Heap) (tk' : Nat) (d : Nat → Nat) (tr : Tok), Fr h₀ L h' m → News h₀ L h' (acr0 w d (c 21) (e 0) tr) → Kept ([]) s.heap h' → (∀ a ∈ [d 0, d 1], s.heap.objs.size ≤ a) → @Ne Nat (d 0) (d 1) →  Q (.ref (d 0)) { s with heap := h', toks := tk' }) :
    wpAny (model PySem.Challenge.rw_nz0255_01.row.prog w) (ktrTop dp un gd cn cs L ca ccd cl outer) (call (.ref 302) [.ref (c 21), .ref (c 8)]) Q E s := by
  refine wpAny_call (make_KK F N (X.keeps F.keep) (by k_is) (by k_is) (by k_is) fun x dx h1 F1 N1 l1 l2 K1 hs1 => ?_)
  have l2 : @LT.lt Nat _ dx x := l2
  refine with_as N1 fun as has => ?_
  refine code_defK (by k_asm) (by k_asm) (by k_asm) (by k_asm) (by k_asm) rfl rfl (by assumption) (by k_is) (by k_is) (room_lt (j := 1) hdp (by decide)) (BindsTo.of_eq rfl) (locs rfl) has ?_ rfl rfl rfl (by decide)
  intro g' L' h' PP F' N' B' X' T' HE
  (try dsimp only)
  (try k_lift B')
  (try k_fold)
  have nx : @Ne Nat x dx := Nat.ne_of_gt l2
  have nZ : dx ∉ ((scanL w c xv 1 3 0 ++ [(ac, listOf #[.int 0 ta] nac)]) ++ tabsL w c e rs cs' o to tt).map (·.1) := off_no fun p hp => Nat.ne_of_lt (l1 p hp)
  dsimp only [scanL, scanE, tabsL, List.cons_append, List.nil_append] at N'
  rw [hx2] at N'
  refine kk_stmt ?_
  k_fold
  k_steps
  refine ⟨?_⟩
  (try dsimp only)
  (try refine tkA fun _ => ?_)
  refine kk_stmt ?_
  k_fold
  k_steps
  refine ⟨?_⟩
  (try dsimp only)
  (try refine tkA fun _ => ?_)
  refine kk_stmt ?_
  k_fold
  k_steps
  refine ⟨?_⟩
  (try dsimp only)
  (try refine tkA fun _ => ?_)
  refine kk_stmt ?_
  k_fold
  k_steps
  refine ⟨?_⟩
  (try dsimp only)
  (try refine tkA fun _ => ?_)
  refine wpAny_execs_nil ?_
  (with_reducible rename Fr _ _ _ _ => F9)
  (with_reducible rename News _ _ _ _ => N9)
  rw [← hx2] at N9
  have NZ := news_sub N9 (l := (scanL w c xv 1 3 0 ++ [(ac, listOf #[.int 0 ta] nac)]) ++ tabsL w c e rs cs' o to tt) (fun p hp => .tail _ (.tail _ (.tail _ hp)))
  refine HE _ _ _ _ F9 N9 fun F8 N8 K8 => ?_
  exact ⟨rfl, hret _ _ (lst [x, dx, _, _, _, _]) _ F8 (news_left (a := [_, _]) (news_tail N8)) (kept_new K1 (kept_left (a := [(x, instObj 302 dx), (dx, emptyDict)]) (b := (scanL w c xv 1 3 0 ++ [(ac, listOf #[.int 0 ta] nac)]) ++ tabsL w c e rs cs' o to tt) (kept_as has K8) (fun p hp => N1 p (.tail _ (.tail _ hp))) NZ) ((fm (Nat.le_trans hs1 (Nat.le_of_lt l2)) (fm (hs1) (List.forall_mem_nil _))))) ((fm (Nat.le_trans hs1 (Nat.le_of_lt l2)) (fm (hs1) (List.forall_mem_nil _)))) nx⟩
end
/-! F34 -/
section
local macro_rules | `(tactic| walk_at "call type:list") => `(tactic| (k_here; (with_reducible show wpAny _ _ (call (Value.type _) [Value.ref _]) _ _ _); (with_unfolding_all refine' list_copyK (by k_asm) (by k_asm) (by is_list) ?_ (by size_fits); k_whole); intro _ _ _ _ _ l1; have fD' := fresh_lt l1; clear l1))
noncomputable def dcrL (w : World) (d : Nat → Nat) (sc : Addr) (rv : Value) : List (Addr × Obj) :=
  [(d 0, instObj 435 (d 1)), (d 1, dictOf (dcrE w d sc (rv)) 2)]
theorem dcread2_spec {w : World} {mean : ExcName → Option Value} {mg mb : Str → Option Value} {dp un : Nat} {gd : Option (List Code)} {cn : Str} {cs : Scope} {ca : Addr} {ccd : Value} {cl : List (Str × Addr)} {outer : List Env} {A₀ : Around} {base h₀ : Heap} {L : Addr} {m : Str → Option Value} {s : Shared} {Q E : Value → Shared → Prop}
    (B : Below A₀ base outer h₀) (F : Fr h₀ L s.heap m) (X : (hd.heap_1 w.params).In h₀) (T : Top hd.view_1 (looseW hd.view_1 []) mean mg mb h₀) (hk : cs.kind = .function) (hdp : dp + 2 < recursionLimit) (hun : un + 16 < cLine)
    {c d b : Nat → Nat} {ol : List UInt8} {i : Nat} {t1 : Tok} {xv : Nat → Value} {st en lo v : Int} {l : Addr} {nl : Nat} {t3 : Tok} {u5 pl : Value} (N : News h₀ L s.heap (readerL w b ol i t1)) (NR : News h₀ L s.heap (dcrL w d (c 21) (.ref (b 0)) ++ (scanL w c xv st en lo ++ [(l, listOf #[.int v t3, u5] nl)]))) (hO : ∀ p ∈ dcrL w d (c 21) (.ref (b 0)) ++ (scanL w c xv st en lo ++ [(l, listOf #[.int v t3, u5] nl)]), p.1 ∉ rdA b) (hD : @Ne Nat (b 0) (b 1)) (hi : i < 8 * ol.length) (hol : ol.length ≤ 1000) (hl0 : 0 ≤ lo) (hl9 : lo < 8) (hv : rbit ol i = 1 → Builtin.bitOr v (2 ^ lo.toNat) = v + 2 ^ lo.toNat)
    (hret : ∀ (h' : Heap) (tk' : Nat) (D : Addr) (t2 t4 : Tok) (n' : Nat), Fr h₀ L h' m → News h₀ L h' ((D, listOf #[.int (if rbit ol i = 0 then v else v + 2 ^ lo.toNat) t4, u5] n') :: (readerL w b ol (i + 1 : Nat) t2)) → Kept (rdA b) s.heap h' →  Q (.ref D) { s with heap := h', toks := tk' }) :
    wpAny (model PySem.Challenge.rw_nz0255_01.row.prog w) (ktrTop dp un gd cn cs L ca ccd cl outer) (call (.ref 425) [.ref (d 0), pl, .ref l]) Q E s := by
  have N0 := news_app N NR
  refine with_as N0 fun as has => ?_
  refine wpAny_call ?_
  refine code_defK (by k_asm) (by k_asm) (by k_asm) (by k_asm) (by k_asm) rfl rfl (by assumption) (by k_is) (by k_is) (lt_dp hdp) (BindsTo.of_eq rfl) (locs rfl) has ?_ rfl rfl rfl (by decide)
  intro g' L' h' PP F' N' B' X' T' HE
  (try dsimp only)
  (try k_lift B')
  (try k_fold)
  dsimp only [readerL, dcrL, scanL, List.cons_append, List.nil_append] at N'
  refine kk_stmt (kk_if ?_)
  k_steps
  refine ⟨?_⟩
  (with_reducible rename Fr _ _ _ _ => F5)
  (with_reducible rename News _ _ _ _ => N5)
  refine bit_spec (by k_asm) (by k_asm) (by assumption) (by k_asm) rfl (room_lt (j := 2) hdp (by decide)) (room_lt (j := 11) hun (by decide)) (news_left (a := readerL w b ol i t1) (b := dcrL w d (c 21) (.ref (b 0)) ++ (scanL w c xv st en lo ++ [(l, listOf #[.int v t3, u5] nl)])) N5) hD hi hol  ?_
  intro h8 tk8 t8 t9 F8 N8 K8
  have N9 := news_app N8 (keep_off (news_right (a := readerL w b ol i t1) (b := dcrL w d (c 21) (.ref (b 0)) ++ (scanL w c xv st en lo ++ [(l, listOf #[.int v t3, u5] nl)])) N5) K8 hO)
  clear N5 N8 K8
  dsimp only [readerL, dcrL, scanL, List.cons_append, List.nil_append] at N9
  k_steps
  have hz : ∀ z : Nat, (((z : Nat) : Int) == 0) = true → z = 0 := fun z h => Int.ofNat.inj (eq_of_beq h)
  have hz1 : (((rbit ol i : Nat) : Int) == 0) = false → rbit ol i = 1 ∧ rbit ol i ≠ 0 := fun h => by
    have h1 : rbit ol i < 2 := Nat.mod_lt _ (by decide)
    have h2 : ((rbit ol i : Nat) : Int) ≠ 0 := fun e => by rw [e] at h; cases h
    omega
  refine ⟨⟨fun hb => ?_, fun hb => ?_⟩⟩
  · have hb0 := hz _ hb
    rw [if_pos hb0] at hret
    k_steps
    refine ⟨?_⟩
    (try dsimp only)
    (with_reducible rename Fr _ _ _ _ => F9)
    (with_reducible rename News _ _ _ _ => N9)
    exact HE _ _ _ _ F9 N9 fun F8 N8 K8 => hret _ _ _ _ _ _ F8 (news_left (a := (_, _) :: readerL w b ol (i + 1 : Nat) t9) (b := dcrL w d (c 21) (.ref (b 0)) ++ (scanL w c xv st en lo ++ [(l, listOf #[.int v t3, u5] nl)])) N8) (kept_left (a := readerL w b ol i t1) (kept_as has K8) NR (news_right (a := readerL w b ol (i + 1 : Nat) t9) (b := dcrL w d (c 21) (.ref (b 0)) ++ (scanL w c xv st en lo ++ [(l, listOf #[.int v t3, u5] nl)])) (news_tail N9)))
  · obtain ⟨hb1, hb2⟩ := hz1 hb
    rw [if_neg hb2] at hret
    have hv1 := hv hb1
    refine wpAny_execs_nil ?_
    refine ⟨?_⟩
    (try dsimp only)
    refine kk_stmt ?_
    k_fold
    k_steps
    refine ⟨?_⟩
    (try dsimp only)
    (with_reducible rename Fr _ _ _ _ => F9)
    (with_reducible rename News _ _ _ _ => N9)
    rw [hv1] at N9
    have NX := news_tail (news_tail (news_tail (news_tail N9)))
    exact HE _ _ _ _ F9 ((fm (N9 _ (.head _)) (NX))) fun F8 N8 K8 => hret _ _ _ _ _ _ F8 (news_left (a := (_, _) :: readerL w b ol (i + 1 : Nat) t9) (b := dcrL w d (c 21) (.ref (b 0)) ++ (scanL w c xv st en lo ++ [(l, listOf #[.int v t3, u5] nl)])) N8) (kept_left (a := readerL w b ol i t1) (kept_as has K8) NR (news_right (a := readerL w b ol (i + 1 : Nat) t9) (b := dcrL w d (c 21) (.ref (b 0)) ++ (scanL w c xv st en lo ++ [(l, listOf #[.int v t3, u5] nl)])) NX))
theorem dcread1_spec {w : World} {mean : ExcName → Option Value} {mg mb : Str → Option Value} {dp un : Nat} {gd : Option (List Code)} {cn : Str} {cs : Scope} {ca : Addr} {ccd : Value} {cl : List (Str × Addr)} {outer : List Env} {A₀ : Around} {base h₀ : Heap} {L : Addr} {m : Str → Option Value} {s : Shared} {Q E : Value → Shared → Prop}
    (B : Below A₀ base outer h₀) (F : Fr h₀ L s.heap m) (X : (hd.heap_1 w.params).In h₀) (T : Top hd.view_1 (looseW hd.view_1 []) mean mg mb h₀) (hk : cs.kind = .function) (hdp : dp + 2 < recursionLimit) (hun : un + 16 < cLine)
    {c d b : Nat → Nat} {ol : List UInt8} {i : Nat} {t1 : Tok} {xv : Nat → Value} {st en lo : Int} {l : Addr} {nl : Nat} {t3 : Tok} {pl : Value} (N : News h₀ L s.heap (readerL w b ol i t1)) (NR : News h₀ L s.heap (dcrL w d (c 21) (.ref (b 0)) ++ (scanL w c xv st en lo ++ [(l, listOf #[.int 0 t3] nl)]))) (hO : ∀ p ∈ dcrL w d (c 21) (.ref (b 0)) ++ (scanL w c xv st en lo ++ [(l, listOf #[.int 0 t3] nl)]), p.1 ∉ rdA b) (hD : @Ne Nat (b 0) (b 1)) (hi : i < 8 * ol.length) (hol : ol.length ≤ 1000) (hl0 : 0 ≤ lo) (hl9 : lo < 8) 
    (hret : ∀ (h' : Heap) (tk' : Nat) (D : Addr) (t2 : Tok), Fr h₀ L h' m → News h₀ L h' ((readerL w b ol (i + 1 : Nat) t2)) → Kept (rdA b) s.heap h' →  Q (.ref D) { s with heap := h', toks := tk' }) :
    wpAny (model PySem.Challenge.rw_nz0255_01.row.prog w) (ktrTop dp un gd cn cs L ca ccd cl outer) (call (.ref 425) [.ref (d 0), pl, .ref l]) Q E s := by
  have N0 := news_app N NR
  refine with_as N0 fun as has => ?_
  refine wpAny_call ?_
  refine code_defK (by k_asm) (by k_asm) (by k_asm) (by k_asm) (by k_asm) rfl rfl (by assumption) (by k_is) (by k_is) (lt_dp hdp) (BindsTo.of_eq rfl) (locs rfl) has ?_ rfl rfl rfl (by decide)
  intro g' L' h' PP F' N' B' X' T' HE
  (try dsimp only)
  (try k_lift B')
  (try k_fold)
  dsimp only [readerL, dcrL, scanL, List.cons_append, List.nil_append] at N'
  refine kk_stmt (kk_if ?_)
  k_steps
  refine ⟨?_⟩
  (with_reducible rename Fr _ _ _ _ => F5)
  (with_reducible rename News _ _ _ _ => N5)
  refine bit_spec (by k_asm) (by k_asm) (by assumption) (by k_asm) rfl (room_lt (j := 2) hdp (by decide)) (room_lt (j := 11) hun (by decide)) (news_left (a := readerL w b ol i t1) (b := dcrL w d (c 21) (.ref (b 0)) ++ (scanL w c xv st en lo ++ [(l, listOf #[.int 0 t3] nl)])) N5) hD hi hol  ?_
  intro h8 tk8 t8 t9 F8 N8 K8
  have N9 := news_app N8 (keep_off (news_right (a := readerL w b ol i t1) (b := dcrL w d (c 21) (.ref (b 0)) ++ (scanL w c xv st en lo ++ [(l, listOf #[.int 0 t3] nl)])) N5) K8 hO)
  clear N5 N8 K8
  dsimp only [readerL, dcrL, scanL, List.cons_append, List.nil_append] at N9
  k_steps
  have hz : ∀ z : Nat, (((z : Nat) : Int) == 0) = true → z = 0 := fun z h => Int.ofNat.inj (eq_of_beq h)
  have hz1 : (((rbit ol i : Nat) : Int) == 0) = false → rbit ol i = 1 ∧ rbit ol i ≠ 0 := fun h => by
    have h1 : rbit ol i < 2 := Nat.mod_lt _ (by decide)
    have h2 : ((rbit ol i : Nat) : Int) ≠ 0 := fun e => by rw [e] at h; cases h
    omega
  refine ⟨⟨fun hb => ?_, fun hb => ?_⟩⟩
  · have hb0 := hz _ hb
    k_steps
    refine ⟨?_⟩
    (try dsimp only)
    (with_reducible rename Fr _ _ _ _ => F9)
    (with_reducible rename News _ _ _ _ => N9)
    exact HE _ _ _ _ F9 N9 fun F8 N8 K8 => hret _ _ _ _ F8 (news_left (a := readerL w b ol (i + 1 : Nat) t9) (b := dcrL w d (c 21) (.ref (b 0)) ++ (scanL w c xv st en lo ++ [(l, listOf #[.int 0 t3] nl)])) (news_tail N8)) (kept_left (a := readerL w b ol i t1) (kept_as has K8) NR (news_right (a := readerL w b ol (i + 1 : Nat) t9) (b := dcrL w d (c 21) (.ref (b 0)) ++ (scanL w c xv st en lo ++ [(l, listOf #[.int 0 t3] nl)])) (news_tail N9)))
  · obtain ⟨hb1, hb2⟩ := hz1 hb
    refine wpAny_execs_nil ?_
    refine ⟨?_⟩
    (try dsimp only)
    refine kk_stmt ?_
    k_fold
    k_steps
    refine ⟨?_⟩
    (try dsimp only)
    (with_reducible rename Fr _ _ _ _ => F9)
    (with_reducible rename News _ _ _ _ => N9)
    have NX := news_tail (news_tail (news_tail (news_tail N9)))
    exact HE _ _ _ _ F9 ((fm (N9 _ (.head _)) (NX))) fun F8 N8 K8 => hret _ _ _ _ F8 (news_left (a := readerL w b ol (i + 1 : Nat) t9) (b := dcrL w d (c 21) (.ref (b 0)) ++ (scanL w c xv st en lo ++ [(l, listOf #[.int 0 t3] nl)])) (news_tail N8)) (kept_left (a := readerL w b ol i t1) (kept_as has K8) NR (news_right (a := readerL w b ol (i + 1 : Nat) t9) (b := dcrL w d (c 21) (.ref (b 0)) ++ (scanL w c xv st en lo ++ [(l, listOf #[.int 0 t3] nl)])) NX))
end
/-! F35 -/
noncomputable def lv (x0 x1 x2 x3 : Value) : Nat → Value
  | 0 => x0
  | 1 => x1
  | 2 => x2
  | _ => x3
theorem newscan_spec {w : World} {mean : ExcName → Option Value} {mg mb : Str → Option Value} {dp un : Nat} {gd : Option (List Code)} {cn : Str} {cs : Scope} {ca : Addr} {ccd : Value} {cl : List (Str × Addr)} {outer : List Env} {A₀ : Around} {base h₀ : Heap} {L : Addr} {m : Str → Option Value} {s : Shared} {Q E : Value → Shared → Prop}
    (B : Below A₀ base outer h₀) (F : Fr h₀ L s.heap m) (X : (hd.heap_1 w.params).In h₀) (T : Top hd.view_1 (looseW hd.view_1 []) mean mg mb h₀) (hk : cs.kind = .function) (hdp : dp + 2 < recursionLimit) (hun : un + 16 < cLine)
    {x0 x1 x2 x3 : Value} {st en lo : Int} {ta tb tc : Tok} (N : News h₀ L s.heap ([])) 
    (hret : ∀ (h' : Heap) (tk' : Nat) (c : Nat → Nat), Fr h₀ L h' m → News h₀ L h' (scanL w c (lv x0 x1 x2 x3) st en lo) → Kept ([]) s.heap h' → (∀ a ∈ [c 21, c 22], s.heap.objs.size ≤ a) → @Ne Nat (c 21) (c 22) →  Q (.ref (c 21)) { s with heap := h', toks := tk' }) :
    wpAny (model PySem.Challenge.rw_nz0255_01.row.prog w) (ktrTop dp un gd cn cs L ca ccd cl outer) (call (.ref 470) [x0, x1, x2, .int st ta, .int en tb, x3, .int lo tc]) Q E s := by
  refine wpAny_call (make_KK F N (X.keeps F.keep) (by k_is) (by k_is) (by k_is) fun x dx h1 F1 N1 l1 l2 K1 hs1 => ?_)
  have l2 : @LT.lt Nat _ dx x := l2
  refine with_as N1 fun as has => ?_
  refine code_defK (by k_asm) (by k_asm) (by k_asm) (by k_asm) (by k_asm) rfl rfl (by assumption) (by k_is) (by k_is) (room_lt (j := 1) hdp (by decide)) (BindsTo.of_eq rfl) (locs rfl) has ?_ rfl rfl rfl (by decide)
  intro g' L' h' PP F' N' B' X' T' HE
  (try dsimp only)
  (try k_lift B')
  (try k_fold)
  have nx : @Ne Nat x dx := Nat.ne_of_gt l2
  k_steps
  (with_reducible rename Fr _ _ _ _ => F9)
  (with_reducible rename News _ _ _ _ => N9)
  refine HE _ _ _ _ F9 N9 fun F8 N8 K8 => ?_
  exact ⟨rfl, hret _ _ (lst [0, 0, 0, 0, 0, 0, 0, 0, 0, 0, 0, 0, 0, 0, 0, 0, 0, 0, 0, 0, 0, x, dx, _, _, _, _, _, _, _, _, _, _]) F8 N8 (kept_new K1 (kept_as has K8) ((fm (Nat.le_trans hs1 (Nat.le_of_lt l2)) (fm (hs1) (List.forall_mem_nil _))))) ((fm (Nat.le_trans hs1 (Nat.le_of_lt l2)) (fm (hs1) (List.forall_mem_nil _)))) nx⟩
theorem newdcw_spec {w : World} {mean : ExcName → Option Value} {mg mb : Str → Option Value} {dp un : Nat} {gd : Option (List Code)} {cn : Str} {cs : Scope} {ca : Addr} {ccd : Value} {cl : List (Str × Addr)} {outer : List Env} {A₀ : Around} {base h₀ : Heap} {L : Addr} {m : Str → Option Value} {s : Shared} {Q E : Value → Shared → Prop}
    (B : Below A₀ base outer h₀) (F : Fr h₀ L s.heap m) (X : (hd.heap_1 w.params).In h₀) (T : Top hd.view_1 (looseW hd.view_1 []) mean mg mb h₀) (hk : cs.kind = .function) (hdp : dp + 2 < recursionLimit) (hun : un + 16 < cLine)
    {sc sk : Addr} (N : News h₀ L s.heap ([])) 
    (hret : ∀ (h' : Heap) (tk' : Nat) (c : Nat → Nat), Fr h₀ L h' m → News h₀ L h' ([(c 11, instObj 393 (c 12)), (c 12, dictOf [⟨PyData.keyHash w.params (Str.ofString "scan"), .str (Str.ofString "scan") (c 15), .ref sc⟩, ⟨PyData.keyHash w.params (Str.ofString "sink"), .str (Str.ofString "sink") (c 16), .ref sk⟩] 2)]) → Kept ([]) s.heap h' → (∀ a ∈ [c 11, c 12], s.heap.objs.size ≤ a) → @Ne Nat (c 11) (c 12) →  Q (.ref (c 11)) { s with heap := h', toks := tk' }) :
    wpAny (model PySem.Challenge.rw_nz0255_01.row.prog w) (ktrTop dp un gd cn cs L ca ccd cl outer) (call (.ref 393) [.ref sc, .ref sk]) Q E s := by
  refine wpAny_call (make_KK F N (X.keeps F.keep) (by k_is) (by k_is) (by k_is) fun x dx h1 F1 N1 l1 l2 K1 hs1 => ?_)
  have l2 : @LT.lt Nat _ dx x := l2
  refine with_as N1 fun as has => ?_
  refine code_defK (by k_asm) (by k_asm) (by k_asm) (by k_asm) (by k_asm) rfl rfl (by assumption) (by k_is) (by k_is) (room_lt (j := 1) hdp (by decide)) (BindsTo.of_eq rfl) (locs rfl) has ?_ rfl rfl rfl (by decide)
  intro g' L' h' PP F' N' B' X' T' HE
  (try dsimp only)
  (try k_lift B')
  (try k_fold)
  have nx : @Ne Nat x dx := Nat.ne_of_gt l2
  k_steps
  (with_reducible rename Fr _ _ _ _ => F9)
  (with_reducible rename News _ _ _ _ => N9)
  refine HE _ _ _ _ F9 N9 fun F8 N8 K8 => ?_
  exact ⟨rfl, hret _ _ (lst [0, 0, 0, 0, 0, 0, 0, 0, 0, 0, 0, x, dx, 0, 0, _, _, 0, 0, 0, 0, sc]) F8 N8 (kept_new K1 (kept_as has K8) ((fm (Nat.le_trans hs1 (Nat.le_of_lt l2)) (fm (hs1) (List.forall_mem_nil _))))) ((fm (Nat.le_trans hs1 (Nat.le_of_lt l2)) (fm (hs1) (List.forall_mem_nil _)))) nx⟩
theorem newdcr_spec {w : World} {mean : ExcName → Option Value} {mg mb : Str → Option Value} {dp un : Nat} {gd : Option (List Code)} {cn : Str} {cs : Scope} {ca : Addr} {ccd : Value} {cl : List (Str × Addr)} {outer : List Env} {A₀ : Around} {base h₀ : Heap} {L : Addr} {m : Str → Option Value} {s : Shared} {Q E : Value → Shared → Prop}
    (B : Below A₀ base outer h₀) (F : Fr h₀ L s.heap m) (X : (hd.heap_1 w.params).In h₀) (T : Top hd.view_1 (looseW hd.view_1 []) mean mg mb h₀) (hk : cs.kind = .function) (hdp : dp + 2 < recursionLimit) (hun : un + 16 < cLine)
    {sc : Addr} (N : News h₀ L s.heap ([])) 
    (hret : ∀ (h' : Heap) (tk' : Nat) (d : Nat → Nat), Fr h₀ L h' m → News h₀ L h' (dcrL w d sc .none) → Kept ([]) s.heap h' → (∀ a ∈ [d 0, d 1], s.heap.objs.size ≤ a) → @Ne Nat (d 0) (d 1) →  Q (.ref (d 0)) { s with heap := h', toks := tk' }) :
    wpAny (model PySem.Challenge.rw_nz0255_01.row.prog w) (ktrTop dp un gd cn cs L ca ccd cl outer) (call (.ref 435) [.ref sc]) Q E s := by
  refine wpAny_call (make_KK F N (X.keeps F.keep) (by k_is) (by k_is) (by k_is) fun x dx h1 F1 N1 l1 l2 K1 hs1 => ?_)
  have l2 : @LT.lt Nat _ dx x := l2
  refine with_as N1 fun as has => ?_
  refine code_defK (by k_asm) (by k_asm) (by k_asm) (by k_asm) (by k_asm) rfl rfl (by assumption) (by k_is) (by k_is) (room_lt (j := 1) hdp (by decide)) (BindsTo.of_eq rfl) (locs rfl) has ?_ rfl rfl rfl (by decide)
  intro g' L' h' PP F' N' B' X' T' HE
  (try dsimp only)
  (try k_lift B')
  (try k_fold)
  have nx : @Ne Nat x dx := Nat.ne_of_gt l2
  k_steps
  (with_reducible rename Fr _ _ _ _ => F9)
  (with_reducible rename News _ _ _ _ => N9)
  refine HE _ _ _ _ F9 N9 fun F8 N8 K8 => ?_
  exact ⟨rfl, hret _ _ (lst [x, dx, _, _]) F8 N8 (kept_new K1 (kept_as has K8) ((fm (Nat.le_trans hs1 (Nat.le_of_lt l2)) (fm (hs1) (List.forall_mem_nil _))))) ((fm (Nat.le_trans hs1 (Nat.le_of_lt l2)) (fm (hs1) (List.forall_mem_nil _)))) nx⟩
/-! F36 -/
theorem newacw_spec {w : World} {mean : ExcName → Option Value} {mg mb : Str → Option Value} {dp un : Nat} {gd : Option (List Code)} {cn : Str} {cs : Scope} {ca : Addr} {ccd : Value} {cl : List (Str × Addr)} {outer : List Env} {A₀ : Around} {base h₀ : Heap} {L : Addr} {m : Str → Option Value} {s : Shared} {Q E : Value → Shared → Prop}
    (B : Below A₀ base outer h₀) (F : Fr h₀ L s.heap m) (X : (hd.heap_1 w.params).In h₀) (T : Top hd.view_1 (looseW hd.view_1 []) mean mg mb h₀) (hk : cs.kind = .function) (hdp : dp + 2 < recursionLimit) (hun : un + 16 < cLine)
    {c : Nat → Nat} {xv : Nat → Value} {ac sk : Addr} {ta : Tok} {nac : Nat} (N : News h₀ L s.heap (scanL w c xv 1 3 0 ++ [(ac, listOf #[.int 0 ta] nac)])) (hx2 : xv 2 = .ref ac)
    (hret : ∀ (h' : Heap) (tk' : Nat) (d : Nat → Nat) (tr : Tok), Fr h₀ L h' m → News h₀ L h' ([(d 11, instObj 260 (d 12)), (d 12, dictOf [⟨PyData.keyHash w.params (Str.ofString "scan"), .str (Str.ofString "scan") (d 15), .ref (c 21)⟩, ⟨PyData.keyHash w.params (Str.ofString "sink"), .str (Str.ofString "sink") (d 16), .ref sk⟩, ⟨PyData.keyHash w.params (Str.ofString "key"), .str (Str.ofString "key") (d 17), .ref (d 14)⟩, ⟨PyData.keyHash w.params (Str.ofString "run"), .str (Str.ofString "run") (d 18), .int 0 tr⟩] 4), (d 14, keyObj (d 19, d 20))]) → Kept ([]) s.heap h' → (∀ a ∈ [d 11, d 12], s.heap.objs.size ≤ a) → @Ne Nat (d 11) (d 12) →  Q (.ref (d 11)) { s with heap := h', toks := tk' }) :
    wpAny (model PySem.Challenge.rw_nz0255_01.row.prog w) (ktrTop dp un gd cn cs L ca ccd cl outer) (call (.ref 260) [.ref (c 21), .ref sk]) Q E s := by
  refine wpAny_call (make_KK F N (X.keeps F.keep) (by k_is) (by k_is) (by k_is) fun x dx h1 F1 N1 l1 l2 K1 hs1 => ?_)
  have l2 : @LT.lt Nat _ dx x := l2
  refine with_as N1 fun as has => ?_
  refine code_defK (by k_asm) (by k_asm) (by k_asm) (by k_asm) (by k_asm) rfl rfl (by assumption) (by k_is) (by k_is) (room_lt (j := 1) hdp (by decide)) (BindsTo.of_eq rfl) (locs rfl) has ?_ rfl rfl rfl (by decide)
  intro g' L' h' PP F' N' B' X' T' HE
  (try dsimp only)
  (try k_lift B')
  (try k_fold)
  have nx : @Ne Nat x dx := Nat.ne_of_gt l2
  have nZ : dx ∉ (scanL w c xv 1 3 0 ++ [(ac, listOf #[.int 0 ta] nac)]).map (·.1) := off_no fun p hp => Nat.ne_of_lt (l1 p hp)
  dsimp only [scanL, scanE, List.cons_append, List.nil_append] at N'
  rw [hx2] at N'
  refine kk_stmt ?_
  k_fold
  k_steps
  refine ⟨?_⟩
  (try dsimp only)
  (try refine tkA fun _ => ?_)
  refine kk_stmt ?_
  k_fold
  k_steps
  refine ⟨?_⟩
  (try dsimp only)
  (try refine tkA fun _ => ?_)
  refine kk_stmt ?_
  k_fold
  k_steps
  refine ⟨?_⟩
  (try dsimp only)
  (try refine tkA fun _ => ?_)
  refine kk_stmt ?_
  k_fold
  k_steps
  refine ⟨?_⟩
  (try dsimp only)
  (try refine tkA fun _ => ?_)
  refine wpAny_execs_nil ?_
  (with_reducible rename Fr _ _ _ _ => F9)
  (with_reducible rename News _ _ _ _ => N9)
  rw [← hx2] at N9
  have NZ := news_sub N9 (l := scanL w c xv 1 3 0 ++ [(ac, listOf #[.int 0 ta] nac)]) (fun p hp => .tail _ (.tail _ (.tail _ hp)))
  refine HE _ _ _ _ F9 N9 fun F8 N8 K8 => ?_
  exact ⟨rfl, hret _ _ (lst [0,0,0,0,0,0,0,0,0,0,0, x, dx, 0, _, _, _, _, _, _, _]) _ F8 (news_sub N8 ((fm (by k_mem) (fm (by k_mem) (fm (by k_mem) (List.forall_mem_nil _)))))) (kept_new K1 (kept_left (a := [(x, instObj 260 dx), (dx, emptyDict)]) (b := scanL w c xv 1 3 0 ++ [(ac, listOf #[.int 0 ta] nac)]) (kept_as has K8) (fun p hp => N1 p (.tail _ (.tail _ hp))) NZ) ((fm (Nat.le_trans hs1 (Nat.le_of_lt l2)) (fm (hs1) (List.forall_mem_nil _))))) ((fm (Nat.le_trans hs1 (Nat.le_of_lt l2)) (fm (hs1) (List.forall_mem_nil _)))) nx⟩
end
/-! G12 -/
structure Spot where
  (a : Addr) (p w : Int) (tp tw : Tok)
noncomputable abbrev Spot.o (y : Spot) : Obj := tupObj [.int y.p y.tp, .int y.w y.tw]
noncomputable def spotsL (sp : List Spot) : List (Addr × Obj) := sp.map fun y => (y.a, y.o)
noncomputable abbrev spotRefs (sp : List Spot) : List Value := sp.map fun y => .ref y.a
structure SpOk (l : Addr) (sp : List Spot) : Prop where
  out : ∀ y ∈ sp, @Ne Nat y.a l ∧ -100 ≤ y.w ∧ y.w < 100
theorem SpOk.off {l : Addr} {sp : List Spot} (h : SpOk l sp) : ∀ p ∈ spotsL sp, p.1 ≠ l := fun p hp => by
  obtain ⟨y, hy, rfl⟩ := List.mem_map.mp hp
  exact (h.out y hy).1
theorem SpOk.snoc {l : Addr} {sp : List Spot} {y : Spot} (h : SpOk l sp) (h1 : @Ne Nat y.a l) (h2 : -100 ≤ y.w) (h3 : y.w < 100) : SpOk l (sp ++ [y]) := ⟨fun z hz => by
  rcases List.mem_append.mp hz with hz | hz
  · exact h.out z hz
  · rw [List.mem_singleton.mp hz]; exact ⟨h1, h2, h3⟩⟩
theorem src_upd {h₀ h h' : Heap} {L l : Addr} {o o' : Obj} {R : List (Addr × Obj)} (N : News h₀ L h ((l, o) :: R)) (k : Kept [l] h h') (N' : News h₀ L h' [(l, o')]) (hr : ∀ p ∈ R, p.1 ≠ l) : News h₀ L h' ((l, o') :: R) := fun p hp => by
  rcases List.mem_cons.mp hp with rfl | hp
  · exact N' _ (.head _)
  · exact ⟨k _ _ (N p (.tail _ hp)).1 fun q => hr p hp (List.mem_singleton.mp q), (N p (.tail _ hp)).2⟩
theorem src_upd3 {h₀ h h' : Heap} {L l I C D : Addr} {oI oC oD o o' : Obj} {R : List (Addr × Obj)} (N : News h₀ L h ((I, oI) :: (C, oC) :: (D, oD) :: (l, o) :: R)) (k : Kept [l] h h') (N' : News h₀ L h' [(l, o')]) (off : LCg.Off3 I C D ((l, o) :: R)) (hr : ∀ p ∈ R, p.1 ≠ l) : News h₀ L h' ((I, oI) :: (C, oC) :: (D, oD) :: (l, o') :: R) := fun p hp => by
  refine hideG fun G9 hG9 => ?_
  obtain ⟨⟨o1, o2, o3⟩, _⟩ := off
  refine hG9 ?_
  clear hG9 G9
  have z : ∀ q ∈ ((I, oI) :: (C, oC) :: (D, oD) :: (l, o) :: R : List (Addr × Obj)), q.1 ≠ l → News h₀ L h' [q] := fun q hq hn x hx => by
    rw [List.mem_singleton.mp hx]
    exact ⟨k _ _ (N q hq).1 fun e => hn (List.mem_singleton.mp e), (N q hq).2⟩
  rcases List.mem_cons.mp hp with rfl | hp
  · exact z _ (.head _) (Ne.symm o1) _ (.head _)
  rcases List.mem_cons.mp hp with rfl | hp
  · exact z _ (.tail _ (.head _)) (Ne.symm o2) _ (.head _)
  rcases List.mem_cons.mp hp with rfl | hp
  · exact z _ (.tail _ (.tail _ (.head _))) (Ne.symm o3) _ (.head _)
  exact src_upd (news_tail (news_tail (news_tail N))) k N' hr p hp
theorem off3_upd {l I C D : Addr} {o o' : Obj} {R : List (Addr × Obj)} (off : LCg.Off3 I C D ((l, o) :: R)) : LCg.Off3 I C D ((l, o') :: R) := ⟨off.1, off.2⟩
theorem Off3.of {I C D : Addr} : ∀ {l : List (Addr × Obj)}, (∀ p ∈ l, p.1 ≠ I ∧ p.1 ≠ C ∧ p.1 ≠ D) → LCg.Off3 I C D l
  | [], _ => trivial
  | _ :: _, h => ⟨h _ (.head _), Off3.of fun p hp => h p (.tail _ hp)⟩
theorem range_one (r : Nat) : Builtin.Range.rangeSize 0 (1 + (r : Int)) 1 = ((1 + r : Nat) : Int) := by
  have := range_up (1 + r)
  push_cast at this ⊢
  exact this
theorem off_cons {l a : Addr} {o : Obj} {R : List (Addr × Obj)} (h : @Ne Nat a l) (H : ∀ p ∈ R, p.1 ≠ l) : ∀ p ∈ (a, o) :: R, p.1 ≠ l := (fm (h) (H))
theorem off_nil {l : Addr} : ∀ p ∈ ([] : List (Addr × Obj)), p.1 ≠ l := List.forall_mem_nil _
theorem tail_off {h₀ h : Heap} {L l : Addr} {x : Addr × Obj} {R : List (Addr × Obj)} (_N : News h₀ L h (x :: R)) (H : ∀ p ∈ R, p.1 ≠ l) : ∀ p ∈ R, p.1 ≠ l := H
/-- what stands behind so many spots -/
noncomputable def SpotJ (l : Addr) (fix : List (Addr × Obj)) (i : Nat) (ys : List Value) (nw : List (Addr × Obj)) : Prop :=
  ∃ sp a b ta tb n, nw = (l, listOf #[.int a ta, .int b tb] n) :: (fix ++ spotsL sp) ∧ ys = spotRefs sp ∧ sp.length = i ∧ 0 ≤ a ∧ 0 ≤ b ∧ b < 2147483647 ∧ SpOk l sp
section
variable {prog : Program} {w : World} {A : Around} {E : Value → Shared → Prop} {s : Shared} {h₀ : Heap} {L : Addr} {m : Str → Option Value} {env : Env}
theorem assign_comp {elt iter : Expr} {x y : Str} {px py : Pos} {scope : Scope} {cl : List (Str × Addr)} {pos spos : Pos} {Q : Flow → Shared → Prop} (F₀ : Fr h₀ L s.heap m) (hLe : env.locals = L)
    (hsw : swapsWith (.ListComp elt [⟨.Name x px, iter, [], 0⟩] scope pos) (some (.Name y py)) spos.line env = pure true)
    (hclos : closureFor scope env = pure cl) (hcell : ∀ z ∈ scope.names, z.2 ≠ .cell) (hkind : scope.kind = .function)
    (hnames : ∀ z ∈ scope.names, z.2 = .local → scope.names.lookup z.1 = some .local) (hx : scope.names.lookup x = some .local)
    (hy : env.kindOf y = some .local) (hp : (env.scope.kind == .class || (env.scope.kind == .module && env.locals != env.globals)) = false)
    (h : wpAny (model prog w) A (eval iter env) (fun xv s₁ => Stop (LCg.CompSrc prog w A h₀ L m env elt x scope cl (fun s₂ => LCg.FinA h₀ L m s₂ y Q) xv s₁)) E s)
    (hs : ∀ x, foldedSetIterable iter env x = pure x := by intro _; rfl) :
    wpAny (model prog w) A (exec (.Assign [.Name y py] (.ListComp elt [⟨.Name x px, iter, [], 0⟩] scope pos) spos) env) Q E s :=
  LCg.Assign_ListComp_U F₀ hLe hsw hclos hcell hkind hnames hx hy hp (wpAny_mono h (fun _ _ z => z.out) fun _ _ z => z) hs
end
theorem spot_end {h₀ h : Heap} {L : Addr} {m : Str → Option Value} {s₁ : Shared} {I C D T l : Nat} {oI oC o : Obj} {fix : List (Addr × Obj)} {sp : List Spot} {p w a b : Int} {tp tw ta tb : Tok} {n i tk : Nat}
    (F : Fr h₀ L h m) (N : News h₀ L h ((T, tupObj [.int p tp, .int (w - 100) tw]) :: (I, oI) :: (C, oC) :: (D, LCg.lst (spotRefs sp)) :: (l, listOf #[.int a ta, .int b tb] n) :: (fix ++ spotsL sp)))
    (h1 : @LT.lt Nat _ I T ∧ @LT.lt Nat _ C T ∧ @LT.lt Nat _ D T ∧ @LT.lt Nat _ l T) (off : LCg.Off3 I C D ((l, o) :: (fix ++ spotsL sp))) (ok : SpOk l sp) (hi : sp.length = i) (b1 : 0 ≤ w) (b2 : w < 200) (ha : 0 ≤ a) (hb : 0 ≤ b) (hb2 : b < 2147483647) :
    LCg.CompEnd h₀ L m s₁ I oI C oC D (LCg.lst (spotRefs sp)) (fun _ => True) (fun y nw' => SpotJ l fix (i + 1) (spotRefs sp ++ [y]) nw') (.ref T) { s₁ with heap := h, toks := tk } := by
  refine hideG fun G9 hG9 => ?_
  obtain ⟨q1, q2, q3, q4⟩ := h1
  refine hG9 ?_
  clear hG9 G9
  have e : spotsL (sp ++ [⟨T, p, w - 100, tp, tw⟩]) = spotsL sp ++ [(T, tupObj [.int p tp, .int (w - 100) tw])] := List.map_append
  have hx : ∀ x ∈ fix ++ (spotsL sp ++ [(T, tupObj [.int p tp, .int (w - 100) tw])]), x ∈ fix ++ spotsL sp ∨ x = (T, tupObj [.int p tp, .int (w - 100) tw]) := fun x hx => by
    rcases List.mem_append.mp hx with hx | hx
    · exact .inl (List.mem_append_left _ hx)
    rcases List.mem_append.mp hx with hx | hx
    · exact .inl (List.mem_append_right _ hx)
    · exact .inr (List.mem_singleton.mp hx)
  refine LCg.CompEnd.intro F N ((l, listOf #[.int a ta, .int b tb] n) :: (fix ++ spotsL (sp ++ [⟨T, p, w - 100, tp, tw⟩]))) ?_ ?_ trivial
    ⟨sp ++ [⟨T, p, w - 100, tp, tw⟩], a, b, ta, tb, n, rfl, (by rw [spotRefs, spotRefs, List.map_append]; rfl), by rw [List.length_append, hi]; rfl, ha, hb, hb2, ok.snoc (Nat.ne_of_gt q4) (show -100 ≤ w - 100 from Int.sub_le_sub_right (a := 0) (by assumption) 100) (show w - 100 < 100 from Int.sub_right_lt_of_lt_add (by assumption))⟩
  · rw [e]
    intro x hx'
    rcases List.mem_cons.mp hx' with rfl | hx'
    · exact .tail _ (.head _)
    rcases List.mem_cons.mp hx' with rfl | hx'
    · exact .tail _ (.tail _ (.head _))
    rcases List.mem_cons.mp hx' with rfl | hx'
    · exact .tail _ (.tail _ (.tail _ (.head _)))
    rcases List.mem_cons.mp hx' with rfl | hx'
    · exact .tail _ (.tail _ (.tail _ (.tail _ (.head _))))
    rcases hx x hx' with q | rfl
    · exact .tail _ (.tail _ (.tail _ (.tail _ (.tail _ q))))
    · exact .head _
  · rw [e]
    refine Off3.of fun x hx' => ?_
    rcases List.mem_cons.mp hx' with rfl | hx'
    · exact off.1
    rcases hx x hx' with q | rfl
    · exact off.2.mem x q
    · exact ⟨Nat.ne_of_gt q1, Nat.ne_of_gt q2, Nat.ne_of_gt q3⟩
theorem c_argC {α : Type} {M : Model} {A : Around} {E : Value → Shared → Prop} {s : Shared} {a t : Sem α} {Q : α → Shared → Prop} (h : wpC M A t Q E s) : wpC M A (if false = true then a else t) Q E s := by
  rw [if_neg Bool.false_ne_true]; exact h
theorem fr_name {h₀ h : Heap} {L : Addr} {m : Str → Option Value} (F : Fr h₀ L h m) : ∃ m0, m0 = m ∧ Fr h₀ L h m0 := ⟨m, rfl, F⟩
theorem news_name {h₀ h : Heap} {L : Addr} {a r : List (Addr × Obj)} (N : News h₀ L h (a ++ r)) : ∃ r', r' = r ∧ News h₀ L h (a ++ r') := ⟨r, rfl, N⟩
noncomputable def wbits (lo : Int) (sp : List Spot) : List Bool := sp.map fun y => decide ((y.w.fdiv (2 ^ lo.toNat)).fmod 2 = 1)
noncomputable def jn (c9 c10 c8 : Nat → Nat) (i : Nat) : Nat := if i < 11 then c9 i else if i < 20 then c10 i else c8 i
/-- the writer's loop -/
inductive wrJI (w : World) (lo : Int) (c : Nat → Nat) (dcw FX : List (Addr × Obj)) (m0 : Str → Option Value) (sp : List Spot) (i : Nat) (m : Str → Option Value) (nw : List (Addr × Obj)) : Prop
  | mk : ∀ pv wv bs r z t t', (m = (fun y => if y = PySem.Str.ofString "worth" then wv else if y = PySem.Str.ofString "place" then pv else m0 y)) → (nw = dcw ++ (sinkL w c bs r z t t' ++ FX)) → (WOk (wbits lo (sp.take i)) bs r z) → (z < 8) → wrJI w lo c dcw FX m0 sp i m nw
noncomputable def wrJ (w : World) (lo : Int) (c : Nat → Nat) (dcw FX : List (Addr × Obj)) (m0 : Str → Option Value) (sp : List Spot) (i : Nat) (m : Str → Option Value) (nw : List (Addr × Obj)) : Prop := Stop (wrJI w lo c dcw FX m0 sp i m nw)
theorem wmap0 (m0 : Str → Option Value) : m0 = (fun y => if y = PySem.Str.ofString "worth" then m0 (PySem.Str.ofString "worth") else if y = PySem.Str.ofString "place" then m0 (PySem.Str.ofString "place") else m0 y) := canon2 offM_refl
theorem spot_at {sp : List Spot} {i : Nat} {v : Value} (h : (spotRefs sp)[i]? = some v) : ∃ y, sp[i]? = some y ∧ v = .ref y.a ∧ (y.a, y.o) ∈ spotsL sp ∧ y ∈ sp := by
  rw [List.getElem?_map] at h
  obtain ⟨y, hy, rfl⟩ := Option.map_eq_some_iff.mp h
  have hm := List.mem_of_getElem? hy
  exact ⟨y, hy, rfl, List.mem_map_of_mem hm, hm⟩
theorem wbits_take {lo : Int} {sp : List Spot} {i : Nat} {y : Spot} (h : sp[i]? = some y) : wbits lo (sp.take (i + 1)) = wbits lo (sp.take i) ++ [decide ((y.w.fdiv (2 ^ lo.toNat)).fmod 2 = 1)] := by
  rw [List.take_add_one, h]
  exact List.map_append
theorem wbits_len {lo : Int} {sp : List Spot} {i : Nat} (h : sp.length ≤ 100) : (wbits lo (sp.take i)).length < 2000 := by
  rw [wbits, List.length_map, List.length_take]; exact Nat.lt_of_le_of_lt (Nat.le_trans (Nat.min_le_right _ _) h) (by decide)
theorem sink_addr {w : World} {c : Nat → Nat} {bs : Array UInt8} {r z : Int} {t t' : Tok} {a : Addr} (h : a ∈ sinkA c) : ∃ o, (a, o) ∈ sinkL w c bs r z t t' := by
  unfold sinkA bwA at h
  unfold sinkL bwL
  rcases List.mem_cons.mp h with rfl | h
  · exact ⟨_, .head _⟩
  rcases List.mem_cons.mp h with rfl | h
  · exact ⟨_, .tail _ (.head _)⟩
  rcases List.mem_cons.mp h with rfl | h
  · exact ⟨_, .tail _ (.tail _ (.head _))⟩
  rcases List.mem_cons.mp h with rfl | h
  · exact ⟨_, .tail _ (.tail _ (.tail _ (.head _)))⟩
  rcases List.mem_cons.mp h with rfl | h
  · exact ⟨_, .tail _ (.tail _ (.tail _ (.tail _ (.head _))))⟩
  · cases h
theorem addr_sink {w : World} {c : Nat → Nat} {bs : Array UInt8} {r z : Int} {t t' : Tok} {p : Addr × Obj} (h : p ∈ sinkL w c bs r z t t') : p.1 ∈ sinkA c := by
  have e : (sinkL w c bs r z t t').map (·.1) = sinkA c := rfl
  rw [← e]
  exact List.mem_map_of_mem h
theorem wr_news {w : World} {h₀ h h' : Heap} {L I : Addr} {it : Obj} {dcw FX : List (Addr × Obj)} {c : Nat → Nat} {bs bs' : Array UInt8} {r z r' z' : Int} {t t' u u' : Tok} (N : News h₀ L h ((I, it) :: (dcw ++ (sinkL w c bs r z t t' ++ FX)))) (off : ∀ p ∈ dcw ++ (sinkL w c bs r z t t' ++ FX), p.1 ≠ I)
    (K : Kept (sinkA c) h h') (N' : News h₀ L h' (sinkL w c bs' r' z' u u')) (hd : ∀ p ∈ dcw, p.1 ∉ sinkA c) (hf : ∀ p ∈ FX, p.1 ∉ sinkA c) :
    News h₀ L h' ((I, it) :: (dcw ++ (sinkL w c bs' r' z' u u' ++ FX))) ∧ ∀ p ∈ dcw ++ (sinkL w c bs' r' z' u u' ++ FX), p.1 ≠ I := by
  have hI : I ∉ sinkA c := fun q => by
    obtain ⟨o, ho⟩ := sink_addr (w := w) (bs := bs) (r := r) (z := z) (t := t) (t' := t') q
    exact off _ (List.mem_append_right _ (List.mem_append_left _ ho)) rfl
  have up : ∀ p ∈ (I, it) :: (dcw ++ (sinkL w c bs r z t t' ++ FX)), p.1 ∉ sinkA c → h'.get? p.1 = some p.2 ∧ p.1 ≠ L ∧ h₀.get? p.1 = none := fun p hp hn => ⟨K _ _ (N p hp).1 hn, (N p hp).2⟩
  refine ⟨fun p hp => ?_, fun p hp => ?_⟩
  · rcases List.mem_cons.mp hp with rfl | hp
    · exact up _ (.head _) hI
    rcases List.mem_append.mp hp with hp | hp
    · exact up _ (.tail _ (List.mem_append_left _ hp)) (hd p hp)
    rcases List.mem_append.mp hp with hp | hp
    · exact N' p hp
    · exact up _ (.tail _ (List.mem_append_right _ (List.mem_append_right _ hp))) (hf p hp)
  · rcases List.mem_append.mp hp with hp | hp
    · exact off p (List.mem_append_left _ hp)
    rcases List.mem_append.mp hp with hp | hp
    · exact fun e => hI (e ▸ addr_sink hp)
    · exact off p (List.mem_append_right _ (List.mem_append_right _ hp))
theorem scan_name {w : World} {h₀ h : Heap} {L : Addr} {c : Nat → Nat} {x : Nat → Value} {st en lo : Int} (N : News h₀ L h (scanL w c x st en lo)) : ∃ x', x' = x ∧ News h₀ L h (scanL w c x' st en lo) := ⟨x, rfl, N⟩
theorem wbits_all {lo : Int} {sp : List Spot} : wbits lo (sp.take (spotRefs sp).length) = wbits lo sp := by
  rw [List.length_map, List.take_length]
theorem sink_off_list {w : World} {h₀ h : Heap} {L a : Addr} {o : Obj} {big : List (Addr × Obj)} {c : Nat → Nat} {bs : Array UInt8} {r z : Int} {t t' : Tok} (N : News h₀ L h big) (hm : (a, o) ∈ big) (hs : ∀ p ∈ sinkL w c bs r z t t', p ∈ big) (ho : o.cls = .type "list") : a ∉ sinkA c := by
  refine cls_off N hm ((fm (⟨_, hs _ (.head _), ?_⟩) (fm (⟨_, hs _ (.tail _ (.head _)), ?_⟩) (fm (⟨_, hs _ (.tail _ (.tail _ (.head _))), ?_⟩) (fm (⟨_, hs _ (.tail _ (.tail _ (.tail _ (.head _)))), ?_⟩) (fm (⟨_, hs _ (.tail _ (.tail _ (.tail _ (.tail _ (.head _))))), ?_⟩) (List.forall_mem_nil _))))))) <;> (rw [ho]; simp)
section
variable {prog : Program} {w : World} {A : Around} {E : Value → Shared → Prop} {s : Shared} {h₀ : Heap} {L : Addr} {m : Str → Option Value} {env : Env}
theorem pair_comp {elt iter : Expr} {x x₂ : Str} {px px₂ tp : Pos} {tk} {scope : Scope} {cl : List (Str × Addr)} {pos : Pos} {Q : Value → Shared → Prop} (F₀ : Fr h₀ L s.heap m)
    (hclos : closureFor scope env = pure cl) (hcell : ∀ y ∈ scope.names, y.2 ≠ .cell) (hkind : scope.kind = .function)
    (hnames : ∀ y ∈ scope.names, y.2 = .local → scope.names.lookup y.1 = some .local) (hx : scope.names.lookup x = some .local) (hx₂ : scope.names.lookup x₂ = some .local) (hxx : x ≠ x₂)
    (h : wpAny (model prog w) A (eval iter env) (fun xv s₁ => Stop (LCp.SrcLP prog w A h₀ L m env elt x x₂ scope cl (fun s₂ => LCg.FinE h₀ L m s₂ Q) xv s₁)) E s)
    (hs : ∀ x, foldedSetIterable iter env x = pure x := by intro _; rfl) :
    wpAny (model prog w) A (eval (.ListComp elt [⟨.Tuple [.Name x px, .Name x₂ px₂] tk tp, iter, [], 0⟩] scope pos) env) Q E s :=
  LCp.ListComp_P F₀ hclos hcell hkind hnames hx hx₂ hxx (wpAny_mono h (fun _ _ z => z.out) fun _ _ z => z) hs
theorem compP_ind {elt : Expr} {x x₂ : Str} {scope : Scope} {cl : List (Str × Addr)} {S : List (Addr × Obj) → Prop} {P : Nat → Value → Prop} {Fin : List Value → List (Addr × Obj) → Prop} {n : Nat} {news : List (Addr × Obj)}
    (J : Nat → List Value → Prop) (h0 : J 0 [])
    (step : ∀ i ys, i < n → J i ys → ∀ v, P i v → ∃ (t : Addr) (ot : Obj) (v₁ v₂ : Value) (nt : Nat), v = .ref t ∧ (t, ot) ∈ news ∧ ot.cls = .type "tuple" ∧ ot.data = .seq #[v₁, v₂] nt ∧
      ∀ I oI C oC D m₂ h tk (E' : Value → Shared → Prop), LCg.NsObj oC m₂ → m₂ x = some v₁ → m₂ x₂ = some v₂ → Fr h₀ L h m → News h₀ L h ((I, oI) :: (C, oC) :: (D, LCg.lst ys) :: news) → LCg.Off3 I C D news → ((@Ne Nat I C) ∧ (@Ne Nat I D) ∧ (@Ne Nat C D)) →
        wpAny (model prog w) A (eval elt (compEnvC scope cl C env)) (LCg.CompEnd h₀ L m { s with heap := h, toks := tk } I oI C oC D (LCg.lst ys) S (fun y nw' => nw' = news ∧ J (i + 1) (ys ++ [y]))) E' { s with heap := h, toks := tk })
    (fin : ∀ ys, J n ys → Fin ys news) : LCp.CompRestP prog w A h₀ L m env elt x x₂ scope cl s S P Fin n 0 [] news := by
  have main : ∀ k i ys, i + k = n → J i ys → LCp.CompRestP prog w A h₀ L m env elt x x₂ scope cl s S P Fin k i ys news := by
    intro k
    induction k with
    | zero => intro i ys e hJ; have e : i = n := e; subst e; exact .zero (fin _ hJ)
    | succ k ih =>
      intro i ys e hJ
      refine .succ fun v hv => ?_
      refine hideG fun G9 hG9 => ?_
      obtain ⟨t, ot, v₁, v₂, nt, h1, h2, h3, h4, h5⟩ := step i ys (ind_lt e) hJ v hv
      refine hG9 ?_
      clear hG9 G9
      refine ⟨t, ot, v₁, v₂, nt, h1, h2, h3, h4, fun I oI C oC D m₂ h tk E' hN hm hm2 F N off ne => ?_⟩
      refine wpAny_mono (h5 I oI C oC D m₂ h tk E' hN hm hm2 F N off ne) (fun y s' hE => ?_) fun _ _ z => z
      obtain ⟨h', tk', news', e1, F', N', off', hS, rfl, hr⟩ := hE
      exact ⟨h', tk', _, e1, F', N', off', hS, ih _ _ (ind_next e) hr⟩
  exact main n 0 [] (Nat.zero_add n) h0
end
theorem sbit_text (x : Int) : Str.ofString (toString (x.fmod 2)) = figs [decide (x.fmod 2 = 1)] := by
  have h1 := Int.fmod_nonneg_of_pos x (b := 2) (by decide)
  have h2 := Int.fmod_lt_of_pos x (b := 2) (by decide)
  have h : x.fmod 2 = 0 ∨ x.fmod 2 = 1 := by rw [Int.fmod_eq_emod_of_nonneg _ (by decide)]; exact Int.emod_two_eq x
  rcases h with h | h <;> rw [h] <;> decide +kernel
/-- a mark: the calls are walked from here on -/
structure NoStop : Prop where
  mk :: (out : True)
inductive rdJI (w : World) (b : Nat → Nat) (ol : List UInt8) (FX : List (Addr × Obj)) (m0 : Str → Option Value) (i : Nat) (m : Str → Option Value) (nw : List (Addr × Obj)) : Prop
  | mk : ∀ kv pv wv t2, (m = (fun y => if y = PySem.Str.ofString "known" then kv else if y = PySem.Str.ofString "worth" then wv else if y = PySem.Str.ofString "place" then pv else m0 y)) → (nw = readerL w b ol (i : Nat) t2 ++ FX) → rdJI w b ol FX m0 i m nw
noncomputable def rdJ (w : World) (b : Nat → Nat) (ol : List UInt8) (FX : List (Addr × Obj)) (m0 : Str → Option Value) (i : Nat) (m : Str → Option Value) (nw : List (Addr × Obj)) : Prop := Stop (rdJI w b ol FX m0 i m nw)
theorem rmap0 (m0 : Str → Option Value) : m0 = (fun y => if y = PySem.Str.ofString "known" then m0 (PySem.Str.ofString "known") else if y = PySem.Str.ofString "worth" then m0 (PySem.Str.ofString "worth") else if y = PySem.Str.ofString "place" then m0 (PySem.Str.ofString "place") else m0 y) := canon3 offM_refl
theorem wbits_get {lo : Int} {sp : List Spot} {i : Nat} {y : Spot} (h : sp[i]? = some y) : (wbits lo sp)[i]? = some (decide ((y.w.fdiv (2 ^ lo.toNat)).fmod 2 = 1)) := by
  rw [wbits, List.getElem?_map, h]; rfl
theorem or_lo {lo x : Int} (h0 : 0 ≤ lo) (h5 : lo < 5) (h1 : -100 ≤ x) (h2 : x < 100) : Builtin.bitOr (x.fdiv (2 ^ (lo + 1).toNat) * 2 ^ (lo + 1).toNat) (2 ^ lo.toNat) = x.fdiv (2 ^ (lo + 1).toNat) * 2 ^ (lo + 1).toNat + 2 ^ lo.toNat := by
  obtain ⟨n, rfl⟩ := Int.eq_ofNat_of_zero_le h0
  exact or_known (Int.ofNat_lt.mp h5) h1 h2
theorem new_lo {lo x : Int} {r : Nat} (h0 : 0 ≤ lo) (h5 : lo < 5) (hr : r = (decide ((x.fdiv (2 ^ lo.toNat)).fmod 2 = 1)).toNat) : (if r = 0 then x.fdiv (2 ^ (lo + 1).toNat) * 2 ^ (lo + 1).toNat else x.fdiv (2 ^ (lo + 1).toNat) * 2 ^ (lo + 1).toNat + 2 ^ lo.toNat) = x.fdiv (2 ^ lo.toNat) * 2 ^ lo.toNat := by
  obtain ⟨n, rfl⟩ := Int.eq_ofNat_of_zero_le h0
  have k := known_more n (Int.ofNat_lt.mp h5) x
  rw [← show x.fdiv (2 ^ (n + 1)) * 2 ^ (n + 1) + (if (x.fdiv (2 ^ n)).fmod 2 = 1 then 2 ^ n else 0) = x.fdiv (2 ^ ((n : Int)).toNat) * 2 ^ ((n : Int)).toNat from k, hr]
  show (if (decide ((x.fdiv (2 ^ n)).fmod 2 = 1)).toNat = 0 then x.fdiv (2 ^ (n + 1)) * 2 ^ (n + 1) else x.fdiv (2 ^ (n + 1)) * 2 ^ (n + 1) + 2 ^ n) = _
  by_cases h : (x.fdiv (2 ^ n)).fmod 2 = 1
  · rw [if_pos h, decide_eq_true h, if_neg (by decide)]
  · rw [if_neg h, decide_eq_false h, if_pos (by decide), Int.add_zero]
theorem turn_news {h₀ h h' : Heap} {L I : Addr} {it : Obj} {A A' FX : List (Addr × Obj)} {as : List Addr} (N : News h₀ L h ((I, it) :: (A ++ FX))) (off : ∀ p ∈ A ++ FX, p.1 ≠ I) (K : Kept as h h') (N' : News h₀ L h' A') (hA : A.map (·.1) = as) (hA' : A'.map (·.1) = as) (hf : ∀ p ∈ FX, p.1 ∉ as) :
    News h₀ L h' ((I, it) :: (A' ++ FX)) ∧ ∀ p ∈ A' ++ FX, p.1 ≠ I := by
  have hI : I ∉ as := fun q => by
    rw [← hA] at q
    refine hideG fun G9 hG9 => ?_
    obtain ⟨x, hx, e⟩ := List.mem_map.mp q
    refine hG9 ?_
    clear hG9 G9
    exact off x (List.mem_append_left _ hx) e
  refine ⟨fun p hp => ?_, fun p hp => ?_⟩
  · rcases List.mem_cons.mp hp with rfl | hp
    · exact ⟨K _ _ (N _ (.head _)).1 hI, (N _ (.head _)).2⟩
    rcases List.mem_append.mp hp with hp | hp
    · exact N' p hp
    · exact ⟨K _ _ (N p (.tail _ (List.mem_append_right _ hp))).1 (hf p hp), (N p (.tail _ (List.mem_append_right _ hp))).2⟩
  · rcases List.mem_append.mp hp with hp | hp
    · exact fun e => hI (by rw [← hA', ← e]; exact List.mem_map_of_mem hp)
    · exact off p (List.mem_append_right _ hp)
inductive rd2JI (w : World) (b : Nat → Nat) (ol : List UInt8) (FX : List (Addr × Obj)) (m0 : Str → Option Value) (n i : Nat) (m : Str → Option Value) (nw : List (Addr × Obj)) : Prop
  | mk : ∀ kv t2, (m = (fun y => if y = PySem.Str.ofString "k" then kv else m0 y)) → (nw = readerL w b ol (n + i : Nat) t2 ++ FX) → rd2JI w b ol FX m0 n i m nw
noncomputable def rd2J (w : World) (b : Nat → Nat) (ol : List UInt8) (FX : List (Addr × Obj)) (m0 : Str → Option Value) (n i : Nat) (m : Str → Option Value) (nw : List (Addr × Obj)) : Prop := Stop (rd2JI w b ol FX m0 n i m nw)
theorem kmap0 (m0 : Str → Option Value) : m0 = (fun y => if y = PySem.Str.ofString "k" then m0 (PySem.Str.ofString "k") else m0 y) := canon1 offM_refl
theorem range_rest {a b n : Nat} (h : a + n = b) : Builtin.Range.rangeSize 0 ((b : Int) - (a : Int)) 1 = ((n : Nat) : Int) := by
  rw [show (b : Int) - (a : Int) = ((n : Nat) : Int) by rw [← h, Int.natCast_add, Int.add_comm, Int.add_sub_cancel]]
  exact range_up n
/-! F33 -/
section
local macro_rules | `(tactic| walk_at "exec Raise some none") => `(tactic| (k_here; k_dflt (refine ex_raise (by k_asm) (exc_code _) (by with_unfolding_all rfl) ?_)))
local macro_rules | `(tactic| walk_at "call ref") => `(tactic| (k_here; (with_reducible show wpAny _ _ (call (Value.ref 169) _) _ _ _); refine stopCall ?_))
local macro_rules | `(tactic| walk_at "call ref") => `(tactic| (k_here; (with_reducible show wpAny _ _ (call (Value.ref 292) _) _ _ _); refine stopCall ?_))
local macro_rules | `(tactic| walk_at "call ref") => `(tactic| (k_here; (with_reducible show wpAny _ _ (call (Value.ref 63) _) _ _ _); refine stopCall ?_))
theorem leftover_spec {w : World} {mean : ExcName → Option Value} {mg mb : Str → Option Value} {dp un : Nat} {gd : Option (List Code)} {cn : Str} {cs : Scope} {ca : Addr} {ccd : Value} {cl : List (Str × Addr)} {outer : List Env} {A₀ : Around} {base h₀ : Heap} {L : Addr} {m : Str → Option Value} {s : Shared} {Q E : Value → Shared → Prop}
    (B : Below A₀ base outer h₀) (F : Fr h₀ L s.heap m) (X : (hd.heap_1 w.params).In h₀) (T : Top hd.view_1 (looseW hd.view_1 []) mean mg mb h₀) (hk : cs.kind = .function) (hdp : dp + 9 < recursionLimit) (hun : un + 72 < cLine)
    {c d : Nat → Nat} {ol : List UInt8} {i' k' : Nat} {t0 tr : Tok} {xv : Nat → Value} {e : Nat → Nat} {rs : List (Addr × Tok × Tok × Tok)} {cs' : List (Addr × Tok × Tok)} {o : Obj} {tt : Nat → Tok} (N : News h₀ L s.heap (acr0 w d (c 21) (e 0) tr)) (NR : News h₀ L s.heap (scanL w c xv 1 3 0 ++ tabL w e rs cs' o tt)) (hO : ∀ p ∈ scanL w c xv 1 3 0 ++ tabL w e rs cs' o tt, p.1 ∉ [d 0, d 1]) (ht : Tab PySem.Challenge.rw_nz0255_01.row.prog w e rs cs' o) (hdd : @Ne Nat (d 0) (d 1)) (hx : Nxt ol 0 0 0 i' (k' + 1)) (hol : ol.length ≤ 1000)
    (XB : (hd.heap_1 w.params).In base) (TB : Top hd.view_1 (looseW hd.view_1 []) mean mg mb base) (hret : ∀ (h' : Heap) (tk' : Nat) (g' : Heap), Back h₀ L m outer A₀ base ([d 0, d 1]) s.heap h' [] g' → Q (.bool true) { s with heap := h', toks := tk' }) :
    wpAny (model PySem.Challenge.rw_nz0255_01.row.prog w) (ktrTop dp un gd cn cs L ca ccd cl outer) (call (.ref 557) [.ref (d 0), .bytes ol.toArray t0]) Q E s := by
  have N0 := news_app N NR
  have h1 : d 1 ∉ (scanL w c xv 1 3 0 ++ tabL w e rs cs' o tt).map (·.1) := off_no fun p hp e => hO p hp (e ▸ .tail _ (.head _))
  have hk1 : (0 : Int) < ((k' + 1 : Nat) : Int) := Int.natCast_pos.mpr (Nat.succ_pos _)
  refine with_as N0 fun as has => ?_
  refine wpAny_call ?_
  refine code_defT (by k_asm) (by k_asm) XB (by k_asm) TB rfl rfl (by assumption) (by k_is) (by k_is) (lt_dp hdp) (BindsTo.of_eq rfl) (locs rfl) has ?_ rfl rfl rfl (by decide)
  intro g' L' h' PP F' N' B' X' T' HE
  (try dsimp only)
  (try k_lift B')
  (try k_fold)
  dsimp only [acr0, scanL, tabL, List.cons_append, List.nil_append] at N'
  refine kk_stmt ?_
  k_fold
  k_steps
  refine ⟨?_⟩
  (with_reducible rename Fr _ _ _ _ => F5)
  (with_reducible rename News _ _ _ _ => N5)
  refine newbr_spec (by k_asm) (by k_asm) (by assumption) (by k_asm) rfl (room_lt (j := 5) hdp (by decide)) (room_lt (j := 30) hun (by decide)) News.nil  ?_
  intro h8 tk8 b t8 F8 N8 K8 hf8 hb8
  have hOb := off_new N5 hf8
  have N9 := keep_new N5 K8 N8
  clear N5 N8 K8
  dsimp only [readerL, List.cons_append, List.nil_append] at N9
  have nb0 : @Ne Nat (d 1) (b 0) := hOb _ (.tail _ (.head _)) _ (.head _)
  have nb1 : @Ne Nat (d 1) (b 1) := hOb _ (.tail _ (.head _)) _ (.tail _ (.head _))
  have nc0 : @Ne Nat (d 0) (b 0) := hOb _ (.head _) _ (.head _)
  have nc1 : @Ne Nat (d 0) (b 1) := hOb _ (.head _) _ (.tail _ (.head _))
  have hOR : ∀ p ∈ scanL w c xv 1 3 0 ++ tabL w e rs cs' o tt, p.1 ∉ arA d b := fun p hp q => by
    have hz := fun a ha => hOb p (.tail _ (.tail _ hp)) a ha
    rcases List.mem_cons.mp q with q | q
    · exact hO p hp (q ▸ .head _)
    rcases List.mem_cons.mp q with q | q
    · exact hO p hp (q ▸ .tail _ (.head _))
    · exact hz _ q rfl
  have hDn : (arA d b).Nodup := nd4 hdd nc0 nc1 nb0 nb1 hb8
  k_steps
  refine ⟨?_⟩
  (try dsimp only)
  refine kk_stmt ?_
  k_fold
  k_steps
  refine ⟨?_⟩
  (with_reducible rename Fr _ _ _ _ => F5)
  (with_reducible rename News _ _ _ _ => N5)
  have hr := cls_off (as := arA d b) N5 (.head _) ((fm (⟨_, .tail _ (.tail _ (.tail _ (.head _))), by simp⟩) (fm (⟨_, .tail _ (.tail _ (.tail _ (.tail _ (.head _)))), by simp⟩) (fm (⟨_, .tail _ (.head _), by simp⟩) (fm (⟨_, .tail _ (.tail _ (.head _)), by simp⟩) (List.forall_mem_nil _))))))
  have NQ := news_tail (news_tail (news_tail N5))
  have NC := news_tail (news_tail NQ)
  refine acread_spec (by k_asm) (by k_asm) (by assumption) (by k_asm) rfl (room_lt (j := 7) hdp (by decide)) (room_lt (j := 51) hun (by decide)) (news_app (news_left (a := acrL w d (c 21) (e 0) (b 0) 0 _) NQ) (news_left (a := readerL w b ol 0 _) (news_tail N5))) (news_app (news_app (news_left (a := scanL w c xv 1 3 0) (b := tabL w e rs cs' o tt) NC) ((fm (N5 _ (.head _)) (List.forall_mem_nil _)))) (news_right (a := scanL w c xv 1 3 0) (b := tabL w e rs cs' o tt) NC)) (fun p hp => (List.mem_append.mp hp).elim (fun q => (List.mem_append.mp q).elim (fun q => hOR p (List.mem_append_left _ q)) (fun q => by rw [List.mem_singleton.mp q]; exact hr)) (fun q => hOR p (List.mem_append_right _ q))) ht hDn hx hol ?_
  intro h8 tk8 D w0 w1 w2 w3 t2 tr2 n2 F8 N8 K8 _
  have N9 := news_app (news_left (a := acrL w d (c 21) (e 0) (b 0) ((k' + 1 : Nat) : Int) tr2) (news_tail N8)) (keep_off NC K8 hOR)
  clear N5 N8 K8 NQ NC
  dsimp only [acrL, scanL, tabL, List.cons_append, List.nil_append] at N9
  k_steps
  refine ⟨?_⟩
  (try dsimp only)
  refine kk_stmt ?_
  k_fold
  k_steps
  refine ⟨?_⟩
  (with_reducible rename Fr _ _ _ _ => F5)
  (with_reducible rename News _ _ _ _ => N5)
  refine exc_spec (by k_asm) (by k_asm) (by assumption) (by k_asm) rfl (room_lt (j := 6) hdp (by decide)) (room_lt (j := 38) hun (by decide)) News.nil (exc_code _) ?_
  intro h8 tk8 ee t8 d8 F8 N8 K8 hf8
  have N9 := keep_all N5 K8
  have OE : ∀ p ∈ acrL w d (c 21) (e 0) (b 0) ((k' + 1 : Nat) : Int) tr2 ++ (scanL w c xv 1 3 0 ++ tabL w e rs cs' o tt), p.1 ≠ ee := fun p hp => hf8 _ _ (N5 p hp).1
  have TH : Thrown _ _ _ ee 63 (acrL w d (c 21) (e 0) (b 0) ((k' + 1 : Nat) : Int) tr2 ++ (scanL w c xv 1 3 0 ++ tabL w e rs cs' o tt)) := ⟨⟨t8, _, N8⟩, N9, OE⟩
  clear N5
  k_steps
  refine ⟨⟨ee, t8, _, rfl, by k_in, (N8 _ (.head _)).1, ?_⟩⟩
  k_steps
  refine leave_ownS (by assumption) (by assumption) TH ?_
  intro h9 R9 U9
  (try dsimp only at R9 U9 ⊢)
  clear TH OE N8
  k_steps
  refine caught_ownS (KF := hd.heap_1 w.params) R9 (by assumption) (by assumption) U9 XB TB (by k_is) (exc_code _) ?_
  intro h10 g10 T10 F10 N10 B10
  clear R9 U9
  k_steps
  refine ⟨?_⟩
  exact HE _ _ _ _ _ T10 F10 N10 fun g0 b0 => hret _ _ _ (b0.less N0 has fun p hp => List.mem_append_right _ hp)
end
/-! F37 -/
section
local macro_rules | `(tactic| k_in) => `(tactic| exact Frag.In.keeps (by with_reducible assumption) (Fr.keep (by with_reducible assumption)))
theorem stopIn {M : Model} {A : Around} {a : Addr} {vs : List Value} {Q E : Value → Shared → Prop} {s : Shared} (as : List Nat) (_ : as.contains a = true) (x : Stop (wpAny M A (call (.ref a) vs) Q E s)) : wpAny M A (call (.ref a) vs) Q E s := stopCall x
local macro_rules | `(tactic| walk_at "call builtin:len") => `(tactic| (k_here; first | ((with_reducible show wpAny _ _ (call (Value.builtin "len") [Value.ref _]) _ _ _); k_dflt (refine' len_vs (by k_asm) (by k_mem) (by omega) ?_)) | ((with_reducible show wpAny _ _ (call (Value.builtin "len") [Value.bytes _ _]) _ _ _); k_dflt (refine' len_bytes (by assumption) ?_))))
local macro_rules | `(tactic| walk_at "binaryOp Mult ref int") => `(tactic| (k_here; k_dflt (refine' mul_vs (by k_asm) (by k_asm) (by k_mem) (by omega) ?_); intro _ _ _ _ _))
local macro_rules | `(tactic| walk_at "call ref") => `(tactic| (k_here; (with_reducible refine stopIn [540, 435, 169, 75, 470, 530] (by decide) ?_)))
local macro_rules | `(tactic| walk_at "call ref") => `(tactic| (k_here; (fail_if_success (have zz : NoStop := by assumption)); (with_reducible refine stopIn [425] (by decide) ?_)))
local macro_rules | `(tactic| walk_at "eval ListComp") => `(tactic| (k_here; k_dflt (refine pair_comp (F₀ := by k_asm) (by with_unfolding_all rfl) (by decide) (by rfl) (by decide) (by rfl) (by rfl) (by decide) ?_)))
local macro_rules | `(tactic| walk_at "exec Assign cons ListComp") => `(tactic| (k_here; k_dflt (refine assign_comp (F₀ := by k_asm) (by rfl) (by with_unfolding_all rfl) (by with_unfolding_all rfl) (by decide) (by rfl) (by decide) (by rfl) (by rfl) (by rfl) ?_)))
local macro_rules | `(tactic| walk_at "exec Raise some none") => `(tactic| (k_here; k_dflt (refine ex_raise (by k_asm) (exc_cut _) (by with_unfolding_all rfl) ?_)))
local macro_rules | `(tactic| k_fmods) => `(tactic| skip)
theorem single_spec {w : World} {mean : ExcName → Option Value} {mg mb : Str → Option Value} {dp un : Nat} {gd : Option (List Code)} {cn : Str} {cs : Scope} {ca : Addr} {ccd : Value} {cl : List (Str × Addr)} {outer : List Env} {A₀ : Around} {base h₀ : Heap} {L : Addr} {m : Str → Option Value} {s : Shared} {Q : Value → Shared → Prop}
    (B : Below A₀ base outer h₀) (F : Fr h₀ L s.heap m) (X : (hd.heap_1 w.params).In h₀) (T : Top hd.view_1 (looseW hd.view_1 []) mean mg mb h₀) (hk : cs.kind = .function) (hdp : dp + 10 < recursionLimit) (hun : un + 80 < cLine)
    {l pl : Addr} {a b lo : Int} {ta tb t0 : Tok} {n npl : Nat} {vs : List Value} (N : News h₀ L s.heap (SrcL l a b ta tb n ++ [(pl, listOf vs.toArray npl)])) (hlp : @Ne Nat l pl) (hv1 : 0 < vs.length) (hv100 : vs.length ≤ 100) (hv2 : vs.length ≤ 2) (hl0 : 0 ≤ lo) (hl9 : lo < 5) (ha : 0 ≤ a) (hb : 0 ≤ b) (hb2 : b < 2147483647)
    (XB : (hd.heap_1 w.params).In base) (TB : Top hd.view_1 (looseW hd.view_1 []) mean mg mb base) (hret : ∀ (h' : Heap) (tk' : Nat) (g' : Heap), Back h₀ L m outer A₀ base ([l]) s.heap h' [] g' → Q (.bool true) { s with heap := h', toks := tk' }) :
    wpC (model PySem.Challenge.rw_nz0255_01.row.prog w) (ktrTop dp un gd cn cs L ca ccd cl outer) (call (.ref 562) [.ref l, .ref pl, .int lo t0]) Q NoE s := by
  refine with_as N fun as has => ?_
  refine c_call ?_
  refine codeC_defCT (by k_asm) (by k_asm) XB (by k_asm) TB rfl rfl (by assumption) (by k_is) (by k_is) (lt_dp hdp) (BindsTo.of_eq rfl) rfl (by decide +kernel) has ?_ rfl rfl rfl
  intro g' L' h' tk' cells' PP F' N' Y' B' X' T' l1 HE
  (try dsimp only [SrcL, List.cons_append, List.nil_append] at l1)
  k_lt l1
  k_cells Y'
  (try simp only [List.cons_append, List.nil_append] at N')
  (try dsimp only)
  (try k_lift B')
  (try k_fold)
  unfold SrcL at N'
  (try dsimp only [List.cons_append, List.nil_append] at N')
  refine k_stmt ?_
  k_fold
  k_steps
  refine ⟨?_⟩
  (with_reducible rename Fr _ _ _ _ => F5)
  (with_reducible rename News _ _ _ _ => N5)
  refine newscan_spec (by k_asm) (by k_asm) (by assumption) (by k_asm) rfl (room_lt (j := 3) hdp (by decide)) (room_lt (j := 19) hun (by decide)) News.nil  ?_
  intro h8 tk8 c8 F8 N8 K8 hf8 hn8
  obtain ⟨xv, _, N8⟩ := scan_name N8
  have N9 := keep_new (news_tail (news_tail (news_tail (news_tail N5)))) K8 N8
  have hO8 := off_new N5 hf8
  have nl0 : @Ne Nat (c8 21) l := fun e => hO8 _ (.tail _ (.tail _ (.tail _ (.tail _ (.tail _ (.tail _ (.tail _ (.head _)))))))) _ (.head _) e.symm
  have nl1 : @Ne Nat (c8 22) l := fun e => hO8 _ (.tail _ (.tail _ (.tail _ (.tail _ (.tail _ (.tail _ (.tail _ (.head _)))))))) _ (.tail _ (.head _)) e.symm
  have q1 := l1.1
  have zl0 : (0 : Int) ≤ lo + 1 := Int.add_nonneg hl0 (by decide)
  have zl1 : lo + 1 < 9000 := Int.lt_trans (Int.add_lt_add_right hl9 1) (by decide)
  have zl2 : lo + 1 ≤ 1000000 := Int.le_trans (Int.le_of_lt zl1) (by decide)
  have zl3 : lo < 9000 := Int.lt_trans hl9 (by decide)
  have zl4 : lo ≤ 1000000 := Int.le_trans (Int.le_of_lt zl3) (by decide)
  have hvl : (0 : Int) < ((vs.length : Nat) : Int) := Int.natCast_pos.mpr hv1
  have hvl9 : ((vs.length : Nat) : Int) < 1000 := ar_ltl hv2 (by decide)
  have nl2 : @Ne Nat (L' + 1 + 1 + 1) l := Nat.ne_of_gt (Nat.lt_succ_of_lt (Nat.lt_succ_of_lt (Nat.lt_succ_of_lt q1)))
  have nl3 : @Ne Nat (L' + 1 + 1) l := Nat.ne_of_gt (Nat.lt_succ_of_lt (Nat.lt_succ_of_lt q1))
  have nl4 : @Ne Nat (L' + 1) l := Nat.ne_of_gt (Nat.lt_succ_of_lt q1)
  clear N5 N8 K8
  dsimp only [scanL, List.cons_append, List.nil_append] at N9
  have N6 := news_sub N9 ((fm ((.tail _ (.tail _ (.tail _ (.tail _ (.tail _ (.head _))))))) (fm ((.head _)) (fm ((.tail _ (.head _))) (fm ((.tail _ (.tail _ (.head _)))) (fm ((.tail _ (.tail _ (.tail _ (.head _))))) (fm ((.tail _ (.tail _ (.tail _ (.tail _ (.head _)))))) (fm ((.tail _ (.tail _ (.tail _ (.tail _ (.tail _ (.tail _ (.head _)))))))) (List.forall_mem_nil _)))))))))
  clear N9
  k_steps
  refine ⟨?_⟩
  (try dsimp only)
  refine k_stmt ?_
  k_fold
  k_steps
  refine ⟨?_⟩
  (with_reducible rename Fr _ _ _ _ => F5)
  (with_reducible rename News _ _ _ _ => N5)
  refine draw_spec (by k_asm) (by k_asm) (by assumption) (by k_asm) rfl (room_lt (j := 2) hdp (by decide)) (room_lt (j := 11) hun (by decide)) ((fm (N5 _ (.head _)) (List.forall_mem_nil _))) (by decide) (by decide) ha hb hb2 ?_
  intro h8 tk8 r t8 a8 b8 ta8 tb8 n8 F8 N8 K8 hr0 hr1 ha8 hb8 hb98
  have HFX0 := tail_off N5 (off_cons nl0 (off_cons nl1 (off_cons nl2 (off_cons nl3 (off_cons nl4 (off_cons (Ne.symm hlp) off_nil))))))
  have N9 := src_upd N5 K8 N8 HFX0
  clear N5 N8 K8
  obtain ⟨rn, rfl⟩ := Int.eq_ofNat_of_zero_le hr0
  have hrn : 1 + rn ≤ 12 := by rw [Nat.add_comm]; exact Int.ofNat_lt.mp hr1
  k_steps
  refine ⟨LCg.CompSrc.range rfl (by k_asm) (by k_asm) (by assumption) ?_ (range_one rn) ?_ fun g => ?_⟩
  · exact small_up (n := 1 + rn) (Nat.le_trans hrn (by decide))
  · rw [sizeLine_eq]; exact Nat.le_trans hrn (by decide)
  refine comp_ind (SpotJ l [_, _, _, _, _, _]) ⟨[], _, _, _, _, _, rfl, rfl, rfl, ha8, hb8, hb98, ⟨fun _ h => nomatch h⟩⟩ ?_ ?_
  · rintro i ys nw hi ⟨sp, a9, b9, ta9, tb9, n9, rfl, rfl, hsp, ha9, hb9, hb10, hok⟩ v I oI C oC D m₂ h tk E' ⟨t, rfl⟩ hNs hm₂ F₁ N₁ off ne
    refine hideQA fun Qb hQb => ?_
    obtain ⟨e1, e2, e3⟩ := ne
    have HFX := List.forall_mem_append.mpr ⟨HFX0, hok.off⟩
    dsimp only [List.cons_append, List.nil_append] at N₁ off HFX
    k_steps
    refine ⟨?_⟩
    (with_reducible rename Fr _ _ _ _ => F5)
    (with_reducible rename News _ _ _ _ => N5)
    refine draw_spec (by k_asm) (by k_asm) (by assumption) (by k_asm) rfl (room_lt (j := 2) hdp (by decide)) (room_lt (j := 11) hun (by decide)) ((fm (N5 _ (.tail _ (.tail _ (.tail _ (.head _))))) (List.forall_mem_nil _))) hvl hvl9 ha9 hb9 hb10 ?_
    intro h8 tk8 r t8 a8 b8 ta8 tb8 n8 F8 N8 K8 hr0 hr1 ha8 hb8 hb98
    have N9 := src_upd3 N5 K8 N8 off HFX
    clear N5 N8 K8
    k_steps
    refine ⟨?_⟩
    (with_reducible rename Fr _ _ _ _ => F5)
    (with_reducible rename News _ _ _ _ => N5)
    refine draw_spec (by k_asm) (by k_asm) (by assumption) (by k_asm) rfl (room_lt (j := 2) hdp (by decide)) (room_lt (j := 11) hun (by decide)) ((fm (N5 _ (.tail _ (.tail _ (.tail _ (.head _))))) (List.forall_mem_nil _))) (by decide) (by decide) ha8 hb8 hb98 ?_
    intro h8 tk8 r2 t8 a8 b8 ta8 tb8 n8 F8 N8 K8 hr20 hr21 ha8 hb8 hb98
    have N9 := src_upd3 N5 K8 N8 (off3_upd off) HFX
    clear N5 N8 K8
    k_steps
    (with_reducible rename Fr _ _ _ _ => F9)
    (with_reducible rename News _ _ _ _ => N9)
    (with_reducible rename And _ _ => l9)
    exact hQb _ _ (spot_end F9 N9 ⟨l9.1, l9.2.1, l9.2.2.1, l9.2.2.2.1⟩ off hok hsp hr20 hr21 ha8 hb8 hb98)
  rintro ys nw ⟨sp, a9, b9, ta9, tb9, n9, rfl, rfl, hsp, ha9, hb9, hb10, hok⟩ D h tk F₁ N₁ off
  dsimp only [List.cons_append, List.nil_append] at N₁ off
  refine ⟨?_⟩
  (try dsimp only)
  refine c_execs_cons (k_assign_name (k_name ?_))
  k_fold
  k_steps
  refine ⟨?_⟩
  refine c_callK (K := hd.heap_1 w.params) (by k_is) ?_
  refine c_spliced_cons (k_arg ?_)
  k_steps
  refine ⟨?_⟩
  refine c_spliced_cons (c_argC (k_name ?_))
  k_steps
  refine ⟨?_⟩
  refine c_callK (K := hd.heap_1 w.params) (by k_is) ?_
  refine c_spliced_cons (k_arg ?_)
  k_steps
  refine ⟨?_⟩
  refine c_spliced_nil ⟨by k_in, ?_⟩
  (try dsimp only [List.cons_append, List.nil_append])
  (with_reducible rename Fr _ _ _ _ => F5)
  (with_reducible rename News _ _ _ _ => N5)
  refine newsink_spec (by k_asm) (by k_asm) (by assumption) (by k_asm) rfl (room_lt (j := 7) hdp (by decide)) (room_lt (j := 51) hun (by decide)) News.nil ?_
  intro h8 tk8 c9 t1 t2 F8 N8 K8 hf8 hD8 hc8
  have N9 := keep_new (news_tail N5) K8 N8
  have hO9 := off_new (news_tail N5) hf8
  clear N5 N8 K8
  refine c_spliced_nil ⟨by k_in, ?_⟩
  (try dsimp only [List.cons_append, List.nil_append])
  (with_reducible rename Fr _ _ _ _ => F5)
  (with_reducible rename News _ _ _ _ => N5)
  refine c_any (newdcw_spec (by k_asm) (by k_asm) (by assumption) (by k_asm) rfl (room_lt (j := 3) hdp (by decide)) (room_lt (j := 19) hun (by decide)) News.nil ?_)
  intro h8 tk8 c10 F8 N8 K8 hf8 hn10
  have N9 := keep_new N5 K8 N8
  have hO10 := off_new N5 hf8
  clear N5 N8 K8
  dsimp only [sinkL, bwL, List.cons_append, List.nil_append] at N9
  k_steps
  refine ⟨?_⟩
  (try dsimp only)
  refine k_stmt ?_
  k_fold
  k_steps
  refine ⟨?_⟩
  (try dsimp only)
  (try refine tkC fun _ => ?_)
  refine c_execs_cons (c_for_list (by k_asm) rfl ?_)
  k_steps
  (with_reducible rename Fr _ _ _ _ => F5)
  (with_reducible rename News _ _ _ _ => N5)
  obtain ⟨m0, hm0, F6⟩ := fr_name F5
  obtain ⟨FX, hFX, N6⟩ := news_name (a := [_, _] ++ sinkL w c9 _ _ _ _ _) N5
  clear N5 F5
  have hlen : sp.length ≤ 100 := Nat.le_trans (Nat.le_of_eq (by assumption)) (Nat.le_trans hrn (by decide))
  have hDF : (D, LCg.lst (spotRefs sp)) ∈ FX := hFX ▸ .head _
  have hSF : ∀ p ∈ spotsL sp, p ∈ FX := by rw [hFX]; exact fun p hp => (.tail _ (.tail _ (.tail _ (.tail _ (.tail _ (.tail _ (.tail _ (.tail _ hp))))))))
  have hCF : ∀ p ∈ scanL w c8 xv 0 0 lo, p ∈ FX := by rw [hFX]; exact (fm ((.tail _ (.tail _ (.head _)))) (fm ((.tail _ (.tail _ (.tail _ (.head _))))) (List.forall_mem_nil _)))
  have hOFX : ∀ p ∈ FX, p.1 ∉ sinkA c9 := fun p hp q => hO9 p (hFX ▸ hp) _ q rfl
  have hDS : ∀ a ∈ [c10 11, c10 12], a ∉ sinkA c9 := fun a ha q => by
    obtain ⟨o, ho⟩ := sink_addr (w := w) (bs := #[]) (r := 0) (z := 0) (t := t1) (t' := t2) q
    exact hO10 _ (List.mem_append_left _ ho) _ ha rfl
  have hDSL : ∀ p ∈ dcwL w (jn c9 c10 c8), p.1 ∉ sinkA c9 := (fm (hDS _ (.head _)) (fm (hDS _ (.tail _ (.head _))) (List.forall_mem_nil _)))
  have hl8 : lo < 8 := Int.lt_trans hl9 (by decide)
  have hDX : ∀ p ∈ FX, p.1 ∉ [c10 11, c10 12] := fun p hp q => hO10 p (List.mem_append_right _ (hFX ▸ hp)) _ q rfl
  refine ⟨⟨_, _, spotRefs sp, _, m0, [_, _] ++ (sinkL w c9 #[] 0 0 t1 t2 ++ FX), rfl, F6, (by rw [← List.append_assoc]; exact N6), List.mem_append_right _ (List.mem_append_right _ hDF), rfl, rfl, wrJ w lo c9 [_, _] FX m0 sp, ⟨⟨_, _, _, _, _, _, _, wmap0 m0, rfl, WOk.init, by decide⟩⟩, ?_, ?_⟩⟩
  · rintro I i v m nw hv ⟨⟨pv, wv, bs, r, z, t, t', rfl, rfl, W, hz8⟩⟩ hD9 it h tk hc F7 N7 off
    obtain ⟨y, hy, rfl, hyS, hyM⟩ := spot_at hv
    have hwl := wbits_len (lo := lo) (i := i) hlen
    have N8 : News _ _ h ((y.a, y.o) :: _) := (fm (N7 _ (.tail _ (List.mem_append_right _ (List.mem_append_right _ (hSF _ hyS))))) (N7))
    clear N7 N6 F6
    dsimp only [List.cons_append, List.nil_append] at N8
    subst hm0
    k_steps
    refine ⟨?_⟩
    (try dsimp only)
    refine hideQ fun Qb hQb => ?_
    refine c_execs_cons (c_Expr (k_meth ?_))
    k_steps
    refine ⟨?_⟩
    (try dsimp only)
    refine c_callK (K := hd.heap_1 w.params) (by k_is) ?_
    refine c_spliced_cons (k_arg ?_)
    k_steps
    refine ⟨?_⟩
    refine c_spliced_cons (k_arg ?_)
    k_steps
    refine ⟨?_⟩
    refine c_spliced_nil ⟨by k_in, ?_⟩
    (try dsimp only [List.cons_append, List.nil_append])
    (with_reducible rename Fr _ _ _ _ => F5)
    (with_reducible rename News _ _ _ _ => N5)
    have hrow := sink_off_list (w := w) (c := c9) (bs := bs) (r := r) (z := z) (t := t) (t' := t') N5 (.head _) (fun p hp => .tail _ (.tail _ (.tail _ (.tail _ (.tail _ (List.mem_append_left _ hp)))))) rfl
    have ND : News g' L' _ (dcwL w (jn c9 c10 c8)) := (fm (N5 _ (.tail _ (.tail _ (.tail _ (.head _))))) (fm (N5 _ (.tail _ (.tail _ (.tail _ (.tail _ (.head _)))))) (List.forall_mem_nil _)))
    have NS : News g' L' _ (scanL w (jn c9 c10 c8) xv 0 0 lo) := fun p hp => N5 p (.tail _ (.tail _ (.tail _ (.tail _ (.tail _ (List.mem_append_right _ (hCF p hp)))))))
    have NK : News g' L' _ (sinkL w (jn c9 c10 c8) bs r z t t') := fun p hp => N5 p (.tail _ (.tail _ (.tail _ (.tail _ (.tail _ (List.mem_append_left _ hp))))))
    refine dccode_spec (c := (jn c9 c10 c8)) (xv := xv) (bl := wbits lo (sp.take i)) (by k_asm) (by k_asm) (by assumption) (by k_asm) rfl (room_lt (j := 4) hdp (by decide)) (room_lt (j := 27) hun (by decide)) NK (news_app (news_app ND NS) ((fm (N5 _ (.head _)) (List.forall_mem_nil _)))) (fun p hp => (List.mem_append.mp hp).elim (fun q => (List.mem_append.mp q).elim (fun q => hDSL p q) (fun q => hOFX p (hCF p q))) (fun q => by rw [List.mem_singleton.mp q]; exact hrow)) hD8 W hz8 hl0 hl8 hwl ?_
    intro h6 tk6 bs6 r6 z6 t6 u6 F6 N6 K6 W6 hz6
    obtain ⟨N9, off9⟩ := wr_news (dcw := [_, _]) (c := c9) (news_tail (news_tail N5)) off K6 N6 (fun p hp => hDSL p hp) hOFX
    clear N5 N6 K6 ND NS NK
    refine ⟨rfl, ?_⟩
    refine c_execs_nil ?_
    exact hQb _ _ ⟨_, _, _, _, rfl, F6, N9, off9, List.mem_append_right _ (List.mem_append_right _ hDF), ⟨⟨_, _, _, _, _, _, _, (by refine canon2 ?_; repeat (first | exact offM_refl | refine offM_set (by decide) ?_)), rfl, (by rw [wbits_take hy]; exact W6), hz6⟩⟩⟩
  rintro m nw ⟨⟨pv, wv, bs, r, z, t, t', rfl, rfl, W, hz8⟩⟩ h tk F7 N7
  rw [wbits_all] at W
  (try dsimp only)
  clear N6 F6
  subst hm0
  have hwl9 : (wbits lo sp).length < 1000 := by rw [wbits, List.length_map]; exact Nat.lt_of_le_of_lt hlen (by decide)
  have hwl : (wbits lo sp).length < 2000 := Nat.lt_trans hwl9 (by decide)
  refine c_execs_cons (k_assign_name (k_meth ?_))
  dsimp only [List.cons_append, List.nil_append] at N7
  k_fold
  k_steps
  refine ⟨?_⟩
  refine c_callK0 (K := hd.heap_1 w.params) (by k_in) (by k_is) ?_
  (try dsimp only [List.cons_append, List.nil_append])
  (with_reducible rename Fr _ _ _ _ => F5)
  (with_reducible rename News _ _ _ _ => N5)
  refine dcfinish_spec (c := (jn c9 c10 c8)) (bl := wbits lo sp) (by k_asm) (by k_asm) (by assumption) (by k_asm) rfl (room_lt (j := 6) hdp (by decide)) (room_lt (j := 43) hun (by decide)) (fun p hp => N5 p (.tail _ (.tail _ (List.mem_append_left _ hp)))) ((fm (N5 _ (.head _)) (fm (N5 _ (.tail _ (.head _))) (List.forall_mem_nil _)))) hD8 W hz8 hwl ?_
  intro h6 tk6 t6 F6 N6 K6
  have N9 := keep_off (l := FX) (fun p hp => N5 p (.tail _ (.tail _ (List.mem_append_right _ hp)))) K6 (fun p hp q => (List.mem_append.mp q).elim (hDX p hp) (hOFX p hp))
  clear N5 N6 K6
  subst hFX
  k_steps
  refine ⟨?_⟩
  (try dsimp only)
  refine c_execs_cons (k_if ?_)
  k_fold
  k_steps
  refine ⟨LCp.SrcLP.ledger rfl (by k_asm) (by k_asm) (.head _) ?_ fun g => ?_⟩
  · rw [List.size_toArray, List.length_map, sizeLine_eq]; exact Nat.le_trans hlen (by decide)
  refine compP_ind (fun i ys => StrsAre ys ((wbits lo (sp.take i)).map fun b => figs [b])) .nil ?_ ?_
  · intro i ys hi hys v hv
    obtain ⟨y, hy, rfl, hyS, hyM⟩ := spot_at (List.getElem?_toArray ▸ hv)
    refine ⟨y.a, y.o, _, _, _, rfl, (.tail _ (.tail _ (.tail _ (.tail _ (.tail _ (.tail _ (.tail _ (.tail _ hyS)))))))), rfl, rfl, fun I oI C oC D2 m₂ h tk E' hNs hm₂ hm₃ F₁ N₁ off ne => ?_⟩
    obtain ⟨e1, e2, e3⟩ := ne
    k_steps
    (with_reducible rename Fr _ _ _ _ => F9)
    (with_reducible rename News _ _ _ _ => N9)
    refine LCg.CompEnd.intro F9 N9 _ (fun p hp => hp) off (.inr ⟨_, .head _, rfl, _, rfl⟩) ⟨rfl, ?_⟩
    rw [sbit_text, wbits_take hy, List.map_append]
    exact strs_snoc hys
  rw [List.size_toArray, wbits_all]
  rintro ys hys D2 h tk F₁ N₁ off
  k_steps
  refine join_listW (News.isList N₁ (.head _)) (by simpa using hys) (by decide +kernel) ?_ fun t' k' => ?_
  · rw [sum_ones (fun b => [b]) _ (fun _ => rfl)]
    rw [List.length_map]
    exact Nat.le_trans (Nat.add_le_add (Nat.le_of_lt hwl9) (Nat.le_of_lt hwl9)) (by decide)
  rw [join_figs]
  k_steps
  refine ⟨?_⟩
  (with_reducible rename Fr _ _ _ _ => F5)
  (with_reducible rename News _ _ _ _ => N5)
  refine octets_law (by k_asm) (by k_asm) (by assumption) (by k_asm) rfl (room_lt (j := 2) hdp (by decide)) (room_lt (j := 11) hun (by decide)) News.nil (Nat.le_of_lt hwl9) (figs_length _ ▸ Nat.le_of_lt hwl9) ?_
  intro h8 tk8 t8 F8 N8 K8
  have N9 := keep_all N5 K8
  clear N5 N8 K8
  k_steps
  refine ⟨⟨fun hb => absurd hb (by simp), fun _ => ?_⟩⟩
  refine c_execs_nil ?_
  (try dsimp only)
  (with_reducible rename News _ _ _ _ => N9)
  have N10 := news_tail N9
  clear N9
  refine k_stmt ?_
  k_fold
  k_steps
  refine ⟨?_⟩
  (with_reducible rename Fr _ _ _ _ => F5)
  (with_reducible rename News _ _ _ _ => N5)
  refine newdcr_spec (by k_asm) (by k_asm) (by assumption) (by k_asm) rfl (room_lt (j := 3) hdp (by decide)) (room_lt (j := 19) hun (by decide)) News.nil  ?_
  intro h8 tk8 d F8 N8 K8 hf8 hdd
  have hOd := off_new N5 hf8
  have hd1 := off_no (I := d 1) fun p hp => hOd p hp _ (.tail _ (.head _))
  have N9 := keep_new N5 K8 N8
  clear N5 N8 K8
  dsimp only [dcrL, List.cons_append, List.nil_append] at N9
  k_steps
  refine ⟨?_⟩
  (try dsimp only)
  refine k_stmt ?_
  k_fold
  k_steps
  refine ⟨?_⟩
  (with_reducible rename Fr _ _ _ _ => F5)
  (with_reducible rename News _ _ _ _ => N5)
  refine newbr_spec (ol := octL (wbits lo sp)) (by k_asm) (by k_asm) (by assumption) (by k_asm) rfl (room_lt (j := 5) hdp (by decide)) (room_lt (j := 30) hun (by decide)) News.nil  ?_
  intro h8 tk8 b t8 F8 N8 K8 hf8 hb8
  have hOb := off_new N5 hf8
  have hba := fun (a : Addr) (ha : a ∈ rdA b) => off_no (I := a) fun p hp => hOb p hp a ha
  have N9 := keep_new N5 K8 N8
  clear N5 N8 K8
  dsimp only [readerL, List.cons_append, List.nil_append] at N9
  have nb0 : @Ne Nat (d 1) (b 0) := hOb _ (.tail _ (.head _)) _ (.head _)
  have nb1 : @Ne Nat (d 1) (b 1) := hOb _ (.tail _ (.head _)) _ (.tail _ (.head _))
  have nc0 : @Ne Nat (d 0) (b 0) := hOb _ (.head _) _ (.head _)
  have nc1 : @Ne Nat (d 0) (b 1) := hOb _ (.head _) _ (.tail _ (.head _))
  k_steps
  refine ⟨?_⟩
  (try dsimp only)
  refine c_execs_cons (c_for_list (by k_asm) rfl ?_)
  k_steps
  (with_reducible rename Fr _ _ _ _ => F5)
  (with_reducible rename News _ _ _ _ => N5)
  obtain ⟨m0, hm0, F6⟩ := fr_name F5
  obtain ⟨FX, hFX, N6⟩ := news_name (a := readerL w b (octL (wbits lo sp)) 0 _) N5
  clear N5 F5
  have hDF2 : (D, LCg.lst (spotRefs sp)) ∈ FX := hFX ▸ .tail _ (.tail _ (.head _))
  have hSF2 : ∀ p ∈ spotsL sp, p ∈ FX := by rw [hFX]; exact fun p hp => (.tail _ (.tail _ (.tail _ (.tail _ (.tail _ (.tail _ (.tail _ (.tail _ (.tail _ (.tail _ hp))))))))))
  have hCF2 : ∀ p ∈ dcrL w d (c8 21) (.ref (b 0)) ++ scanL w c8 xv 0 0 lo, p ∈ FX := by rw [hFX]; exact (fm ((.head _)) (fm ((.tail _ (.head _))) (fm ((.tail _ (.tail _ (.tail _ (.tail _ (.head _)))))) (fm ((.tail _ (.tail _ (.tail _ (.tail _ (.tail _ (.head _))))))) (List.forall_mem_nil _)))))
  have hOX2 : ∀ p ∈ FX, p.1 ∉ rdA b := fun p hp q => off_as (by rw [hFX]; rfl) (hba _ q) p hp rfl
  have hOXC : ∀ p ∈ dcrL w d (c8 21) (.ref (b 0)) ++ scanL w c8 xv 0 0 lo, p.1 ∉ rdA b := fun p hp => hOX2 p (hCF2 p hp)
  have hol : (octL (wbits lo sp)).length ≤ 1000 := by rw [octL_len, padded_length, wbits, List.length_map]; exact Nat.le_trans (Nat.div_le_self _ _) (Nat.le_trans (Nat.add_le_add hlen (Nat.le_of_lt (Nat.mod_lt _ (by decide)))) (by decide))
  have hol8 : sp.length ≤ 8 * (octL (wbits lo sp)).length := by rw [octL_len8, padded_length, wbits, List.length_map]; exact Nat.le_add_right _ _
  refine ⟨⟨_, _, spotRefs sp, _, m0, readerL w b (octL (wbits lo sp)) (0 : Nat) t8 ++ FX, rfl, F6, N6, List.mem_append_right _ hDF2, rfl, rfl, rdJ w b (octL (wbits lo sp)) FX m0, ⟨⟨_, _, _, _, rmap0 m0, rfl⟩⟩, ?_, ?_⟩⟩
  · rintro I i v m nw hv ⟨⟨kv, pv, wv, t2, rfl, rfl⟩⟩ hD9 it h tk hc F7 N7 off
    obtain ⟨y, hy, rfl, hyS, hyM⟩ := spot_at hv
    obtain ⟨_, hw1, hw2⟩ := hok.out y hyM
    have hi : i < sp.length := (List.getElem?_eq_some_iff.mp hy).1
    have N8 : News _ _ h ((y.a, y.o) :: _) := (fm (N7 _ (.tail _ (List.mem_append_right _ (hSF2 _ hyS)))) (N7))
    clear N7 N6 F6
    dsimp only [readerL, List.cons_append, List.nil_append] at N8
    subst hm0 hFX
    k_steps
    refine ⟨?_⟩
    (try dsimp only)
    refine hideQ fun Qb hQb => ?_
    refine k_stmt ?_
    k_fold
    k_steps
    refine ⟨?_⟩
    (try dsimp only)
    (try refine tkC fun _ => ?_)
    refine c_execs_cons (k_if ?_)
    k_fold
    k_steps
    (with_reducible rename Fr _ _ _ _ => F5)
    (with_reducible rename News _ _ _ _ => N5)
    refine ⟨?_⟩
    have hrw := cls_off (as := rdA b) N5 (.head _) ((fm (⟨_, (.tail _ (.tail _ (.tail _ (.head _)))), by simp⟩) (fm (⟨_, (.tail _ (.tail _ (.tail _ (.tail _ (.head _))))), by simp⟩) (List.forall_mem_nil _))))
    refine dcread2_spec (c := c8) (ol := octL (wbits lo sp)) (xv := xv) (by k_asm) (by k_asm) (by assumption) (by k_asm) rfl (room_lt (j := 3) hdp (by decide)) (room_lt (j := 19) hun (by decide)) ((fm (N5 _ (.tail _ (.tail _ (.tail _ (.head _))))) (fm (N5 _ (.tail _ (.tail _ (.tail _ (.tail _ (.head _)))))) (List.forall_mem_nil _)))) (news_app (a := dcrL w d (c8 21) (.ref (b 0))) ((fm (N5 _ (.tail _ (.tail _ (.tail _ (.tail _ (.tail _ (.head _))))))) (fm (N5 _ (.tail _ (.tail _ (.tail _ (.tail _ (.tail _ (.tail _ (.head _)))))))) (List.forall_mem_nil _)))) (news_app (a := scanL w c8 xv 0 0 lo) ((fm (N5 _ (.tail _ (.tail _ (.tail _ (.tail _ (.tail _ (.tail _ (.tail _ (.tail _ (.tail _ (.head _))))))))))) (fm (N5 _ (.tail _ (.tail _ (.tail _ (.tail _ (.tail _ (.tail _ (.tail _ (.tail _ (.tail _ (.tail _ (.head _)))))))))))) (List.forall_mem_nil _)))) ((fm (N5 _ (.head _)) (List.forall_mem_nil _)))))
      (fun p hp => (List.mem_append.mp hp).elim (fun q => hOXC p (List.mem_append_left _ q)) (fun q => (List.mem_append.mp q).elim (fun q => hOXC p (List.mem_append_right _ q)) (fun q => by rw [List.mem_singleton.mp q]; exact hrw))) hb8 (Nat.lt_of_lt_of_le hi hol8) hol hl0 hl8 (fun _ => or_lo hl0 hl9 hw1 hw2) ?_
    intro h8 tk8 D2 t9 t10 n10 F8 N8 K8
    rw [new_lo hl0 hl9 (rbit_at (wbits_get hy))] at N8
    obtain ⟨N9, off9⟩ := turn_news (A := readerL w b (octL (wbits lo sp)) (i : Nat) t2) (A' := readerL w b (octL (wbits lo sp)) (i + 1 : Nat) t9) (as := rdA b) (news_tail (news_tail N5)) off K8 (news_tail N8) rfl rfl hOX2
    have N9 : News _ _ h8 (_ :: _) := (fm (N8 _ (.head _)) (N9))
    clear N5 N8 K8
    dsimp only [readerL, List.cons_append, List.nil_append] at N9
    k_steps
    refine ⟨⟨fun hb => absurd hb (by decide), fun _ => ?_⟩⟩
    refine c_execs_nil ?_
    (try dsimp only)
    refine c_execs_nil ?_
    (with_reducible rename Fr _ _ _ _ => F9)
    (with_reducible rename News _ _ _ _ => N9)
    exact hQb _ _ ⟨_, _, _, readerL w b (octL (wbits lo sp)) (i + 1 : Nat) t9 ++ _, rfl, F9, news_tail (news_tail N9), off9, List.mem_append_right _ (.tail _ (.tail _ (.head _))), ⟨⟨_, _, _, _, (by refine canon3 ?_; repeat (first | exact offM_refl | refine offM_set (by decide) ?_)), rfl⟩⟩⟩
  rintro m nw ⟨⟨kv, pv, wv, t2, rfl, rfl⟩⟩ h tk F7 N7
  (try dsimp only)
  clear N6 F6
  rw [List.length_map] at N7
  have hsl : (spotRefs sp).length ≤ 100 := by rw [List.length_map]; exact hlen
  have hpz : (pack (wbits lo sp)).size = (octL (wbits lo sp)).length := by rw [pack_octL, List.size_toArray]
  have hpz9 : ((pack (wbits lo sp)).size : Int) < 2 ^ 63 := by rw [hpz]; exact ar_ltl hol (by decide)
  obtain ⟨nr, hnr⟩ : ∃ nr, sp.length + nr = 8 * (octL (wbits lo sp)).length := ⟨_, Nat.add_sub_of_le hol8⟩
  have hrng : (8 : Int) * ((pack (wbits lo sp)).size : Int) - (((spotRefs sp).length : Nat) : Int) = ((8 * (octL (wbits lo sp)).length : Nat) : Int) - ((sp.length : Nat) : Int) := by rw [hpz, List.length_map, Int.natCast_mul]; rfl
  dsimp only [readerL, List.cons_append, List.nil_append] at N7
  subst hm0 hFX
  refine c_execs_cons (c_for_range (by k_asm) rfl ?_)
  k_fold
  k_steps
  (with_reducible rename Fr _ _ _ _ => F5)
  (with_reducible rename News _ _ _ _ => N5)
  obtain ⟨m0, hm0, F6⟩ := fr_name F5
  obtain ⟨FX, hFX, N6⟩ := news_name (a := readerL w b (octL (wbits lo sp)) (sp.length : Nat) t2) N5
  clear N5 F5
  have hOX3 : ∀ p ∈ FX, p.1 ∉ rdA b := by rw [hFX]; exact hOX2
  refine ⟨⟨_, _, _, _, _, _, nr, m0, readerL w b (octL (wbits lo sp)) (sp.length + 0 : Nat) t2 ++ FX, rfl, F6, N6, by assumption, ?_, ?_, rd2J w b (octL (wbits lo sp)) FX m0 sp.length, ⟨⟨_, _, kmap0 m0, rfl⟩⟩, ?_, ?_⟩⟩
  · rw [hrng, show ((8 * (octL (wbits lo sp)).length : Nat) : Int) - ((sp.length : Nat) : Int) = (nr : Int) by rw [← hnr, Int.natCast_add, Int.add_comm, Int.add_sub_cancel]]
    exact small_up (Nat.le_trans (Nat.le_add_left nr sp.length) (hnr ▸ Nat.le_trans (Nat.mul_le_mul_left 8 hol) (by decide)))
  · rw [hrng]; exact range_rest hnr
  · rintro I i m nw hi ⟨⟨kv, t2, rfl, rfl⟩⟩ it t h tk hc F7 N7 off
    clear N6 F6
    dsimp only [readerL, List.cons_append, List.nil_append] at N7
    subst hm0 hFX
    k_steps
    refine ⟨?_⟩
    (try dsimp only)
    refine hideQ fun Qb hQb => ?_
    refine k_stmt ?_
    k_fold
    k_steps
    (with_reducible rename Fr _ _ _ _ => F5)
    (with_reducible rename News _ _ _ _ => N5)
    refine ⟨?_⟩
    have hrw := cls_off (as := rdA b) N5 (.head _) ((fm (⟨_, (.tail _ (.tail _ (.head _))), by simp⟩) (fm (⟨_, (.tail _ (.tail _ (.tail _ (.head _)))), by simp⟩) (List.forall_mem_nil _))))
    refine dcread1_spec (c := c8) (ol := (octL (wbits lo sp))) (xv := xv) (by k_asm) (by k_asm) (by assumption) (by k_asm) rfl (room_lt (j := 3) hdp (by decide)) (room_lt (j := 19) hun (by decide)) ((fm (N5 _ (.tail _ (.tail _ (.head _)))) (fm (N5 _ (.tail _ (.tail _ (.tail _ (.head _))))) (List.forall_mem_nil _)))) (news_app (a := dcrL w d (c8 21) (.ref (b 0))) ((fm (N5 _ (.tail _ (.tail _ (.tail _ (.tail _ (.head _)))))) (fm (N5 _ (.tail _ (.tail _ (.tail _ (.tail _ (.tail _ (.head _))))))) (List.forall_mem_nil _)))) (news_app (a := scanL w c8 xv 0 0 lo) ((fm (N5 _ (.tail _ (.tail _ (.tail _ (.tail _ (.tail _ (.tail _ (.tail _ (.tail _ (.head _)))))))))) (fm (N5 _ (.tail _ (.tail _ (.tail _ (.tail _ (.tail _ (.tail _ (.tail _ (.tail _ (.tail _ (.head _))))))))))) (List.forall_mem_nil _)))) ((fm (N5 _ (.head _)) (List.forall_mem_nil _)))))
      (fun p hp => (List.mem_append.mp hp).elim (fun q => hOXC p (List.mem_append_left _ q)) (fun q => (List.mem_append.mp q).elim (fun q => hOXC p (List.mem_append_right _ q)) (fun q => by rw [List.mem_singleton.mp q]; exact hrw))) hb8 (hnr ▸ Nat.add_lt_add_left hi _) hol hl0 hl8 ?_
    intro h8 tk8 D2 t9 F8 N8 K8
    obtain ⟨N9, off9⟩ := turn_news (A := readerL w b (octL (wbits lo sp)) (sp.length + i : Nat) t2) (A' := readerL w b (octL (wbits lo sp)) (sp.length + i + 1 : Nat) t9) (as := rdA b) (news_tail N5) off K8 N8 rfl rfl hOX3
    clear N5 N8 K8
    dsimp only [readerL, List.cons_append, List.nil_append] at N9
    k_steps
    refine ⟨?_⟩
    (try dsimp only)
    refine c_execs_nil ?_
    (with_reducible rename Fr _ _ _ _ => F9)
    (with_reducible rename News _ _ _ _ => N9)
    exact hQb _ _ ⟨_, _, _, readerL w b (octL (wbits lo sp)) (sp.length + (i + 1) : Nat) t9 ++ _, rfl, F9, N9, off9, ⟨⟨_, _, (by refine canon1 ?_; repeat (first | exact offM_refl | refine offM_set (by decide) ?_)), rfl⟩⟩⟩
  rintro m nw ⟨⟨kv, t2, rfl, rfl⟩⟩ h tk F7 N7
  (try dsimp only)
  clear N6 F6
  rw [hnr] at N7
  dsimp only [readerL, List.cons_append, List.nil_append] at N7
  subst hm0 hFX
  have mark : NoStop := ⟨trivial⟩
  refine k_stmt (wpAny_Try_except ?_)
  k_fold
  k_steps
  refine ⟨?_⟩
  (with_reducible rename Fr _ _ _ _ => F5)
  (with_reducible rename News _ _ _ _ => N5)
  refine exc_spec (by k_asm) (by k_asm) (by assumption) (by k_asm) rfl (room_lt (j := 7) hdp (by decide)) (room_lt (j := 41) hun (by decide)) News.nil (exc_cut _) ?_
  intro h8 tk8 ee t8 d8 F8 N8 K8 hf8
  have N9 := keep_all N5 K8
  have OE := fun p hp => hf8 _ _ (N5 p hp).1
  have TH : Thrown _ _ _ ee 75 _ := ⟨⟨t8, _, N8⟩, N9, OE⟩
  clear N5
  k_steps
  refine ⟨⟨ee, t8, _, rfl, by k_in, (N8 _ (.head _)).1, ?_⟩⟩
  k_steps
  refine leave_ownS (by assumption) (by assumption) TH ?_
  intro h9 R9 U9
  (try dsimp only at R9 U9 ⊢)
  clear TH OE N8
  k_steps
  refine leave_onSN (by assumption) (by assumption) R9 U9 ?_
  intro h10 R10 R11 U10
  (try dsimp only at R10 U10 ⊢)
  clear R9 U9 R11
  k_steps
  refine caught_ownX (KF := hd.heap_1 w.params) R10 (by assumption) (by assumption) U10 XB TB (by k_is) (exc_cut _) ?_
  intro h11 g11 T11 F11 N11 B11
  clear R10 U10
  k_steps
  refine ⟨?_⟩
  exact HE _ _ _ _ _ T11 F11 N11 fun g0 b0 => hret _ _ _ (b0.less N has ((fm (by k_mem) (List.forall_mem_nil _))))
end
section
local macro_rules | `(tactic| walk_at "eval Name") => `(tactic| (k_here; k_dflt (refine' nameX_L (by k_asm) (by assumption) ?_; k_whole)))
local macro_rules | `(tactic| k_mem) => `(tactic| assumption)
section
local macro_rules | `(tactic| walk_at "call ref") => `(tactic| (k_here; (with_reducible show wpAny _ _ (call (Value.ref _) _) _ _ _); refine stopCall ?_))
/-! R0 -/
/-! the function's own frame, its parts by name -/
noncomputable def rrN : Str := Str.ofString "_law_runs_right"
noncomputable def fnB : Option Stmt → List Stmt
  | some (.FunctionDef _ _ b _ _ _ _ _ _ _) => b
  | _ => []
noncomputable def fnS : Option Stmt → Scope
  | some (.FunctionDef _ _ _ _ _ _ sc _ _ _) => sc
  | _ => { kind := .function, names := [], isGenerator := false, isCoroutine := false, more := [] }
noncomputable def rrB : List Stmt := fnB PySem.Challenge.pw_nz0255_01.main.body[41]?
noncomputable def rrS : Scope := fnS PySem.Challenge.pw_nz0255_01.main.body[41]?
noncomputable def rrC (c1 c2 : Addr) : List (Str × Addr) := [(Str.ofString "reader", c2), (Str.ofString "many", c1)]
noncomputable abbrev rrE (L c1 c2 : Addr) : Env := envX rrN rrS L 550 (.ref 549) (rrC c1 c2)
noncomputable abbrev rrA (dp un : Nat) (gd : Option (List Code)) (L c1 c2 : Addr) (outer : List Env) : Around := ktrTop dp un gd rrN rrS L 550 (.ref 549) (rrC c1 c2) outer
/-- a local's map, one name more -/
noncomputable abbrev upd (x : Str) (v : Option Value) (m : Str → Option Value) : Str → Option Value := fun y => if y = x then v else m y
/-! R7 -/
theorem test_comp {prog : Program} {w : World} {A : Around} {E : Value → Shared → Prop} {s : Shared} {h₀ : Heap} {L : Addr} {m : Str → Option Value} {env : Env} {ct elt iter : Expr} {x : Str} {px : Pos} {scope : Scope} {cl : List (Str × Addr)} {pos : Pos} {Q : Value → Shared → Prop} (F₀ : Fr h₀ L s.heap m)
    (hclos : closureFor scope env = pure cl) (hcell : ∀ y ∈ scope.names, y.2 ≠ .cell) (hkind : scope.kind = .function)
    (hnames : ∀ y ∈ scope.names, y.2 = .local → scope.names.lookup y.1 = some .local) (hx : scope.names.lookup x = some .local)
    (h : wpAny (model prog w) A (eval iter env) (fun xv s₁ => Stop (LCt.CompSrcT prog w A h₀ L m env ct elt x scope cl (fun s₂ => LCg.FinE h₀ L m s₂ Q) xv s₁)) E s)
    (hs : ∀ x, foldedSetIterable iter env x = pure x := by intro _; rfl) :
    wpAny (model prog w) A (eval (.ListComp elt [⟨.Name x px, iter, [ct], 0⟩] scope pos) env) Q E s :=
  LCt.ListComp_T F₀ hclos hcell hkind hnames hx (wpAny_mono h (fun _ _ z => z.out) fun _ _ z => z) hs
noncomputable def powG (many : Nat) (l : List Int) (k : Int) : List Int := if 2 ^ k.toNat ≤ (many : Int) then l ++ [k] else l
theorem powG_len : ∀ many : Fin 91, ((rangeKs 1 7).foldl (powG many.val) []).length = many.val.log2 := by decide +kernel
theorem rr7 {w : World} {mean : ExcName → Option Value} {mg mb : Str → Option Value} {dp un : Nat} {gd : Option (List Code)} {outer : List Env} {A₀ : Around} {base g : Heap} {L c1 c2 : Addr} {s : Shared} {m : Str → Option Value} {PP : Flow → Shared → Prop}
    (B : Below A₀ base outer g) (F : Fr g L s.heap m) (X : (hd.heap_1 w.params).In g) (T : Top hd.view_1 (looseW hd.view_1 []) mean mg mb g) (hdp : dp + 9 < recursionLimit) (hun : un + 72 < cLine)
    {FX : List (Addr × Obj)} {o1 o2 : Obj} {many : Nat} {tm : Tok} (N : News g L s.heap ((c2, o2) :: (c1, o1) :: FX)) (hM : o1.data = .cell (some (.int (many : Int) tm))) (hm : many ≤ 90)
    (next : ∀ (h : Heap) (tk : Nat) (t : Tok), Fr g L h (upd (Str.ofString "power") (some (.int (many.log2 : Int) t)) (m)) → News g L h ((c2, o2) :: (c1, o1) :: FX) → wpC (model PySem.Challenge.rw_nz0255_01.row.prog w) (rrA dp un gd L c1 c2 outer) (execs (rrB.drop 8) (rrE L c1 c2)) PP NoE { s with heap := h, toks := tk }) : wpC (model PySem.Challenge.rw_nz0255_01.row.prog w) (rrA dp un gd L c1 c2 outer) (execs (rrB.drop 7) (rrE L c1 c2)) PP NoE s := by
  obtain ⟨sh, sg, sd, st, so⟩ := s
  dsimp only at F N next ⊢
  refine c_execs_cons (k_assign_name (k_name ?_))
  k_fold
  k_steps
  refine ⟨?_⟩
  refine c_callB (e := _) (rest := []) ?_
  refine c_spliced_cons (c_argC (c_any ?_))
  refine test_comp (F₀ := by k_asm) (by with_unfolding_all rfl) (by decide) (by rfl) (by decide) (by rfl) ?_
  k_steps
  refine ⟨LCt.CompSrcT.range rfl (by k_asm) (by k_asm) (by assumption) (by decide) (n := 7) (by decide) (by decide) fun g' => ?_⟩
  refine kci_range (powG many) (fun k t I oI C oC D m₂ ys l h tk E' hlo hhi hI hC hx F' N' off ne mk => ?_) (fun ys hys hle => ?_) (fun l k => ?_)
  · clear mk
    k_steps
    · exact LCg.CompEnd.intro (by assumption) N' _ (fun p hp => hp) off trivial ⟨rfl, _, _, rfl, if_pos (by assumption)⟩
    · exact LCg.CompEnd.intro (by assumption) N' _ (fun p hp => hp) off trivial ⟨rfl, if_neg (by assumption)⟩
  · have hl := hys.length
    rw [powG_len ⟨many, Nat.lt_succ_of_le hm⟩] at hl
    intro D h tk F₁ N₁ off
    refine c_spliced_nil (c_any ?_)
    refine len_vs N₁ (.head _) (Nat.le_trans hle (by decide)) ?_
    rw [hl]
    k_steps
    refine ⟨?_⟩
    (try dsimp only)
    (with_reducible rename Fr _ _ _ _ => F9)
    (with_reducible rename News _ _ _ _ => N9)
    exact next _ _ _ F9 (fun p hp => N9 p (.tail _ hp))
  · unfold powG
    split
    · simp
    · simp
/-! R8 -/
section
local macro_rules | `(tactic| walk_at "binaryOp Add str str") => `(tactic| (k_here; refine stop_any ?_))
theorem kf_sym (t : Nat → Tok) (p : Nat) (h : p ≤ 6) : kf_at (16 * (p : Int)) (symL t) = some p := by
  rcases p with _ | _ | _ | _ | _ | _ | _ | n
  all_goals first | rfl | exact absurd h (Nat.not_le_of_lt (Nat.le_add_left 7 n))
theorem kf_syv (t : Nat → Tok) (p : Nat) (h : p ≤ 2) : kf_at (16 + ((p + 1 : Nat) : Int)) (symL t) = some (10 + p) := by
  rcases p with _ | _ | _ | n
  all_goals first | rfl | exact absurd h (Nat.not_le_of_lt (Nat.le_add_left 3 n))
theorem sym_index {prog : Program} {w : World} {A : Around} {E : Value → Shared → Prop} {s : Shared} {h₀ : Heap} {L D : Addr} {news : List (Addr × Obj)} {n : Nat} {t : Nat → Tok} {k : Int} {u : Tok} {j : Nat} {Q : Value → Shared → Prop} (N : News h₀ L s.heap news) (hm : (D, listOf (symL t).toArray n) ∈ news) (e : kf_at k (symL t) = some j)
    (h : Q (.int (j : Int) s.toks) { s with toks := s.toks + 1 }) : wpAny (model prog w) A (call (.builtin "list.index") [.ref D, .int k u]) Q E s :=
  kf_index N hm rfl e rfl (by rw [sizeLine_eq]; show (16 : Nat) ≤ _; decide) h
theorem add_figs {prog : Program} {w : World} {A : Around} {E : Value → Shared → Prop} {s : Shared} {a b : List Bool} {t u : Tok} {Q : Value → Shared → Prop} (hz : a.length + b.length ≤ 1000) (h : ∀ t' tk, Q (.str (figs (a ++ b)) t') { s with toks := tk }) :
    wpAny (model prog w) A (binaryOp .Add (.str (figs a) t) (.str (figs b) u)) Q E s :=
  PyProof.Rows.add_str (fun t' tk => figs_append a b ▸ h t' tk) (by rw [figs_length, figs_length, sizeLine_eq]; exact Nat.le_trans hz (by decide))
theorem log_le {n : Nat} (h : n ≤ 90) : n.log2 ≤ 6 := by
  by_cases h0 : n = 0
  · subst h0; decide
  · exact log2_le h0 h
theorem rr8 {w : World} {mean : ExcName → Option Value} {mg mb : Str → Option Value} {dp un : Nat} {gd : Option (List Code)} {outer : List Env} {A₀ : Around} {base g : Heap} {L c1 c2 : Addr} {s : Shared} {m : Str → Option Value} {PP : Flow → Shared → Prop}
    (B : Below A₀ base outer g) (F : Fr g L s.heap m) (X : (hd.heap_1 w.params).In g) (T : Top hd.view_1 (looseW hd.view_1 []) mean mg mb g) (hdp : dp + 9 < recursionLimit) (hun : un + 72 < cLine)
    {FX : List (Addr × Obj)} {o1 o2 : Obj} {many : Nat} {tm tp : Tok} {sl : Addr} {ts : Nat → Tok} {ns : Nat} (N : News g L s.heap ((c2, o2) :: (c1, o1) :: FX)) (hM : o1.data = .cell (some (.int (many : Int) tm))) (hm : many ≤ 90) (hY : (sl, listOf (symL ts).toArray ns) ∈ FX) (hp : m (Str.ofString "power") = some (.int (many.log2 : Int) tp)) (hs : m (Str.ofString "symbols") = some (.ref sl))
    (next : ∀ (h : Heap) (tk : Nat) (t : Tok), Fr g L h (upd (Str.ofString "text") (some (.str (figs (runBits many)) t)) (m)) → News g L h ((c2, o2) :: (c1, o1) :: FX) → wpC (model PySem.Challenge.rw_nz0255_01.row.prog w) (rrA dp un gd L c1 c2 outer) (execs (rrB.drop 9) (rrE L c1 c2)) PP NoE { s with heap := h, toks := tk }) : wpC (model PySem.Challenge.rw_nz0255_01.row.prog w) (rrA dp un gd L c1 c2 outer) (execs (rrB.drop 8) (rrE L c1 c2)) PP NoE s := by
  obtain ⟨sh, sg, sd, st, so⟩ := s
  dsimp only at F N next ⊢
  have hl := log_le hm
  refine k_stmt ?_
  k_fold
  k_steps
  · refine ⟨?_⟩
    (try dsimp only)
    (with_reducible rename Fr _ _ _ _ => F9)
    have h0 : many = 0 := Int.ofNat.inj (by assumption)
    subst h0
    exact next _ _ _ F9 (by assumption)
  · refine sym_index (by k_asm) (by k_mem) (kf_sym ts _ hl) ?_
    k_steps
    refine ⟨?_⟩
    (with_reducible rename Fr _ _ _ _ => F5)
    (with_reducible rename News _ _ _ _ => N5)
    refine figures_spec (by k_asm) (by k_asm) (by assumption) (by k_asm) rfl (room_lt (j := 1) hdp (by decide)) (room_lt (j := 8) hun (by decide)) News.nil (n := 6) rfl (by decide) (Int.natCast_nonneg _) (Int.ofNat_lt.mpr (Nat.lt_of_le_of_lt hl (by decide))) ?_
    intro h8 tk8 t8 F8 N8 K8
    have N9 := keep_all N5 K8
    clear N5 N8 K8
    rw [Int.toNat_natCast]
    have h0 : many ≠ 0 := fun q => absurd (congrArg Int.ofNat q) (by assumption)
    have g1 := Nat.log2_self_le h0
    have g2 : many < 2 ^ (many.log2 + 1) := Nat.lt_log2_self
    k_steps
    refine ⟨?_⟩
    (with_reducible rename Fr _ _ _ _ => F5)
    (with_reducible rename News _ _ _ _ => N5)
    refine figures_spec (by k_asm) (by k_asm) (by assumption) (by k_asm) rfl (room_lt (j := 1) hdp (by decide)) (room_lt (j := 8) hun (by decide)) News.nil (n := many.log2) rfl (Nat.le_trans hl (by decide)) (run_low g1) (Int.lt_of_le_of_lt (Int.sub_le_self _ (Int.le_of_lt (two_pos _))) (Int.ofNat_lt.mpr (Nat.lt_of_le_of_lt hm (by decide)))) ?_
    intro h8 tk8 t8 F8 N8 K8
    have N9 := keep_all N5 K8
    clear N5 N8 K8
    k_steps
    refine ⟨?_⟩
    with_reducible refine add_figs ?_ ?_
    · rw [natBits_length, natBits_length]; exact Nat.le_trans (Nat.add_le_add_left hl 6) (by decide)
    intro t' tk
    k_steps
    refine ⟨?_⟩
    (try dsimp only)
    (with_reducible rename Fr _ _ _ _ => F9)
    have e : natBits 6 many.log2 ++ natBits many.log2 ((many : Int) - 2 ^ ((many.log2 : Nat) : Int).toNat).toNat = runBits many := by
      have r := run_bits (n := many) (p := many.log2)
      simp only [Int.toNat_natCast] at r ⊢
      rw [r, runBits, if_neg h0]
    rw [e] at F9
    exact next _ _ _ F9 (by assumption)
end
/-! R6 -/
theorem mid_l {h₀ h : Heap} {L : Addr} {p : Addr × Obj} {a b : List (Addr × Obj)} (N : News h₀ L h (p :: (a ++ b))) : News h₀ L h a := fun q hq => N q (.tail _ (List.mem_append_left _ hq))
theorem mid_r {h₀ h : Heap} {L : Addr} {p : Addr × Obj} {a b : List (Addr × Obj)} (N : News h₀ L h (p :: (a ++ b))) : News h₀ L h b := fun q hq => N q (.tail _ (List.mem_append_right _ hq))
theorem mid_keep {h₀ h h' : Heap} {L : Addr} {p : Addr × Obj} {a a' b : List (Addr × Obj)} {as : List Addr} (N : News h₀ L h (p :: (a ++ b))) (k : Kept as h h') (hp : p.1 ∉ as) (N' : News h₀ L h' a') (hb : ∀ q ∈ b, q.1 ∉ as) : News h₀ L h' (p :: (a' ++ b)) :=
  keep_cons N k hp (news_app N' (keep_off (mid_r N) k hb))
theorem news_of {h₀ h : Heap} {L : Addr} {FX l : List (Addr × Obj)} (N : News h₀ L h FX) (H : ∀ p ∈ l, p ∈ FX) : News h₀ L h l := fun p hp => N p (H p hp)
theorem off_of_sub {FX l : List (Addr × Obj)} {as : List Addr} (hO : ∀ p ∈ FX, p.1 ∉ as) (H : ∀ p ∈ l, p ∈ FX) : ∀ p ∈ l, p.1 ∉ as := fun p hp => hO p (H p hp)
theorem rr6 {w : World} {mean : ExcName → Option Value} {mg mb : Str → Option Value} {dp un : Nat} {gd : Option (List Code)} {outer : List Env} {A₀ : Around} {base g : Heap} {L c1 c2 : Addr} {s : Shared} {m : Str → Option Value} {PP : Flow → Shared → Prop}
    (B : Below A₀ base outer g) (F : Fr g L s.heap m) (X : (hd.heap_1 w.params).In g) (T : Top hd.view_1 (looseW hd.view_1 []) mean mg mb g) (hdp : dp + 9 < recursionLimit) (hun : un + 72 < cLine)
    {c : Nat → Nat} {bs : Array UInt8} {r z : Int} {t1 t2 : Tok} {e : Nat → Nat} {rs : List (Addr × Tok × Tok × Tok)} {cs' : List (Addr × Tok × Tok)} {o to : Obj} {tt : Nat → Tok} {n : Nat} {tr : Tok} {bl : List Bool} {FX : List (Addr × Obj)} {o2 : Obj} (N : News g L s.heap ((c2, o2) :: ((acwL w c (n : Nat) tr ++ sinkL w c bs r z t1 t2) ++ FX))) (hT : ∀ p ∈ ((c 14, keyObj (c 19, c 20)) :: tabsL w c e rs cs' o to tt), p ∈ FX) (hO : ∀ p ∈ FX, p.1 ∉ acA c) (h2 : c2 ∉ acA c) (ht : Tab PySem.Challenge.rw_nz0255_01.row.prog w e rs cs' o) (hto : TabObj PySem.Challenge.rw_nz0255_01.row.prog w (e 12) (e 0) to) (hD : (acA c).Nodup) (W : WOk bl bs r z) (hz8 : z < 8) (hn : n ≤ 90) (hbl : bl.length < 1800) (hw : m (Str.ofString "writer") = some (.ref (c 11)))
    (next : ∀ (h : Heap) (tk : Nat) (t : Tok), Fr g L h (upd (Str.ofString "octets") (some (.bytes (pack (bl ++ runBits n)) t)) (m)) → News g L h ((c2, o2) :: FX) → wpC (model PySem.Challenge.rw_nz0255_01.row.prog w) (rrA dp un gd L c1 c2 outer) (execs (rrB.drop 7) (rrE L c1 c2)) PP NoE { s with heap := h, toks := tk }) : wpC (model PySem.Challenge.rw_nz0255_01.row.prog w) (rrA dp un gd L c1 c2 outer) (execs (rrB.drop 6) (rrE L c1 c2)) PP NoE s := by
  obtain ⟨sh, sg, sd, st, so⟩ := s
  dsimp only at F N next ⊢
  refine c_execs_cons (k_assign_name (k_meth ?_))
  k_fold
  k_steps
  refine ⟨?_⟩
  refine c_callK0 (K := hd.heap_1 w.params) (by k_in) (by k_is) ?_
  (try dsimp only [List.cons_append, List.nil_append])
  (with_reducible rename Fr _ _ _ _ => F5)
  (with_reducible rename News _ _ _ _ => N5)
  refine acfinish_spec (by k_asm) (by k_asm) (by assumption) (by k_asm) rfl (room_lt (j := 6) hdp (by decide)) (room_lt (j := 48) hun (by decide)) (mid_l N5) (news_of (mid_r N5) hT) (off_of_sub hO hT) ht hto hD W hz8 hn hbl ?_
  intro h6 tk6 t6 F6 N6 K6
  have N7 := mid_keep N5 K6 h2 N6 hO
  clear N5 N6 K6
  k_steps
  refine ⟨?_⟩
  (try dsimp only)
  (with_reducible rename Fr _ _ _ _ => F9)
  exact next _ _ _ F9 (by assumption)
/-! R1 -/
/-- a row of the law's: seven, and one number of the band -/
structure Rw where
  (a : Addr) (v : Int) (u : Nat → Tok) (n : Nat)
noncomputable abbrev Rw.o (y : Rw) : Obj := listOf #[.int 7 (y.u 0), .int 0 (y.u 1), .int y.v (y.u 2), .int 0 (y.u 3)] y.n
noncomputable def rwL (rs : List Rw) : List (Addr × Obj) := rs.map fun y => (y.a, y.o)
noncomputable abbrev rwR (rs : List Rw) : List Value := rs.map fun y => .ref y.a
noncomputable def vals (many : Nat) (tl : Int) : List Int := List.replicate many 0 ++ (if tl = 0 then [] else [tl])
noncomputable def wn (many i : Nat) : Nat := if i ≤ many then i else 1
noncomputable def wb (many : Nat) (tl : Int) (i : Nat) : List Bool := if i ≤ many then [] else runBits many ++ valBits tl
theorem row_at {rs : List Rw} {i : Nat} {v : Value} (h : (rwR rs)[i]? = some v) : ∃ y, rs[i]? = some y ∧ v = .ref y.a ∧ (y.a, y.o) ∈ rwL rs ∧ y ∈ rs := by
  rw [List.getElem?_map] at h
  obtain ⟨y, hy, rfl⟩ := Option.map_eq_some_iff.mp h
  have hm := List.mem_of_getElem? hy
  exact ⟨y, hy, rfl, List.mem_map_of_mem hm, hm⟩
theorem vals_at {many : Nat} {tl : Int} {i : Nat} {v : Int} (h : (vals many tl)[i]? = some v) : (i < many ∧ v = 0) ∨ (i = many ∧ v = tl ∧ tl ≠ 0) := by
  unfold vals at h
  by_cases hi : i < many
  · rw [List.getElem?_append_left (by rw [List.length_replicate]; exact hi), List.getElem?_replicate, if_pos hi] at h
    exact .inl ⟨hi, (Option.some.inj h).symm⟩
  · rw [List.getElem?_append_right (by rw [List.length_replicate]; exact Nat.le_of_not_lt hi), List.length_replicate] at h
    split at h
    · simp at h
    · next h0 =>
      have hz : i - many = 0 := by
        cases q : i - many with
        | zero => rfl
        | succ k => rw [q] at h; simp at h
      rw [hz] at h
      exact .inr ⟨Nat.le_antisymm (Nat.sub_eq_zero_iff_le.mp hz) (Nat.not_lt.mp hi), (Option.some.inj h).symm, h0⟩
theorem row_val {rs : List Rw} {many : Nat} {tl : Int} {i : Nat} {y : Rw} (e : rs.map (·.v) = vals many tl) (h : rs[i]? = some y) : (i < many ∧ y.v = 0) ∨ (i = many ∧ y.v = tl ∧ tl ≠ 0) :=
  vals_at (by rw [← e, List.getElem?_map, h]; rfl)
theorem w_step {many i : Nat} {tl v : Int} (h : (i < many ∧ v = 0) ∨ (i = many ∧ v = tl ∧ tl ≠ 0)) :
    wn many (i + 1) = (if v = 0 then wn many i + 1 else 1) ∧ wb many tl (i + 1) = (if v = 0 then wb many tl i else wb many tl i ++ runBits (wn many i) ++ valBits v) := by
  rcases h with ⟨h, rfl⟩ | ⟨rfl, rfl, h⟩
  · rw [if_pos rfl, if_pos rfl, wn, wn, wb, wb, if_pos (Nat.succ_le_of_lt h), if_pos (Nat.le_of_lt h), if_pos (Nat.succ_le_of_lt h), if_pos (Nat.le_of_lt h)]
    exact ⟨rfl, rfl⟩
  · rw [if_neg h, if_neg h, wn, wn, wb, wb, if_neg (Nat.not_succ_le_self _), if_pos (Nat.le_refl _), if_neg (Nat.not_succ_le_self _), if_pos (Nat.le_refl _), List.nil_append]
    exact ⟨rfl, rfl⟩
theorem wn_le {many i : Nat} (hm : many ≤ 90) : wn many i ≤ 90 := by
  unfold wn
  split
  · next h => exact Nat.le_trans h hm
  · decide
theorem run_len {n : Nat} (h : n ≤ 90) : (runBits n).length ≤ 12 := by
  unfold runBits
  split
  · simp
  · rw [List.length_append, natBits_length, natBits_length]
    exact Nat.add_le_add_left (log_le h) 6
theorem val_len {v : Int} (h : v.natAbs ≤ 7) : (valBits v).length ≤ 9 := by
  rw [valBits, List.length_append, natBits_length, natBits_length]
  have : v.natAbs.log2 ≤ 2 := by
    by_cases h0 : v.natAbs = 0
    · rw [h0]; decide
    · exact Nat.le_of_lt_succ ((Nat.log2_lt h0 (k := 3)).mpr (Nat.lt_succ_of_le h))
  exact Nat.add_le_add_left (Nat.succ_le_succ this) 6
theorem wb_len {many i : Nat} {tl : Int} (hm : many ≤ 90) (h7 : tl.natAbs ≤ 7) : (wb many tl i).length ≤ 21 := by
  unfold wb
  split
  · simp
  · rw [List.length_append]
    exact Nat.add_le_add (run_len hm) (val_len h7)
theorem row_small {many : Nat} {tl v : Int} {i : Nat} (h7 : tl.natAbs ≤ 7) (h : (i < many ∧ v = 0) ∨ (i = many ∧ v = tl ∧ tl ≠ 0)) : v.natAbs ≤ 7 := by
  rcases h with ⟨_, rfl⟩ | ⟨_, rfl, _⟩
  · decide
  · exact h7
/-- a turn of a loop over a ledger whose first object and last part stand -/
theorem turn_mid {h₀ h h' : Heap} {L I : Addr} {it : Obj} {p : Addr × Obj} {a a' b : List (Addr × Obj)} {as : List Addr} (N : News h₀ L h ((I, it) :: (p :: (a ++ b)))) (off : ∀ q ∈ p :: (a ++ b), q.1 ≠ I) (k : Kept as h h') (hp : p.1 ∉ as) (N' : News h₀ L h' a')
    (ea : a.map (·.1) = as) (ea' : a'.map (·.1) = as) (hb : ∀ q ∈ b, q.1 ∉ as) : News h₀ L h' ((I, it) :: (p :: (a' ++ b))) ∧ ∀ q ∈ p :: (a' ++ b), q.1 ≠ I := by
  have hI : I ∉ as := fun q => by
    rw [← ea] at q
    obtain ⟨x, hx, e⟩ := List.mem_map.mp q
    exact off x (.tail _ (List.mem_append_left _ hx)) e
  refine ⟨keep_cons N k hI (mid_keep (news_tail N) k hp N' hb), fun q hq => ?_⟩
  rcases List.mem_cons.mp hq with rfl | hq
  · exact off _ (.head _)
  rcases List.mem_append.mp hq with hq | hq
  · exact fun e => hI (by rw [← ea', ← e]; exact List.mem_map_of_mem hq)
  · exact off q (.tail _ (List.mem_append_right _ hq))
/-! R9 -/
theorem sym_low (p : Nat) (h : p ≤ 6) : symAt p = 16 * (p : Int) := (sym_pow p h).symm
theorem rr9 {w : World} {mean : ExcName → Option Value} {mg mb : Str → Option Value} {dp un : Nat} {gd : Option (List Code)} {outer : List Env} {A₀ : Around} {base g : Heap} {L c1 c2 : Addr} {s : Shared} {m : Str → Option Value} {PP : Flow → Shared → Prop}
    (B : Below A₀ base outer g) (F : Fr g L s.heap m) (X : (hd.heap_1 w.params).In g) (T : Top hd.view_1 (looseW hd.view_1 []) mean mg mb g) (hdp : dp + 9 < recursionLimit) (hun : un + 72 < cLine)
    {FX : List (Addr × Obj)} {o1 o2 : Obj} {many : Nat} {tm tp : Tok} (N : News g L s.heap ((c2, o2) :: (c1, o1) :: FX)) (hM : o1.data = .cell (some (.int (many : Int) tm))) (hm : many ≤ 90) (hp : m (Str.ofString "power") = some (.int (many.log2 : Int) tp))
    (next : ∀ (h : Heap) (tk : Nat) , Fr g L h (m) → News g L h ((c2, o2) :: (c1, o1) :: FX) → wpC (model PySem.Challenge.rw_nz0255_01.row.prog w) (rrA dp un gd L c1 c2 outer) (execs (rrB.drop 10) (rrE L c1 c2)) PP NoE { s with heap := h, toks := tk }) : wpC (model PySem.Challenge.rw_nz0255_01.row.prog w) (rrA dp un gd L c1 c2 outer) (execs (rrB.drop 9) (rrE L c1 c2)) PP NoE s := by
  obtain ⟨sh, sg, sd, st, so⟩ := s
  dsimp only at F N next ⊢
  have hl := log_le hm
  refine c_execs_cons (k_if ?_)
  k_fold
  k_steps
  · have h0 : many ≠ 0 := by omega
    refine ⟨?_⟩
    (with_reducible rename Fr _ _ _ _ => F5)
    (with_reducible rename News _ _ _ _ => N5)
    refine runcode_spec (by k_asm) (by k_asm) (by assumption) (by k_asm) rfl (room_lt (j := 1) hdp (by decide)) (room_lt (j := 8) hun (by decide)) News.nil (Nat.log2_self_le h0) Nat.lt_log2_self hl ?_
    intro h8 tk8 cc t8 u8 F8 N8 K8
    have N9 := keep_new N5 K8 N8
    rw [sym_low _ hl] at N9
    clear N5 N8 K8
    k_steps
    refine ⟨⟨fun hb => absurd hb (by decide), fun _ => ?_⟩⟩
    refine c_execs_nil ?_
    (with_reducible rename News _ _ _ _ => N9)
    exact next _ _ (by assumption) (news_tail (news_tail N9))
  · refine ⟨⟨fun hb => absurd hb (by decide), fun _ => ?_⟩⟩
    refine c_execs_nil ?_
    exact next _ _ (by assumption) (by assumption)
/-! R10 -/
section
local macro_rules | `(tactic| walk_at "binaryOp Add str str") => `(tactic| (k_here; refine stop_any ?_))
theorem upd_upd {x : Str} {v v' : Option Value} {m : Str → Option Value} : upd x v (upd x v' m) = upd x v m := by
  funext y
  show (if y = x then v else if y = x then v' else m y) = if y = x then v else m y
  by_cases h : y = x
  · rw [if_pos h, if_pos h]
  · rw [if_neg h, if_neg h, if_neg h]
theorem size_at {p n : Nat} (hp : p ≤ 2) (g1 : 2 ^ p ≤ n) (g2 : n < 2 ^ (p + 1)) : (n = 1 → p = 0) ∧ (n ≠ 1 → n < 4 → p = 1) ∧ (4 ≤ n → p = 2) := by
  rcases p with _ | _ | _ | p
  · exact ⟨fun _ => rfl, fun h _ => absurd (Nat.le_antisymm (Nat.le_of_lt_succ g2) g1) h, fun h => absurd g2 (Nat.not_lt.mpr (Nat.le_trans (by decide) h))⟩
  · exact ⟨fun h => absurd (h ▸ g1) (by decide), fun _ _ => rfl, fun h => absurd g2 (Nat.not_lt.mpr h)⟩
  · exact ⟨fun h => absurd (h ▸ g1) (by decide), fun _ h => absurd g1 (Nat.not_le.mpr h), fun _ => rfl⟩
  · exact absurd hp (Nat.not_le_of_lt (Nat.le_add_left 3 p))
theorem abs_is {x : Int} {n k : Nat} (e : x = (n : Int)) (h : x = (k : Int)) : n = k := Int.ofNat.inj (e.symm.trans h)
theorem abs_not {x : Int} {n k : Nat} (e : x = (n : Int)) (h : x ≠ (k : Int)) : n ≠ k := fun q => h (q ▸ e)
theorem abs_lt {x : Int} {n k : Nat} (e : x = (n : Int)) (h : x < (k : Int)) : n < k := Int.ofNat_lt.mp (e ▸ h)
theorem abs_ge {x : Int} {n k : Nat} (e : x = (n : Int)) (h : ¬ x < (k : Int)) : k ≤ n := Nat.not_lt.mp fun q => h (e ▸ Int.ofNat_lt.mpr q)
theorem c_cutA {M : Model} {A : Around} {s : Shared} {env : Env} {st : Stmt} {rest : List Stmt} {Q : Flow → Shared → Prop} (I : Shared → Prop) (h : wpAny M A (exec st env) (fun f s' => Stop (f = .next ∧ I s')) NoE s) (k : ∀ s', I s' → wpC M A (execs rest env) Q NoE s') : wpC M A (execs (st :: rest) env) Q NoE s :=
  c_execs_cons (c_any (wpAny_mono h (fun f s' z => by have y := z.out; obtain ⟨rfl, y2⟩ := y; exact k s' y2) fun _ _ z => z))
theorem size_is {v : Int} (h0 : v ≠ 0) (h7 : v.natAbs ≤ 7) : v.natAbs.log2 ≤ 2 ∧ 2 ^ v.natAbs.log2 ≤ v.natAbs ∧ v.natAbs < 2 ^ (v.natAbs.log2 + 1) := by
  have h : v.natAbs ≠ 0 := Int.natAbs_ne_zero.mpr h0
  exact ⟨Nat.le_of_lt_succ ((Nat.log2_lt h (k := 3)).mpr (Nat.lt_succ_of_le h7)), Nat.log2_self_le h, Nat.lt_log2_self⟩
theorem rr10 {w : World} {mean : ExcName → Option Value} {mg mb : Str → Option Value} {dp un : Nat} {gd : Option (List Code)} {outer : List Env} {A₀ : Around} {base g : Heap} {L c1 c2 : Addr} {s : Shared} {m : Str → Option Value} {PP : Flow → Shared → Prop}
    (B : Below A₀ base outer g) (F : Fr g L s.heap m) (X : (hd.heap_1 w.params).In g) (T : Top hd.view_1 (looseW hd.view_1 []) mean mg mb g) (hdp : dp + 9 < recursionLimit) (hun : un + 72 < cLine)
    {FX : List (Addr × Obj)} {o2 : Obj} {tl : Int} {t0 tx : Tok} {bl : List Bool} {sl : Addr} {ts : Nat → Tok} {ns : Nat} (N : News g L s.heap ((c2, o2) :: FX)) (h7 : tl.natAbs ≤ 7) (hbl : bl.length ≤ 20) (hY : (sl, listOf (symL ts).toArray ns) ∈ FX) (ht : m (Str.ofString "tail") = some (.int tl t0)) (hs : m (Str.ofString "symbols") = some (.ref sl)) (hx : m (Str.ofString "text") = some (.str (figs bl) tx))
    (next : ∀ (h : Heap) (tk : Nat) (us : Option Value) (t : Tok), Fr g L h (upd (Str.ofString "text") (some (.str (figs (if tl = 0 then bl else bl ++ valBits tl ++ natBits 6 0)) t)) (upd (Str.ofString "size") us m)) → News g L h ((c2, o2) :: FX) → wpC (model PySem.Challenge.rw_nz0255_01.row.prog w) (rrA dp un gd L c1 c2 outer) (execs (rrB.drop 11) (rrE L c1 c2)) PP NoE { s with heap := h, toks := tk }) : wpC (model PySem.Challenge.rw_nz0255_01.row.prog w) (rrA dp un gd L c1 c2 outer) (execs (rrB.drop 10) (rrE L c1 c2)) PP NoE s := by
  obtain ⟨sh, sg, sd, st, so⟩ := s
  dsimp only at F N next ⊢
  refine c_execs_cons (k_if ?_)
  k_fold
  k_steps
  refine ⟨⟨fun hb => ?_, fun hb => ?_⟩⟩
  · have h0 : tl ≠ 0 := bne_iff_ne.mp hb
    obtain ⟨hp, g1, g2⟩ := size_is h0 h7
    refine c_cutA (fun s' => ∃ h tk t, s' = { heap := h, gens := sg, drawn := sd, toks := tk, os := so } ∧ Fr g L h (upd (Str.ofString "size") (some (.int ((tl.natAbs.log2 + 1 : Nat) : Int) t)) m) ∧ News g L h ((c2, o2) :: FX)) ?_ ?_
    · obtain ⟨q1, q2, q3⟩ := size_at hp g1 g2
      have na := neg_abs tl
      k_steps
      · have e : tl.natAbs.log2 = 0 := q1 (abs_is (k := 1) na (by assumption))
        rw [e]
        exact ⟨trivial, _, _, _, rfl, by assumption, by assumption⟩
      · have e : tl.natAbs.log2 = 1 := q2 (abs_not (k := 1) na (by assumption)) (abs_lt (k := 4) na (by assumption))
        rw [e]
        exact ⟨trivial, _, _, _, rfl, by assumption, by assumption⟩
      · have e : tl.natAbs.log2 = 2 := q3 (abs_ge (k := 4) na (by assumption))
        rw [e]
        exact ⟨trivial, _, _, _, rfl, by assumption, by assumption⟩
    · clear F N
      rintro _ ⟨h1, tk1, tz, rfl, F, N⟩
      refine c_cutA (fun s' => ∃ h tk t, s' = { heap := h, gens := sg, drawn := sd, toks := tk, os := so } ∧ Fr g L h (upd (Str.ofString "text") (some (.str (figs (bl ++ valBits tl)) t)) (upd (Str.ofString "size") (some (.int ((tl.natAbs.log2 + 1 : Nat) : Int) tz)) m)) ∧ News g L h ((c2, o2) :: FX)) ?_ ?_
      · k_steps
        refine sym_index (by k_asm) (by k_mem) (kf_syv ts _ hp) ?_
        k_steps
        refine ⟨?_⟩
        (with_reducible rename Fr _ _ _ _ => F5)
        (with_reducible rename News _ _ _ _ => N5)
        refine figures_spec (by k_asm) (by k_asm) (by assumption) (by k_asm) rfl (room_lt (j := 1) hdp (by decide)) (room_lt (j := 8) hun (by decide)) News.nil (n := 6) rfl (by decide) (Int.natCast_nonneg _) (Int.ofNat_lt.mpr (Nat.lt_of_le_of_lt (Nat.add_le_add_left hp 10) (by decide))) ?_
        intro h8 tk8 t8 F8 N8 K8
        have N9 := keep_all N5 K8
        clear N5 N8 K8
        rw [Int.toNat_natCast]
        k_steps
        refine ⟨?_⟩
        with_reducible refine add_figs ?_ ?_
        · rw [natBits_length]; exact Nat.le_trans (Nat.add_le_add_right hbl 6) (by decide)
        intro t' tk
        have es : ((tl.natAbs.log2 + 1 : Nat) : Int).toNat = tl.natAbs.log2 + 1 := Int.toNat_natCast _
        have vf := val_fit g1 g2
        have z3 : tl.natAbs.log2 + 1 ≤ 3 := Nat.succ_le_succ hp
        have z8 : tl.natAbs.log2 + 1 ≤ 8 := Nat.le_trans z3 (by decide)
        have z0 : (0 : Int) ≤ ((tl.natAbs.log2 + 1 : Nat) : Int) := Int.natCast_nonneg _
        have z6 : ((tl.natAbs.log2 + 1 : Nat) : Int) ≤ 1000000 := Int.ofNat_le.mpr (Nat.le_trans z3 (by decide))
        have e8 : (2 : Int) ^ (tl.natAbs.log2 + 1) ≤ 8 := by
          have : (2 : Nat) ^ (tl.natAbs.log2 + 1) ≤ 2 ^ 3 := Nat.pow_le_pow_right (by decide) (Nat.succ_le_succ hp)
          exact Int.ofNat_le.mpr this
        k_steps
        · have hn : ¬ tl < 0 := Int.not_lt.mpr (Int.le_of_lt (by assumption))
          refine ⟨?_⟩
          (with_reducible rename Fr _ _ _ _ => F5)
          (with_reducible rename News _ _ _ _ => N5)
          refine figures_spec (by k_asm) (by k_asm) (by assumption) (by k_asm) rfl (room_lt (j := 1) hdp (by decide)) (room_lt (j := 8) hun (by decide)) News.nil (n := tl.natAbs.log2 + 1) rfl z8 (Int.not_lt.mp hn) (by rw [if_neg hn] at vf; exact Int.lt_of_lt_of_le vf.2 (Int.le_trans e8 (by decide))) ?_
          intro h8 tk8 t8 F8 N8 K8
          have N9 := keep_all N5 K8
          clear N5 N8 K8
          k_steps
          refine ⟨?_⟩
          with_reducible refine add_figs ?_ ?_
          · rw [List.length_append, natBits_length, natBits_length]; exact Nat.le_trans (Nat.add_le_add (Nat.add_le_add_right hbl 6) z3) (by decide)
          intro t2' tk2
          k_steps
          (with_reducible rename Fr _ _ _ _ => F9)
          have e : (bl ++ natBits 6 (10 + tl.natAbs.log2)) ++ natBits (tl.natAbs.log2 + 1) tl.toNat = bl ++ valBits tl := by rw [valBits, if_neg hn, List.append_assoc]
          rw [e] at F9
          exact ⟨trivial, _, _, _, rfl, F9, by assumption⟩
        · have hn : tl < 0 := Int.lt_iff_le_and_ne.mpr ⟨Int.not_lt.mp (by assumption), h0⟩
          rw [if_pos hn] at vf
          refine ⟨?_⟩
          (with_reducible rename Fr _ _ _ _ => F5)
          (with_reducible rename News _ _ _ _ => N5)
          refine figures_spec (by k_asm) (by k_asm) (by assumption) (by k_asm) rfl (room_lt (j := 1) hdp (by decide)) (room_lt (j := 8) hun (by decide)) News.nil (n := tl.natAbs.log2 + 1) rfl z8 (by rw [es]; exact vf.1) (by rw [es]; exact Int.lt_of_lt_of_le vf.2 (Int.le_trans e8 (by decide))) ?_
          intro h8 tk8 t8 F8 N8 K8
          have N9 := keep_all N5 K8
          clear N5 N8 K8
          k_steps
          refine ⟨?_⟩
          with_reducible refine add_figs ?_ ?_
          · rw [List.length_append, natBits_length, natBits_length]; exact Nat.le_trans (Nat.add_le_add (Nat.add_le_add_right hbl 6) z3) (by decide)
          intro t2' tk2
          k_steps
          (with_reducible rename Fr _ _ _ _ => F9)
          have e : (bl ++ natBits 6 (10 + tl.natAbs.log2)) ++ natBits (tl.natAbs.log2 + 1) (tl + 2 ^ ((tl.natAbs.log2 + 1 : Nat) : Int).toNat - 1).toNat = bl ++ valBits tl := by rw [valBits, if_pos hn, List.append_assoc, es]
          rw [e] at F9
          exact ⟨trivial, _, _, _, rfl, F9, by assumption⟩
      · clear F N
        rintro _ ⟨h2, tk2, t2, rfl, F, N⟩
        refine k_stmt ?_
        k_fold
        k_steps
        refine ⟨?_⟩
        (with_reducible rename Fr _ _ _ _ => F5)
        (with_reducible rename News _ _ _ _ => N5)
        refine figures_spec (by k_asm) (by k_asm) (by assumption) (by k_asm) rfl (room_lt (j := 1) hdp (by decide)) (room_lt (j := 8) hun (by decide)) News.nil (n := 6) rfl (by decide) (by decide) (by decide) ?_
        intro h8 tk8 t8 F8 N8 K8
        have N9 := keep_all N5 K8
        clear N5 N8 K8
        k_steps
        refine ⟨?_⟩
        with_reducible refine add_figs ?_ ?_
        · rw [List.length_append, natBits_length, valBits, List.length_append, natBits_length, natBits_length]; exact Nat.le_trans (Nat.add_le_add_right (Nat.add_le_add hbl (Nat.add_le_add_left (Nat.succ_le_succ hp) 6)) 6) (by decide)
        intro t' tk
        k_steps
        refine ⟨?_⟩
        (try dsimp only)
        refine c_execs_nil ?_
        (with_reducible rename Fr _ _ _ _ => F9)
        refine next _ _ (some (.int ((tl.natAbs.log2 + 1 : Nat) : Int) tz)) t' (fr_eq F9 ?_) (by assumption)
        rw [if_neg h0]
        exact upd_upd
  · have h0 : tl = 0 := by simpa using hb
    refine c_execs_nil ?_
    refine next _ _ (m (Str.ofString "size")) tx ?_ (by assumption)
    rw [if_pos h0, ← hx]
    exact fr_eq (by assumption) (map_same _ (map_same _ rfl))
end
/-! R11 -/
theorem rr11 {w : World} {mean : ExcName → Option Value} {mg mb : Str → Option Value} {dp un : Nat} {gd : Option (List Code)} {outer : List Env} {A₀ : Around} {base g : Heap} {L c1 c2 : Addr} {s : Shared} {m : Str → Option Value} {PP : Flow → Shared → Prop}
    (B : Below A₀ base outer g) (F : Fr g L s.heap m) (X : (hd.heap_1 w.params).In g) (T : Top hd.view_1 (looseW hd.view_1 []) mean mg mb g) (hdp : dp + 9 < recursionLimit) (hun : un + 72 < cLine)
    {FX : List (Addr × Obj)} {o2 : Obj} {bl : List Bool} {tx tb : Tok} (N : News g L s.heap ((c2, o2) :: FX)) (hbl : bl.length ≤ 1000) (ho : m (Str.ofString "octets") = some (.bytes (pack bl) tb)) (hx : m (Str.ofString "text") = some (.str (figs bl) tx))
    (next : ∀ (h : Heap) (tk : Nat) , Fr g L h (m) → News g L h ((c2, o2) :: FX) → wpC (model PySem.Challenge.rw_nz0255_01.row.prog w) (rrA dp un gd L c1 c2 outer) (execs (rrB.drop 12) (rrE L c1 c2)) PP NoE { s with heap := h, toks := tk }) : wpC (model PySem.Challenge.rw_nz0255_01.row.prog w) (rrA dp un gd L c1 c2 outer) (execs (rrB.drop 11) (rrE L c1 c2)) PP NoE s := by
  obtain ⟨sh, sg, sd, st, so⟩ := s
  dsimp only at F N next ⊢
  refine c_execs_cons (k_if ?_)
  k_fold
  k_steps
  refine ⟨?_⟩
  (with_reducible rename Fr _ _ _ _ => F5)
  (with_reducible rename News _ _ _ _ => N5)
  refine octets_law (by k_asm) (by k_asm) (by assumption) (by k_asm) rfl (room_lt (j := 1) hdp (by decide)) (room_lt (j := 8) hun (by decide)) News.nil hbl (figs_length _ ▸ hbl) ?_
  intro h8 tk8 t8 F8 N8 K8
  have N9 := keep_all N5 K8
  clear N5 N8 K8
  k_steps
  refine ⟨⟨fun hb => absurd hb (by simp), fun _ => ?_⟩⟩
  refine c_execs_nil ?_
  exact next _ _ (by assumption) (by assumption)
/-! R3 -/
noncomputable def jk (c9 c10 c8 : Nat → Nat) (i : Nat) : Nat := if i < 11 then c9 i else if i < 21 then c10 i else c8 i
theorem ac_fresh {w : World} {h₀ h1 : Heap} {L c2 : Addr} {o2 : Obj} {c9 c10 c : Nat → Nat} {t1 t2 : Tok} {FX : List (Addr × Obj)} {es : List DictEntry} (N : News h₀ L h1 ((c10 11, instObj 260 (c10 12)) :: (c10 12, dictOf es 4) :: (c10 14, keyObj (c10 19, c10 20)) :: (sinkL w c9 #[] 0 0 t1 t2 ++ ((c2, o2) :: FX))))
    (hO9 : ∀ p ∈ (c2, o2) :: FX, ∀ a ∈ sinkA c9, @Ne Nat p.1 a) (hO10 : ∀ p ∈ sinkL w c9 #[] 0 0 t1 t2 ++ ((c2, o2) :: FX), ∀ a ∈ [c10 11, c10 12], @Ne Nat p.1 a) (hD9 : (sinkA c9).Nodup) (hn : @Ne Nat (c10 11) (c10 12)) :
    (∀ p ∈ (c10 14, keyObj (c10 19, c10 20)) :: FX, p.1 ∉ acA (jk c9 c10 c)) ∧ c2 ∉ acA (jk c9 c10 c) ∧ (acA (jk c9 c10 c)).Nodup := by
  have hS : ∀ a ∈ [c10 11, c10 12], a ∉ sinkA c9 := fun a ha q => by
    obtain ⟨o, ho⟩ := sink_addr (w := w) (bs := #[]) (r := 0) (z := 0) (t := t1) (t' := t2) q
    exact hO10 _ (List.mem_append_left _ ho) _ ha rfl
  have hF : ∀ p ∈ (c2, o2) :: FX, p.1 ∉ acA (jk c9 c10 c) := fun p hp q => by
    have z := hO10 p (List.mem_append_right _ hp)
    rcases List.mem_cons.mp q with q | q
    · exact z _ (.head _) q
    rcases List.mem_cons.mp q with q | q
    · exact z _ (.tail _ (.head _)) q
    · exact hO9 p hp _ q rfl
  refine ⟨(fm (cls_off (as := acA (jk c9 c10 c)) N (.tail _ (.tail _ (.head _))) ?_) (fun p hp => hF p (.tail _ hp))), hF _ (.head _), List.nodup_cons.mpr ⟨fun q => ?_, List.nodup_cons.mpr ⟨hS _ (.tail _ (.head _)), hD9⟩⟩⟩
  · intro x hx
    rcases List.mem_cons.mp hx with rfl | hx
    · exact ⟨_, .head _, by simp⟩
    rcases List.mem_cons.mp hx with rfl | hx
    · exact ⟨_, .tail _ (.head _), by simp⟩
    obtain ⟨o, ho, hc⟩ : ∃ o, (x, o) ∈ sinkL w c9 #[] 0 0 t1 t2 ∧ o.cls ≠ (keyObj (c10 19, c10 20)).cls := by
      rcases List.mem_cons.mp hx with rfl | hx
      · exact ⟨_, .head _, by simp⟩
      rcases List.mem_cons.mp hx with rfl | hx
      · exact ⟨_, .tail _ (.head _), by simp⟩
      rcases List.mem_cons.mp hx with rfl | hx
      · exact ⟨_, .tail _ (.tail _ (.head _)), by simp⟩
      rcases List.mem_cons.mp hx with rfl | hx
      · exact ⟨_, .tail _ (.tail _ (.tail _ (.head _))), by simp⟩
      · rw [List.mem_singleton.mp hx]
        exact ⟨_, .tail _ (.tail _ (.tail _ (.tail _ (.head _)))), by simp⟩
    exact ⟨o, .tail _ (.tail _ (.tail _ (List.mem_append_left _ ho))), hc⟩
  · rcases List.mem_cons.mp q with q | q
    · exact hn q
    · exact hS _ (.head _) q
theorem rr3 {w : World} {mean : ExcName → Option Value} {mg mb : Str → Option Value} {dp un : Nat} {gd : Option (List Code)} {outer : List Env} {A₀ : Around} {base g : Heap} {L c1 c2 : Addr} {s : Shared} {m : Str → Option Value} {PP : Flow → Shared → Prop}
    (B : Below A₀ base outer g) (F : Fr g L s.heap m) (X : (hd.heap_1 w.params).In g) (T : Top hd.view_1 (looseW hd.view_1 []) mean mg mb g) (hdp : dp + 9 < recursionLimit) (hun : un + 72 < cLine)
    {c : Nat → Nat} {xv : Nat → Value} {ac TT : Addr} {ta : Tok} {nac : Nat} {FX : List (Addr × Obj)} {o2 : Obj} (N : News g L s.heap ((c2, o2) :: FX)) (hS : ∀ p ∈ scanL w c xv 1 3 0, p ∈ FX) (hA : (ac, listOf #[.int 0 ta] nac) ∈ FX) (hx2 : xv 2 = .ref ac) (hsc : m (Str.ofString "scan") = some (.ref (c 21))) (htb : m (Str.ofString "tables") = some (.ref TT))
    (next : ∀ (h : Heap) (tk : Nat) (c9 c10 : Nat → Nat) (t1 t2 tr : Tok), Fr g L h (upd (Str.ofString "writer") (some (.ref (c10 11))) (m)) → News g L h ((c2, o2) :: ((acwL w (jk c9 c10 c) ((0 : Nat) : Int) tr ++ sinkL w (jk c9 c10 c) #[] 0 0 t1 t2) ++ ((c10 14, keyObj (c10 19, c10 20)) :: FX))) → (∀ p ∈ (c10 14, keyObj (c10 19, c10 20)) :: FX, p.1 ∉ acA (jk c9 c10 c)) → c2 ∉ acA (jk c9 c10 c) → (acA (jk c9 c10 c)).Nodup → c9 8 = TT → wpC (model PySem.Challenge.rw_nz0255_01.row.prog w) (rrA dp un gd L c1 c2 outer) (execs (rrB.drop 4) (rrE L c1 c2)) PP NoE { s with heap := h, toks := tk }) : wpC (model PySem.Challenge.rw_nz0255_01.row.prog w) (rrA dp un gd L c1 c2 outer) (execs (rrB.drop 3) (rrE L c1 c2)) PP NoE s := by
  obtain ⟨sh, sg, sd, st, so⟩ := s
  dsimp only at F N next ⊢
  refine c_execs_cons (k_assign_name (k_name ?_))
  k_fold
  k_steps
  refine ⟨?_⟩
  refine c_callK (K := hd.heap_1 w.params) (by k_is) ?_
  refine c_spliced_cons (k_arg ?_)
  k_steps
  refine ⟨?_⟩
  refine c_spliced_cons (c_argC (k_name ?_))
  k_steps
  refine ⟨?_⟩
  refine c_callK (K := hd.heap_1 w.params) (by k_is) ?_
  refine c_spliced_cons (k_arg ?_)
  k_steps
  refine ⟨?_⟩
  refine c_spliced_nil ⟨by k_in, ?_⟩
  (try dsimp only [List.cons_append, List.nil_append])
  (with_reducible rename Fr _ _ _ _ => F5)
  (with_reducible rename News _ _ _ _ => N5)
  refine newsink_spec (by k_asm) (by k_asm) (by assumption) (by k_asm) rfl (room_lt (j := 6) hdp (by decide)) (room_lt (j := 48) hun (by decide)) News.nil ?_
  intro h8 tk8 c9 t1 t2 F8 N8 K8 hf8 hD8 hc8
  have N9 := keep_new N5 K8 N8
  have hO9 := off_new N5 hf8
  clear N5 N8 K8
  refine c_spliced_nil ⟨by k_in, ?_⟩
  (try dsimp only [List.cons_append, List.nil_append])
  (with_reducible rename Fr _ _ _ _ => F5)
  (with_reducible rename News _ _ _ _ => N5)
  refine c_any (newacw_spec (xv := xv) (by k_asm) (by k_asm) (by assumption) (by k_asm) rfl (room_lt (j := 2) hdp (by decide)) (room_lt (j := 16) hun (by decide)) (news_of N5 fun p hp => List.mem_append_right _ (.tail _ ((List.mem_append.mp hp).elim (hS p) fun q => by rw [List.mem_singleton.mp q]; exact hA))) hx2 ?_)
  intro h8 tk8 c10 tr F8 N8 K8 hf8 hn10
  have N9 := keep_new N5 K8 N8
  have hO10 := off_new N5 hf8
  clear N5 N8 K8
  obtain ⟨q1, q2, q3⟩ := ac_fresh (c := c) N9 (fun p hp => hO9 p hp) hO10 hD8 hn10
  k_steps
  refine ⟨?_⟩
  (try dsimp only)
  (with_reducible rename Fr _ _ _ _ => F9)
  (with_reducible rename News _ _ _ _ => N9)
  refine next _ _ c9 c10 t1 t2 tr F9 (news_sub N9 ?_) q1 q2 q3 hc8
  refine (fm (.tail _ (.tail _ (.tail _ (List.mem_append_right (sinkL w c9 #[] 0 0 t1 t2) (.head _))))) (fun p hp => ?_))
  rcases List.mem_append.mp hp with hp | hp
  · rcases List.mem_append.mp hp with hp | hp
    · rcases List.mem_cons.mp hp with rfl | hp
      · exact .head _
      · rw [List.mem_singleton.mp hp]
        exact .tail _ (.head _)
    · exact .tail _ (.tail _ (.tail _ (List.mem_append_left (as := sinkL w c9 #[] 0 0 t1 t2) ((c2, o2) :: FX) hp)))
  · rcases List.mem_cons.mp hp with rfl | hp
    · exact .tail _ (.tail _ (.head _))
    · exact .tail _ (.tail _ (.tail _ (List.mem_append_right (sinkL w c9 #[] 0 0 t1 t2) (.tail _ hp))))
/-! R4 -/
theorem wstart_spec {w : World} {mean : ExcName → Option Value} {mg mb : Str → Option Value} {dp un : Nat} {gd : Option (List Code)} {cn : Str} {cs : Scope} {ca : Addr} {ccd : Value} {cl : List (Str × Addr)} {outer : List Env} {A₀ : Around} {base h₀ : Heap} {L : Addr} {m : Str → Option Value} {s : Shared} {Q E : Value → Shared → Prop}
    (B : Below A₀ base outer h₀) (F : Fr h₀ L s.heap m) (X : (hd.heap_1 w.params).In h₀) (T : Top hd.view_1 (looseW hd.view_1 []) mean mg mb h₀) (hk : cs.kind = .function) (hdp : dp + 1 < recursionLimit) (hun : un + 8 < cLine)
    {c : Nat → Nat} {n : Int} {tr : Tok} (N : News h₀ L s.heap (acwL w c n tr)) (hn : @Ne Nat (c 11) (c 12))
    (hret : ∀ (h' : Heap) (tk' : Nat) (tr' : Tok), Fr h₀ L h' m → News h₀ L h' (acwL w c 0 tr') → Kept ([c 11, c 12]) s.heap h' →  Q .none { s with heap := h', toks := tk' }) :
    wpAny (model PySem.Challenge.rw_nz0255_01.row.prog w) (ktrTop dp un gd cn cs L ca ccd cl outer) (call (.ref 229) [.ref (c 11)]) Q E s := by
  refine with_as N fun as has => ?_
  refine wpAny_call ?_
  refine code_defK (by k_asm) (by k_asm) (by k_asm) (by k_asm) (by k_asm) rfl rfl (by assumption) (by k_is) (by k_is) (lt_dp hdp) (BindsTo.of_eq rfl) (locs rfl) has ?_ rfl rfl rfl (by decide)
  intro g' L' h' PP F' N' B' X' T' HE
  (try dsimp only)
  (try k_lift B')
  (try k_fold)
  unfold acwL at N'
  k_steps
  (with_reducible rename Fr _ _ _ _ => F9)
  (with_reducible rename News _ _ _ _ => N9)
  exact HE _ _ _ _ F9 N9 fun F8 N8 K8 => hret _ _ _ F8 N8 (kept_as has K8)
theorem rr4 {w : World} {mean : ExcName → Option Value} {mg mb : Str → Option Value} {dp un : Nat} {gd : Option (List Code)} {outer : List Env} {A₀ : Around} {base g : Heap} {L c1 c2 : Addr} {s : Shared} {m : Str → Option Value} {PP : Flow → Shared → Prop}
    (B : Below A₀ base outer g) (F : Fr g L s.heap m) (X : (hd.heap_1 w.params).In g) (T : Top hd.view_1 (looseW hd.view_1 []) mean mg mb g) (hdp : dp + 9 < recursionLimit) (hun : un + 72 < cLine)
    {c : Nat → Nat} {bs : Array UInt8} {r z : Int} {t1 t2 : Tok} {tr : Tok} {FX : List (Addr × Obj)} {o2 : Obj} (N : News g L s.heap ((c2, o2) :: ((acwL w c ((0 : Nat) : Int) tr ++ sinkL w c bs r z t1 t2) ++ FX))) (hO : ∀ p ∈ FX, p.1 ∉ acA c) (h2 : c2 ∉ acA c) (hD : (acA c).Nodup) (hw : m (Str.ofString "writer") = some (.ref (c 11)))
    (next : ∀ (h : Heap) (tk : Nat) (tr' : Tok), Fr g L h (m) → News g L h ((c2, o2) :: ((acwL w c ((0 : Nat) : Int) tr' ++ sinkL w c bs r z t1 t2) ++ FX)) → wpC (model PySem.Challenge.rw_nz0255_01.row.prog w) (rrA dp un gd L c1 c2 outer) (execs (rrB.drop 5) (rrE L c1 c2)) PP NoE { s with heap := h, toks := tk }) : wpC (model PySem.Challenge.rw_nz0255_01.row.prog w) (rrA dp un gd L c1 c2 outer) (execs (rrB.drop 4) (rrE L c1 c2)) PP NoE s := by
  obtain ⟨sh, sg, sd, st, so⟩ := s
  dsimp only at F N next ⊢
  refine k_stmt ?_
  k_fold
  k_steps
  refine ⟨?_⟩
  (with_reducible rename Fr _ _ _ _ => F5)
  (with_reducible rename News _ _ _ _ => N5)
  refine wstart_spec (by k_asm) (by k_asm) (by assumption) (by k_asm) rfl (room_lt (j := 1) hdp (by decide)) (room_lt (j := 8) hun (by decide)) (news_left (mid_l N5)) (ac_nd hD).2.2.2 ?_
  intro h8 tk8 t8 F8 N8 K8
  have hs : ∀ a ∈ [c 11, c 12], a ∈ acA c := (fm (.head _) (fm (.tail _ (.head _)) (List.forall_mem_nil _)))
  have hk : ∀ p ∈ sinkL w c bs r z t1 t2, p.1 ∉ [c 11, c 12] := fun p hp q => by
    have z := addr_sink hp
    rcases List.mem_cons.mp q with q | q
    · exact (ac_nd hD).1 (q ▸ z)
    · exact (ac_nd hD).2.1 (List.mem_singleton.mp q ▸ z)
  have N9 := mid_keep N5 K8 (fun q => h2 (hs _ q)) (news_app N8 (keep_off (news_right (mid_l N5)) K8 hk)) (fun p hp q => hO p hp (hs _ q))
  clear N5 N8 K8
  k_steps
  refine ⟨?_⟩
  (try dsimp only)
  exact next _ _ _ (by assumption) (by assumption)
/-! R5 -/
/-- the writer's loop -/
inductive wrJ2I (w : World) (c : Nat → Nat) (p2 : Addr × Obj) (FX : List (Addr × Obj)) (m0 : Str → Option Value) (many : Nat) (tl : Int) (i : Nat) (m : Str → Option Value) (nw : List (Addr × Obj)) : Prop
  | mk : ∀ rv bs r z t t' tr, (m = upd (Str.ofString "row") rv m0) → (nw = p2 :: ((acwL w c ((wn many i : Nat) : Int) tr ++ sinkL w c bs r z t t') ++ FX)) → (WOk (wb many tl i) bs r z) → (z < 8) → wrJ2I w c p2 FX m0 many tl i m nw
noncomputable def wrJ2 (w : World) (c : Nat → Nat) (p2 : Addr × Obj) (FX : List (Addr × Obj)) (m0 : Str → Option Value) (many : Nat) (tl : Int) (i : Nat) (m : Str → Option Value) (nw : List (Addr × Obj)) : Prop := Stop (wrJ2I w c p2 FX m0 many tl i m nw)
theorem rr5 {w : World} {mean : ExcName → Option Value} {mg mb : Str → Option Value} {dp un : Nat} {gd : Option (List Code)} {outer : List Env} {A₀ : Around} {base g : Heap} {L c1 c2 : Addr} {s : Shared} {m : Str → Option Value} {PP : Flow → Shared → Prop}
    (B : Below A₀ base outer g) (F : Fr g L s.heap m) (X : (hd.heap_1 w.params).In g) (T : Top hd.view_1 (looseW hd.view_1 []) mean mg mb g) (hdp : dp + 9 < recursionLimit) (hun : un + 72 < cLine)
    {c : Nat → Nat} {bs : Array UInt8} {r z : Int} {t1 t2 : Tok} {e : Nat → Nat} {rz : List (Addr × Tok × Tok × Tok)} {cs' : List (Addr × Tok × Tok)} {o to : Obj} {tt : Nat → Tok} {tr : Tok} {xv : Nat → Value} {rs : List Rw} {rl : Addr} {many nr : Nat} {tl : Int} {FX : List (Addr × Obj)} {o2 : Obj} (N : News g L s.heap ((c2, o2) :: ((acwL w c ((0 : Nat) : Int) tr ++ sinkL w c bs r z t1 t2) ++ FX))) (hT : ∀ p ∈ ((c 14, keyObj (c 19, c 20)) :: tabsL w c e rz cs' o to tt), p ∈ FX) (hO : ∀ p ∈ FX, p.1 ∉ acA c) (h2 : c2 ∉ acA c) (ht : Tab PySem.Challenge.rw_nz0255_01.row.prog w e rz cs' o) (hto : TabObj PySem.Challenge.rw_nz0255_01.row.prog w (e 12) (e 0) to) (hD : (acA c).Nodup) (W : WOk [] bs r z) (hz8 : z < 8) (hm : many ≤ 90) (h7 : tl.natAbs ≤ 7) (hS : ∀ p ∈ scanL w c xv 1 3 0, p ∈ FX) (hR : ∀ p ∈ rwL rs, p ∈ FX) (hl : (rl, listOf (rwR rs).toArray nr) ∈ FX) (hv : rs.map (·.v) = vals many tl) (hw : m (Str.ofString "writer") = some (.ref (c 11))) (hrw : m (Str.ofString "rows") = some (.ref rl))
    (next : ∀ (h : Heap) (tk : Nat) (rv : Option Value) (bs' : Array UInt8) (r' z' : Int) (t1' t2' tr' : Tok), Fr g L h (upd (Str.ofString "row") rv m) → News g L h ((c2, o2) :: ((acwL w c ((wn many rs.length : Nat) : Int) tr' ++ sinkL w c bs' r' z' t1' t2') ++ FX)) → WOk (wb many tl rs.length) bs' r' z' → z' < 8 → wpC (model PySem.Challenge.rw_nz0255_01.row.prog w) (rrA dp un gd L c1 c2 outer) (execs (rrB.drop 6) (rrE L c1 c2)) PP NoE { s with heap := h, toks := tk }) : wpC (model PySem.Challenge.rw_nz0255_01.row.prog w) (rrA dp un gd L c1 c2 outer) (execs (rrB.drop 5) (rrE L c1 c2)) PP NoE s := by
  obtain ⟨sh, sg, sd, st, so⟩ := s
  dsimp only at F N next ⊢
  refine c_execs_cons (c_for_list (by k_asm) rfl ?_)
  k_steps
  refine ⟨⟨_, _, rwR rs, _, _, _, rfl, F, N, .tail _ (List.mem_append_right _ hl), rfl, rfl, wrJ2 w c (c2, o2) FX m many tl, ⟨⟨m (Str.ofString "row"), _, _, _, _, _, _, map_same _ rfl, rfl, W, hz8⟩⟩, ?_, ?_⟩⟩
  · rintro I i v m1 nw hi ⟨⟨rv, bs, r, z, t, t', tr, rfl, rfl, W, hz8⟩⟩ _ it h tk hc F7 N7 off
    obtain ⟨y, hy, rfl, hyS, hyM⟩ := row_at hi
    have hst := row_val hv hy
    obtain ⟨e1, e2⟩ := w_step hst
    clear F N
    have hX : ∀ p ∈ (scanL w c xv 1 3 0 ++ [(y.a, y.o)]) ++ ((c 14, keyObj (c 19, c 20)) :: tabsL w c e rz cs' o to tt), p ∈ FX := fun p hp => (List.mem_append.mp hp).elim (fun q => (List.mem_append.mp q).elim (hS p) (fun q => by rw [List.mem_singleton.mp q]; exact hR _ hyS)) (hT p)
    k_steps
    refine ⟨?_⟩
    (try dsimp only)
    refine c_execs_cons (c_Expr (k_meth ?_))
    k_steps
    refine ⟨?_⟩
    (try dsimp only)
    refine c_callK (K := hd.heap_1 w.params) (by k_is) ?_
    refine c_spliced_cons (k_arg ?_)
    k_steps
    refine ⟨?_⟩
    refine c_spliced_cons (k_arg ?_)
    k_steps
    refine ⟨?_⟩
    refine c_spliced_nil ⟨by k_in, ?_⟩
    (try dsimp only [List.cons_append, List.nil_append])
    (with_reducible rename Fr _ _ _ _ => F5)
    (with_reducible rename News _ _ _ _ => N5)
    refine code2_spec (u0 := y.u 0) (u1 := y.u 1) (u2 := y.u 2) (u3 := y.u 3) (vv := y.v) (xv := xv) (by k_asm) (by k_asm) (by assumption) (by k_asm) rfl (room_lt (j := 6) hdp (by decide)) (room_lt (j := 48) hun (by decide)) (mid_l (news_tail N5)) (news_of (mid_r (news_tail N5)) hX) (off_of_sub hO hX) ht hto hD W hz8 (wn_le hm) (row_small h7 hst) (Nat.lt_of_le_of_lt (wb_len hm h7) (by decide)) ?_
    intro h6 tk6 bs6 r6 z6 t6 u6 q6 F6 N6 K6 W6 hz6
    rw [← e1] at N6
    rw [← e2] at W6
    obtain ⟨N9, off9⟩ := turn_mid N5 off K6 h2 N6 rfl rfl hO
    refine ⟨rfl, ?_⟩
    refine c_execs_nil ?_
    exact ⟨_, _, _, _, rfl, F6, N9, off9, .tail _ (List.mem_append_right _ hl), ⟨⟨_, _, _, _, _, _, _, upd_upd, rfl, W6, hz6⟩⟩⟩
  · rw [List.length_map]
    rintro m1 nw ⟨⟨rv, bs, r, z, t, t', tr, rfl, rfl, W, hz8⟩⟩ h tk F7 N7
    exact next _ _ _ _ _ _ _ _ _ F7 N7 W hz8
/-! R12 -/
theorem rr12 {w : World} {mean : ExcName → Option Value} {mg mb : Str → Option Value} {dp un : Nat} {gd : Option (List Code)} {outer : List Env} {A₀ : Around} {base g : Heap} {L c1 c2 : Addr} {s : Shared} {m : Str → Option Value} {PP : Flow → Shared → Prop}
    (B : Below A₀ base outer g) (F : Fr g L s.heap m) (X : (hd.heap_1 w.params).In g) (T : Top hd.view_1 (looseW hd.view_1 []) mean mg mb g) (hdp : dp + 9 < recursionLimit) (hun : un + 72 < cLine)
    {c : Nat → Nat} {xv : Nat → Value} {ac : Addr} {ta : Tok} {nac : Nat} {e : Nat → Nat} {rs : List (Addr × Tok × Tok × Tok)} {cs' : List (Addr × Tok × Tok)} {o to : Obj} {tt : Nat → Tok} {FX : List (Addr × Obj)} {o2 : Obj} {v2 : Option Value} (N : News g L s.heap ((c2, o2) :: FX)) (hd2 : o2.data = .cell v2) (hoff : ∀ p ∈ FX, p.1 ≠ c2) (hS : ∀ p ∈ scanL w c xv 1 3 0, p ∈ FX) (hA : (ac, listOf #[.int 0 ta] nac) ∈ FX) (hT : ∀ p ∈ tabsL w c e rs cs' o to tt, p ∈ FX) (ht : Tab PySem.Challenge.rw_nz0255_01.row.prog w e rs cs' o) (hto : TabObj PySem.Challenge.rw_nz0255_01.row.prog w (e 12) (e 0) to) (hx2 : xv 2 = .ref ac) (hsc : m (Str.ofString "scan") = some (.ref (c 21))) (htb : m (Str.ofString "tables") = some (.ref (c 8)))
    (next : ∀ (h : Heap) (tk : Nat) (d : Nat → Nat) (tr : Tok) (o2' : Obj), Fr g L h (m) → News g L h ((c2, o2') :: (acr0 w d (c 21) (e 0) tr ++ FX)) → o2'.data = .cell (some (.ref (d 0))) → (∀ p ∈ FX, p.1 ∉ [d 0, d 1]) → c2 ∉ [d 0, d 1] → @Ne Nat (d 0) (d 1) → wpC (model PySem.Challenge.rw_nz0255_01.row.prog w) (rrA dp un gd L c1 c2 outer) (execs (rrB.drop 13) (rrE L c1 c2)) PP NoE { s with heap := h, toks := tk }) : wpC (model PySem.Challenge.rw_nz0255_01.row.prog w) (rrA dp un gd L c1 c2 outer) (execs (rrB.drop 12) (rrE L c1 c2)) PP NoE s := by
  obtain ⟨sh, sg, sd, st, so⟩ := s
  dsimp only at F N next ⊢
  refine k_stmt ?_
  k_fold
  k_steps
  refine ⟨?_⟩
  (with_reducible rename Fr _ _ _ _ => F5)
  (with_reducible rename News _ _ _ _ => N5)
  refine newacr_spec (xv := xv) (ac := ac) (ta := ta) (nac := nac) (by k_asm) (by k_asm) (by assumption) (by k_asm) rfl (room_lt (j := 4) hdp (by decide)) (room_lt (j := 32) hun (by decide)) (news_of N5 fun p hp => .tail _ ((List.mem_append.mp hp).elim (fun hp => (List.mem_append.mp hp).elim (hS p) fun q => by rw [List.mem_singleton.mp q]; exact hA) (hT p))) ht hto hx2 ?_
  intro h8 tk8 d tr F8 N8 K8 hf8 hdd
  have N9 := keep_new N5 K8 N8
  have hO8 := off_new N5 hf8
  clear N5 N8 K8
  have N10 : News g L h8 ((c2, o2) :: (acr0 w d (c 21) (e 0) tr ++ FX)) := news_sub N9 ((fm (List.mem_append_right (acr0 w d (c 21) (e 0) tr) (.head _)) (fun p hp => (List.mem_append.mp hp).elim (fun q => List.mem_append_left _ q) (fun q => List.mem_append_right (acr0 w d (c 21) (e 0) tr) (.tail _ q)))))
  clear N9
  have hc2 : c2 ∉ [d 0, d 1] := fun q => hO8 _ (.head _) _ q rfl
  have hoff2 : ∀ p ∈ acr0 w d (c 21) (e 0) tr ++ FX, p.1 ≠ c2 := fun p hp => (List.mem_append.mp hp).elim (fun q e => hc2 (by
    rcases List.mem_cons.mp q with rfl | q
    · exact e ▸ .head _
    · rw [List.mem_singleton.mp q] at e; exact e ▸ .tail _ (.head _))) (hoff p)
  k_steps
  refine ⟨?_⟩
  (try dsimp only)
  exact next _ _ d tr _ (by assumption) (by assumption) (by assumption) (fun p hp q => hO8 p (.tail _ hp) _ q rfl) hc2 hdd
/-! R14 -/
section
local macro_rules | `(tactic| walk_at "compareOp NotEq ref ref") => `(tactic| (k_here; refine stop_any ?_))
theorem gen_comp {prog : Program} {w : World} {A : Around} {E : Value → Shared → Prop} {s : Shared} {h₀ : Heap} {L : Addr} {m : Str → Option Value} {env : Env} {elt iter : Expr} {x : Str} {px : Pos} {scope : Scope} {cl : List (Str × Addr)} {pos : Pos} {Q : Value → Shared → Prop} (F₀ : Fr h₀ L s.heap m)
    (hclos : closureFor scope env = pure cl) (hcell : ∀ y ∈ scope.names, y.2 ≠ .cell) (hkind : scope.kind = .function)
    (hnames : ∀ y ∈ scope.names, y.2 = .local → scope.names.lookup y.1 = some .local) (hx : scope.names.lookup x = some .local)
    (h : wpAny (model prog w) A (eval iter env) (fun xv s₁ => Stop (LCg.CompSrc prog w A h₀ L m env elt x scope cl (fun s₂ => LCg.FinE h₀ L m s₂ Q) xv s₁)) E s)
    (hs : ∀ x, foldedSetIterable iter env x = pure x := by intro _; rfl) :
    wpAny (model prog w) A (eval (.ListComp elt [⟨.Name x px, iter, [], 0⟩] scope pos) env) Q E s :=
  LCg.ListComp_U F₀ hclos hcell hkind hnames hx (wpAny_mono h (fun _ _ z => z.out) fun _ _ z => z) hs
local macro_rules | `(tactic| walk_at "eval ListComp") => `(tactic| (k_here; k_dflt (refine gen_comp (F₀ := by k_asm) (by with_unfolding_all rfl) (by decide) (by rfl) (by decide) (by rfl) ?_)))
theorem off3_all {I C D : Addr} {l : List (Addr × Obj)} (h : LCg.Off3 I C D l) : ∀ p ∈ l, p.1 ≠ I ∧ p.1 ≠ C ∧ p.1 ≠ D := fun p hp => h.mem p hp
/-- a turn of a comprehension whose element is a call that turns a part of the ledger and makes a new object -/
theorem comp_turn {h₀ h h' : Heap} {L I C D T : Addr} {oI oC oD oT : Obj} {p : Addr × Obj} {a a' b : List (Addr × Obj)} {as : List Addr} (N : News h₀ L h ((I, oI) :: (C, oC) :: (D, oD) :: (p :: (a ++ b)))) (off : LCg.Off3 I C D (p :: (a ++ b))) (k : Kept as h h') (ea : a.map (·.1) = as) (ea' : a'.map (·.1) = as)
    (hp : p.1 ∉ as) (hb : ∀ q ∈ b, q.1 ∉ as) (N' : News h₀ L h' ((T, oT) :: a')) (hT : h.get? T = none) : News h₀ L h' ((I, oI) :: (C, oC) :: (D, oD) :: (p :: (a' ++ (b ++ [(T, oT)])))) ∧ LCg.Off3 I C D (p :: (a' ++ (b ++ [(T, oT)]))) := by
  have hal := off3_all off
  have hno : ∀ x ∈ as, x ≠ I ∧ x ≠ C ∧ x ≠ D := fun x hx => by
    rw [← ea] at hx
    obtain ⟨q, hq, rfl⟩ := List.mem_map.mp hx
    exact hal q (.tail _ (List.mem_append_left _ hq))
  have hne : ∀ q ∈ (I, oI) :: (C, oC) :: (D, oD) :: (p :: (a ++ b)), T ≠ q.1 := fun q hq e => by
    have := (N q hq).1
    rw [← e, hT] at this
    cases this
  refine ⟨keep_cons N k (fun q => (hno _ q).1 rfl) (keep_cons (news_tail N) k (fun q => (hno _ q).2.1 rfl) (keep_cons (news_tail (news_tail N)) k (fun q => (hno _ q).2.2 rfl) (keep_cons (news_tail (news_tail (news_tail N))) k hp (news_app (news_tail N') (news_app (keep_off (mid_r (news_tail (news_tail (news_tail N)))) k hb) ((fm (N' _ (.head _)) (List.forall_mem_nil _)))))))), Off3.of fun q hq => ?_⟩
  rcases List.mem_cons.mp hq with rfl | hq
  · exact hal _ (.head _)
  rcases List.mem_append.mp hq with hq | hq
  · exact hno _ (by rw [← ea']; exact List.mem_map_of_mem hq)
  rcases List.mem_append.mp hq with hq | hq
  · exact hal q (.tail _ (List.mem_append_right _ hq))
  · rw [List.mem_singleton.mp hq]
    exact ⟨hne _ (.head _), hne _ (.tail _ (.head _)), hne _ (.tail _ (.tail _ (.head _)))⟩
theorem rwL_snoc {ds : List Rw} {y : Rw} : rwL (ds ++ [y]) = rwL ds ++ [(y.a, y.o)] := List.map_append
theorem rwR_snoc {ds : List Rw} {y : Rw} : rwR (ds ++ [y]) = rwR ds ++ [.ref y.a] := List.map_append
theorem none_off {h₀ h : Heap} {L T : Addr} {l : List (Addr × Obj)} (N : News h₀ L h l) (hT : h.get? T = none) : ∀ p ∈ l, p.1 ≠ T := fun p hp e => by
  have := (N p hp).1
  rw [e, hT] at this
  cases this
noncomputable def rowD (v : Int) : PyData := .list [.int 7, .int 0, .int v, .int 0]
theorem reads_rows {h : Heap} : ∀ {ds : List Rw}, (∀ p ∈ rwL ds, h.get? p.1 = some p.2) → ∃ as, ReadsAll h (rwR ds) ((ds.map (·.v)).map rowD) as
  | [], _ => ⟨_, .nil⟩
  | y :: ds, H => by
    obtain ⟨as, q⟩ := reads_rows (ds := ds) fun p hp => H p (.tail _ hp)
    exact ⟨_, .cons (reads_list_at (H _ (.head _)) rfl rfl (.cons (.int _ _) (.cons (.int _ _) (.cons (.int _ _) (.cons (.int _ _) .nil))))) q⟩
theorem rows_eqv : ∀ vs : List Int, PyData.eqvAll (vs.map rowD) (vs.map rowD) = true
  | [] => by simp [PyData.eqvAll]
  | v :: vs => by simp [PyData.eqvAll, PyData.eqv, rowD, rows_eqv vs]
theorem rows_can : ∀ vs : List Int, PyData.canLayAll0 (vs.map rowD) = true
  | [] => by simp [PyData.canLayAll0]
  | v :: vs => by simp [PyData.canLayAll0, PyData.canLay0, rowD, rows_can vs]
theorem rows_depth : ∀ vs : List Int, PyData.depthAll (vs.map rowD) ≤ 2
  | [] => by simp [PyData.depthAll]
  | v :: vs => by
    have := rows_depth vs
    simp [PyData.depthAll, PyData.depth, rowD]
    exact Nat.max_le.mpr ⟨by decide, this⟩
theorem rows_shaped (vs : List Int) : SeqAt.shaped (.list (vs.map rowD)) = true := by
  have := rows_depth vs
  simp [SeqAt.shaped, PyData.canLay0, PyData.depth, rows_can]
  exact Nat.le_trans this (by decide)
/-- two lists of the same rows -/
theorem rows_ne {prog : Program} {w : World} {A : Around} {E : Value → Shared → Prop} {s : Shared} {g : Heap} {L a b : Addr} {n k : Nat} {xs ys : List Rw} {news : List (Addr × Obj)} {Q : Value → Shared → Prop} (N : News g L s.heap news) (ha : (a, listOf (rwR xs).toArray n) ∈ news) (hb : (b, listOf (rwR ys).toArray k) ∈ news)
    (hx : ∀ p ∈ rwL xs, p ∈ news) (hy : ∀ p ∈ rwL ys, p ∈ news) (e : xs.map (·.v) = ys.map (·.v)) (hu : A.units + 64 < cLine) (h : Q (.bool false) s) : wpAny (model prog w) A (compareOp .NotEq (.ref a) (.ref b)) Q E s := by
  obtain ⟨as, qa⟩ := reads_rows (h := s.heap) fun p hp => (N p (hx p hp)).1
  obtain ⟨bs, qb⟩ := reads_rows (h := s.heap) fun p hp => (N p (hy p hp)).1
  rw [← e] at qb
  refine ne_dataH (reads_list_at (N _ ha).1 rfl rfl qa) (reads_list_at (N _ hb).1 rfl rfl qb) (rows_shaped _) (rows_shaped _) hu ?_
  rw [show PyData.eqv (.list ((xs.map (·.v)).map rowD)) (.list ((xs.map (·.v)).map rowD)) = true by rw [PyData.eqv]; exact rows_eqv _]
  exact h
/-- what is read back, so far -/
noncomputable def rdJ3 (w : World) (c d b e : Nat → Nat) (ol : List UInt8) (ps ks : Nat → Nat) (p2 : Addr × Obj) (FX : List (Addr × Obj)) (rs : List Rw) (i : Nat) (ys : List Value) (nw : List (Addr × Obj)) : Prop :=
  ∃ ds tr t1, nw = p2 :: ((acrL w d (c 21) (e 0) (b 0) ((ks i : Nat) : Int) tr ++ readerL w b ol (ps i) t1) ++ (FX ++ rwL ds)) ∧ ys = rwR ds ∧ (∀ p ∈ rwL ds, p.1 ∉ arA d b) ∧ ds.map (·.v) = (rs.take i).map (·.v)
theorem rr14 {w : World} {mean : ExcName → Option Value} {mg mb : Str → Option Value} {dp un : Nat} {gd : Option (List Code)} {outer : List Env} {A₀ : Around} {base g : Heap} {L c1 c2 : Addr} {s : Shared} {m : Str → Option Value} {PP : Flow → Shared → Prop}
    (B : Below A₀ base outer g) (F : Fr g L s.heap m) (X : (hd.heap_1 w.params).In g) (T : Top hd.view_1 (looseW hd.view_1 []) mean mg mb g) (hdp : dp + 9 < recursionLimit) (hun : un + 72 < cLine)
    {c d b : Nat → Nat} {xv : Nat → Value} {e : Nat → Nat} {rz : List (Addr × Tok × Tok × Tok)} {cs' : List (Addr × Tok × Tok)} {o to : Obj} {tt : Nat → Tok} {tr t1 : Tok} {rs : List Rw} {rl : Addr} {nr : Nat} {FX : List (Addr × Obj)} {o2 : Obj} {ol : List UInt8} {many : Nat} {tl : Int} {ps ks : Nat → Nat} (N : News g L s.heap ((c2, o2) :: ((acrL w d (c 21) (e 0) (b 0) ((ks 0 : Nat) : Int) tr ++ readerL w b ol (ps 0) t1) ++ FX))) (hd2 : o2.data = .cell (some (.ref (d 0)))) (hO : ∀ p ∈ FX, p.1 ∉ arA d b) (h2 : c2 ∉ arA d b) (hD : (arA d b).Nodup) (hS : ∀ p ∈ scanL w c xv 1 3 0, p ∈ FX) (hT : ∀ p ∈ tabsL w c e rz cs' o to tt, p ∈ FX) (ht : Tab PySem.Challenge.rw_nz0255_01.row.prog w e rz cs' o) (hR : ∀ p ∈ rwL rs, p ∈ FX) (hl : (rl, listOf (rwR rs).toArray nr) ∈ FX) (hlen : rs.length ≤ 100) (hol : ol.length ≤ 1000) (hx : ∀ i y, rs[i]? = some y → Nxt ol (ps i) (ks i) y.v (ps (i + 1)) (ks (i + 1))) (hrw : m (Str.ofString "rows") = some (.ref rl))
    (next : ∀ (h : Heap) (tk : Nat) (tr' t1' : Tok), Fr g L h (m) → News g L h ((c2, o2) :: ((acrL w d (c 21) (e 0) (b 0) ((ks rs.length : Nat) : Int) tr' ++ readerL w b ol (ps rs.length) t1') ++ FX)) → wpC (model PySem.Challenge.rw_nz0255_01.row.prog w) (rrA dp un gd L c1 c2 outer) (execs (rrB.drop 15) (rrE L c1 c2)) PP NoE { s with heap := h, toks := tk }) : wpC (model PySem.Challenge.rw_nz0255_01.row.prog w) (rrA dp un gd L c1 c2 outer) (execs (rrB.drop 14) (rrE L c1 c2)) PP NoE s := by
  refine hideG fun G9 hG9 => ?_
  obtain ⟨sh, sg, sd, st, so⟩ := s
  refine hG9 ?_
  clear hG9 G9
  dsimp only at F N next ⊢
  refine c_execs_cons (k_if ?_)
  k_fold
  k_steps
  refine ⟨LCg.CompSrc.ledger rfl (by k_asm) N (.tail _ (List.mem_append_right _ hl)) (by rw [List.size_toArray, List.length_map, sizeLine_eq]; exact Nat.le_trans (by assumption) (by decide)) fun g' => ?_⟩
  rw [List.size_toArray, List.length_map]
  refine comp_ind (rdJ3 w c d b e ol ps ks (c2, o2) FX rs) ⟨[], _, _, by rw [show rwL [] = [] from rfl, List.append_nil], rfl, (fun _ h => nomatch h), rfl⟩ ?_ ?_
  · rintro i ys nw hi ⟨ds, tr, t1, rfl, rfl, hdo, hds⟩ v I oI C oC D m₂ h tk E' hv hNs hm₂ F₁ N₁ off ne
    obtain ⟨y, hy, rfl, _, _⟩ := row_at (List.getElem?_toArray ▸ hv)
    clear F N
    k_steps
    refine ⟨?_⟩
    (with_reducible rename Fr _ _ _ _ => F5)
    (with_reducible rename News _ _ _ _ => N5)
    (with_reducible rename And _ _ => l9)
    have hrow := off_no (fun p hp => all_ne l9.2.2.2.2 p (List.mem_append_left (as := (acrL w d (c 21) (e 0) (b 0) ((ks i : Nat) : Int) tr ++ readerL w b ol (ps i) t1)) _ hp))
    have hFT : ∀ p ∈ FX, p ∈ (acrL w d (c 21) (e 0) (b 0) ((ks i : Nat) : Int) tr ++ readerL w b ol (ps i) t1) ++ (FX ++ rwL ds) := fun p hp => List.mem_append_right _ (List.mem_append_left _ hp)
    have up := fun (x : Addr × Obj) (hx : x ∈ FX) => N5 x (.tail _ (.tail _ (.tail _ (.tail _ (.tail _ (hFT x hx))))))
    refine acread_spec (c := c) (d := d) (b := b) (e := e) (rs := rz) (cs' := cs') (o := o) (tt := tt) (xv := xv) (by k_asm) (by k_asm) (by assumption) (by k_asm) rfl (room_lt (j := 6) hdp (by decide)) (room_lt (j := 48) hun (by decide)) (mid_l (news_tail (news_tail (news_tail (news_tail N5))))) (news_app (news_app (fun p hp => up p (hS p hp)) ((fm (N5 _ (.head _)) (List.forall_mem_nil _)))) (fun p hp => up p (hT p (.tail _ (.tail _ hp))))) (fun p hp => (List.mem_append.mp hp).elim (fun q => (List.mem_append.mp q).elim (fun q => hO p (hS p q)) (fun q => by rw [List.mem_singleton.mp q]; exact hrow)) (fun q => hO p (hT p (.tail _ (.tail _ q))))) ht hD (hx i y hy) hol ?_
    intro h8 tk8 T w0 w1 w2 w3 t2 tr2 n2 F8 N8 K8 Z8
    have hb9 : ∀ q ∈ FX ++ rwL ds, q.1 ∉ arA d b := List.forall_mem_append.mpr ⟨hO, hdo⟩
    obtain ⟨N9, off9⟩ := comp_turn (news_tail N5) off K8 rfl rfl h2 hb9 N8 Z8
    have hTo : T ∉ arA d b := off_no (a := (acrL w d (c 21) (e 0) (b 0) ((ks i : Nat) : Int) tr ++ readerL w b ol (ps i) t1)) fun p hp => none_off (mid_l (news_tail (news_tail (news_tail (news_tail N5))))) Z8 p hp
    refine LCg.CompEnd.intro F8 N9 _ (fun p hp => hp) off9 (.inr ⟨_, .tail _ (List.mem_append_right _ (List.mem_append_left _ (List.mem_append_left _ hl))), rfl, _, rfl⟩) ⟨ds ++ [⟨T, y.v, lst [w0, w1, w2, w3], n2⟩], tr2, t2, ?_, ?_, ?_, ?_⟩
    · rw [rwL_snoc, List.append_assoc FX (rwL ds)]
      rfl
    · rw [rwR_snoc]
    · rw [rwL_snoc]
      exact List.forall_mem_append.mpr ⟨hdo, (fm (hTo) (List.forall_mem_nil _))⟩
    · rw [List.map_append, hds, List.take_add_one, hy, List.map_append]
      rfl
  · rintro ys nw ⟨ds, tr, t1, rfl, rfl, hdo, hds⟩ D h tk F₁ N₁ off
    rw [List.take_length] at hds
    k_steps
    refine ⟨?_⟩
    refine rows_ne N₁ (.head _) (.tail _ (.tail _ (List.mem_append_right _ (List.mem_append_left _ hl)))) (fun p hp => .tail _ (.tail _ (List.mem_append_right _ (List.mem_append_right _ hp)))) (fun p hp => .tail _ (.tail _ (List.mem_append_right _ (List.mem_append_left _ (hR p hp))))) hds (room_lt (j := 64) hun (by decide)) ?_
    k_steps
    refine ⟨⟨fun hb => absurd hb (by decide), fun _ => ?_⟩⟩
    refine c_execs_nil ?_
    refine next _ _ tr t1 F₁ (fun p hp => ?_)
    refine N₁ p (.tail _ ?_)
    rcases List.mem_cons.mp hp with rfl | hp
    · exact .head _
    rcases List.mem_append.mp hp with hp | hp
    · exact .tail _ (List.mem_append_left _ hp)
    · exact .tail _ (List.mem_append_right _ (List.mem_append_left _ hp))
end
/-! R16 -/
theorem rr16 {w : World} {mean : ExcName → Option Value} {mg mb : Str → Option Value} {dp un : Nat} {gd : Option (List Code)} {outer : List Env} {A₀ : Around} {base g : Heap} {L c1 c2 : Addr} {s : Shared} {m : Str → Option Value} {PP : Flow → Shared → Prop}
    (B : Below A₀ base outer g) (F : Fr g L s.heap m) (X : (hd.heap_1 w.params).In g) (T : Top hd.view_1 (looseW hd.view_1 []) mean mg mb g) (hdp : dp + 9 < recursionLimit) (hun : un + 72 < cLine)
    {c : Nat → Nat} {xv : Nat → Value} {ac : Addr} {ta : Tok} {nac : Nat} {e : Nat → Nat} {rs : List (Addr × Tok × Tok × Tok)} {cs' : List (Addr × Tok × Tok)} {o to : Obj} {tt : Nat → Tok} {FX : List (Addr × Obj)} {o1 : Obj} {ol : List UInt8} {many : Nat} {tm tq : Tok} (N : News g L s.heap ((c1, o1) :: FX)) (XB : (hd.heap_1 w.params).In base) (TB : Top hd.view_1 (looseW hd.view_1 []) mean mg mb base)
    (hM : o1.data = .cell (some (.int (many : Int) tm))) (hS : ∀ p ∈ scanL w c xv 1 3 0, p ∈ FX) (hA : (ac, listOf #[.int 0 ta] nac) ∈ FX) (hT : ∀ p ∈ tabsL w c e rs cs' o to tt, p ∈ FX) (ht : Tab PySem.Challenge.rw_nz0255_01.row.prog w e rs cs' o) (hto : TabObj PySem.Challenge.rw_nz0255_01.row.prog w (e 12) (e 0) to) (hx2 : xv 2 = .ref ac) (hsc : m (Str.ofString "scan") = some (.ref (c 21))) (htb : m (Str.ofString "tables") = some (.ref (c 8)))
    (ho : m (Str.ofString "octets") = some (.bytes ol.toArray tq)) (hol : ol.length ≤ 1000) (hx : 2 ≤ many → ∃ i' k', Nxt ol 0 0 0 i' (k' + 1))
    (fin : ∀ (h : Heap) (tk : Nat) (g' : Heap), KtsTurn (outer.filterMap (·.frame)) g g' → Fr g' L h m → PP (.ret (.bool true)) { s with heap := h, toks := tk }) : wpC (model PySem.Challenge.rw_nz0255_01.row.prog w) (rrA dp un gd L c1 c2 outer) (execs (rrB.drop 16) (rrE L c1 c2)) PP NoE s := by
  obtain ⟨sh, sg, sd, st, so⟩ := s
  dsimp only at F N fin ⊢
  refine k_stmt ?_
  k_fold
  k_steps
  · refine ⟨?_⟩
    (try dsimp only)
    rw [decide_eq_true (by assumption : (many : Int) < 2)]
    exact fin _ _ g .refl (by assumption)
  · have h2 : 2 ≤ many := by omega
    obtain ⟨i', k', hn⟩ := hx h2
    refine ⟨?_⟩
    (with_reducible rename Fr _ _ _ _ => F5)
    (with_reducible rename News _ _ _ _ => N5)
    refine newacr_spec (xv := xv) (ac := ac) (ta := ta) (nac := nac) (by k_asm) (by k_asm) (by assumption) (by k_asm) rfl (room_lt (j := 4) hdp (by decide)) (room_lt (j := 32) hun (by decide)) (news_of N5 fun p hp => .tail _ ((List.mem_append.mp hp).elim (fun hp => (List.mem_append.mp hp).elim (hS p) fun q => by rw [List.mem_singleton.mp q]; exact hA) (hT p))) ht hto hx2 ?_
    intro h8 tk8 d tr F8 N8 K8 hf8 hdd
    have N9 := keep_new N5 K8 N8
    have hO8 := off_new N5 hf8
    clear N5 N8 K8
    k_steps
    refine ⟨?_⟩
    (with_reducible rename Fr _ _ _ _ => F5)
    (with_reducible rename News _ _ _ _ => N5)
    refine leftover_spec (c := c) (xv := xv) (rs := rs) (cs' := cs') (o := o) (tt := tt) (by k_asm) (by k_asm) (by assumption) (by k_asm) rfl (room_lt (j := 9) hdp (by decide)) (room_lt (j := 72) hun (by decide)) (news_left (a := acr0 w d (c 21) (e 0) tr) N5) (news_of (news_right (a := acr0 w d (c 21) (e 0) tr) N5) fun p hp => .tail _ ((List.mem_append.mp hp).elim (hS p) fun q => hT p (.tail _ (.tail _ q)))) (fun p hp q => hO8 p (.tail _ ((List.mem_append.mp hp).elim (hS p) fun q => hT p (.tail _ (.tail _ q)))) _ q rfl) ht hdd hn hol XB TB ?_
    intro h9 tk9 g9 b9
    k_steps
    refine ⟨?_⟩
    (try dsimp only)
    exact fin _ _ g9 b9.turn b9.fr
/-! R2 -/
section
local macro_rules | `(tactic| walk_at "eval ListComp") => `(tactic| (k_here; k_dflt (refine gen_comp (F₀ := by k_asm) (by with_unfolding_all rfl) (by decide) (by rfl) (by decide) (by rfl) ?_)))
/-- rows of noughts, so far -/
noncomputable def zJ (p2 p1 : Addr × Obj) (FX : List (Addr × Obj)) (i : Nat) (ys : List Value) (nw : List (Addr × Obj)) : Prop :=
  ∃ ds, nw = p2 :: p1 :: (FX ++ rwL ds) ∧ ys = rwR ds ∧ ds.map (·.v) = List.replicate i 0
theorem off3_lt {I C D T : Nat} {l : List (Addr × Obj)} {o : Obj} (off : LCg.Off3 I C D l) (h : @LT.lt Nat _ I T ∧ @LT.lt Nat _ C T ∧ @LT.lt Nat _ D T) : LCg.Off3 I C D (l ++ [(T, o)]) := Off3.of fun q hq => by
  rcases List.mem_append.mp hq with hq | hq
  · exact off3_all off q hq
  · rw [List.mem_singleton.mp hq]
    exact ⟨Nat.ne_of_gt h.1, Nat.ne_of_gt h.2.1, Nat.ne_of_gt h.2.2⟩
theorem z_end {g h : Heap} {L : Addr} {m : Str → Option Value} {s₁ : Shared} {I C D T : Nat} {oI oC : Obj} {p2 p1 : Addr × Obj} {FX : List (Addr × Obj)} {ds : List Rw} {t0 t1 t2 t3 : Tok} {i tk : Nat} (F : Fr g L h m)
    (N : News g L h ((T, listOf #[.int 7 t0, .int 0 t1, .int 0 t2, .int 0 t3] 0) :: (I, oI) :: (C, oC) :: (D, LCg.lst (rwR ds)) :: p2 :: p1 :: (FX ++ rwL ds))) (l : @LT.lt Nat _ I T ∧ @LT.lt Nat _ C T ∧ @LT.lt Nat _ D T) (off : LCg.Off3 I C D (p2 :: p1 :: (FX ++ rwL ds))) (hds : ds.map (·.v) = List.replicate i 0) :
    LCg.CompEnd g L m s₁ I oI C oC D (LCg.lst (rwR ds)) (fun _ => True) (fun y nw' => zJ p2 p1 FX (i + 1) (rwR ds ++ [y]) nw') (.ref T) { s₁ with heap := h, toks := tk } := by
  have e : rwL (ds ++ [⟨T, 0, lst [t0, t1, t2, t3], 0⟩]) = rwL ds ++ [(T, listOf #[.int 7 t0, .int 0 t1, .int 0 t2, .int 0 t3] 0)] := rwL_snoc
  refine LCg.CompEnd.intro F N (p2 :: p1 :: (FX ++ rwL (ds ++ [⟨T, 0, lst [t0, t1, t2, t3], 0⟩]))) (fun p hp => ?_) ?_ trivial ⟨_, rfl, (rwR_snoc (y := ⟨T, 0, lst [t0, t1, t2, t3], 0⟩)).symm, by rw [List.map_append, hds, List.replicate_succ']; rfl⟩
  · rw [e, ← List.append_assoc] at hp
    rcases List.mem_append.mp (show p ∈ ((I, oI) :: (C, oC) :: (D, LCg.lst (rwR ds)) :: p2 :: p1 :: (FX ++ rwL ds)) ++ [(T, listOf #[.int 7 t0, .int 0 t1, .int 0 t2, .int 0 t3] 0)] from hp) with hp | hp
    · exact .tail _ hp
    · rw [List.mem_singleton.mp hp]
      exact .head _
  · rw [e, ← List.append_assoc]
    exact off3_lt (l := p2 :: p1 :: (FX ++ rwL ds)) off l
theorem z_rows {g h : Heap} {L R a b D : Addr} {oa oD : Obj} {p2 p1 : Addr × Obj} {FX : List (Addr × Obj)} {ds : List Rw} {u0 u1 u2 u3 : Tok} {tl : Int} {many : Nat} (h0 : tl ≠ 0) (hds : ds.map (·.v) = List.replicate many 0)
    (N : News g L h ((R, listOf (rwR ds ++ [Value.ref b]).toArray 0) :: (a, oa) :: (b, listOf #[.int 7 u0, .int 0 u1, .int tl u2, .int 0 u3] 0) :: (D, oD) :: p2 :: p1 :: (FX ++ rwL ds))) :
    ∃ rs : List Rw, rs.map (·.v) = vals many tl ∧ News g L h (p2 :: p1 :: (FX ++ ((R, listOf (rwR rs).toArray 0) :: rwL rs))) := by
  have e : rwL (ds ++ [⟨b, tl, lst [u0, u1, u2, u3], 0⟩]) = rwL ds ++ [(b, listOf #[.int 7 u0, .int 0 u1, .int tl u2, .int 0 u3] 0)] := rwL_snoc
  refine ⟨ds ++ [⟨b, tl, lst [u0, u1, u2, u3], 0⟩], by rw [List.map_append, hds, vals, if_neg h0]; rfl, fun p hp => ?_⟩
  rw [rwR_snoc, e] at hp
  refine N p ?_
  rcases List.mem_cons.mp hp with rfl | hp
  · exact .tail _ (.tail _ (.tail _ (.tail _ (.head _))))
  rcases List.mem_cons.mp hp with rfl | hp
  · exact .tail _ (.tail _ (.tail _ (.tail _ (.tail _ (.head _)))))
  rcases List.mem_append.mp hp with hp | hp
  · exact .tail _ (.tail _ (.tail _ (.tail _ (.tail _ (.tail _ (List.mem_append_left _ hp))))))
  rcases List.mem_cons.mp hp with rfl | hp
  · exact .head _
  rcases List.mem_append.mp hp with hp | hp
  · exact .tail _ (.tail _ (.tail _ (.tail _ (.tail _ (.tail _ (List.mem_append_right _ hp))))))
  · rw [List.mem_singleton.mp hp]
    exact .tail _ (.tail _ (.head _))
theorem rr2 {w : World} {mean : ExcName → Option Value} {mg mb : Str → Option Value} {dp un : Nat} {gd : Option (List Code)} {outer : List Env} {A₀ : Around} {base g : Heap} {L c1 c2 : Addr} {s : Shared} {m : Str → Option Value} {PP : Flow → Shared → Prop}
    (B : Below A₀ base outer g) (F : Fr g L s.heap m) (X : (hd.heap_1 w.params).In g) (T : Top hd.view_1 (looseW hd.view_1 []) mean mg mb g) (hdp : dp + 9 < recursionLimit) (hun : un + 72 < cLine)
    {FX : List (Addr × Obj)} {o1 o2 : Obj} {many : Nat} {tl : Int} {tm t0 : Tok} (N : News g L s.heap ((c2, o2) :: (c1, o1) :: FX)) (hM : o1.data = .cell (some (.int (many : Int) tm))) (hm : many ≤ 90) (ht : m (Str.ofString "tail") = some (.int tl t0))
    (next : ∀ (h : Heap) (tk : Nat) (rs : List Rw) (rl : Addr) (nr : Nat), Fr g L h (upd (Str.ofString "rows") (some (.ref rl)) (m)) → News g L h ((c2, o2) :: (c1, o1) :: (FX ++ ((rl, listOf (rwR rs).toArray nr) :: rwL rs))) → rs.map (·.v) = vals many tl → wpC (model PySem.Challenge.rw_nz0255_01.row.prog w) (rrA dp un gd L c1 c2 outer) (execs (rrB.drop 3) (rrE L c1 c2)) PP NoE { s with heap := h, toks := tk }) : wpC (model PySem.Challenge.rw_nz0255_01.row.prog w) (rrA dp un gd L c1 c2 outer) (execs (rrB.drop 2) (rrE L c1 c2)) PP NoE s := by
  obtain ⟨sh, sg, sd, st, so⟩ := s
  dsimp only at F N next ⊢
  refine k_stmt ?_
  k_fold
  k_steps
  refine ⟨LCg.CompSrc.range rfl (by k_asm) (by k_asm) (by assumption) ?_ (range_up many) ?_ fun g' => ?_⟩
  · exact small_up (Nat.le_trans (by assumption) (by decide))
  · rw [sizeLine_eq]; exact Nat.le_trans (by assumption) (by decide)
  refine comp_ind (zJ (c2, o2) (c1, o1) FX) ⟨[], by rw [show rwL [] = [] from rfl, List.append_nil], rfl, rfl⟩ ?_ ?_
  · rintro i ys nw hi ⟨ds, rfl, rfl, hds⟩ v I oI C oC D m₂ h tk E' ⟨t, rfl⟩ hNs hm₂ F₁ N₁ off ne
    k_steps
    (with_reducible rename Fr _ _ _ _ => F9)
    (with_reducible rename News _ _ _ _ => N9)
    (with_reducible rename And _ _ => l9)
    exact z_end F9 N9 ⟨l9.1, l9.2.1, l9.2.2.1⟩ off hds
  · rintro ys nw ⟨ds, rfl, rfl, hds⟩ D h tk F₁ N₁ off
    have hz : ds.length = many := by have := congrArg List.length hds; simpa using this
    k_steps
    · have h0 : tl ≠ 0 := by assumption
      (with_reducible rename News _ _ _ _ => N9)
      (with_reducible rename Fr _ _ _ _ => F9)
      obtain ⟨rs, e, N10⟩ := z_rows h0 hds N9
      refine ⟨?_⟩
      (try dsimp only)
      exact next _ _ rs _ 0 F9 N10 e
    · have h0 : tl = 0 := by assumption
      (with_reducible rename News _ _ _ _ => N9)
      (with_reducible rename Fr _ _ _ _ => F9)
      refine ⟨?_⟩
      (try dsimp only)
      rw [List.append_nil] at N9
      refine next _ _ ds _ 0 F9 (fun p hp => ?_) (by rw [hds, vals, if_pos h0, List.append_nil])
      refine N9 p ?_
      rcases List.mem_cons.mp hp with rfl | hp
      · exact .tail _ (.tail _ (.tail _ (.head _)))
      rcases List.mem_cons.mp hp with rfl | hp
      · exact .tail _ (.tail _ (.tail _ (.tail _ (.head _))))
      rcases List.mem_append.mp hp with hp | hp
      · exact .tail _ (.tail _ (.tail _ (.tail _ (.tail _ (List.mem_append_left _ hp)))))
      rcases List.mem_cons.mp hp with rfl | hp
      · exact .head _
      · exact .tail _ (.tail _ (.tail _ (.tail _ (.tail _ (List.mem_append_right _ hp)))))
end
/-! Ra -/
theorem rr0 {w : World} {mean : ExcName → Option Value} {mg mb : Str → Option Value} {dp un : Nat} {gd : Option (List Code)} {outer : List Env} {A₀ : Around} {base g : Heap} {L c1 c2 : Addr} {s : Shared} {m : Str → Option Value} {PP : Flow → Shared → Prop}
    (B : Below A₀ base outer g) (F : Fr g L s.heap m) (X : (hd.heap_1 w.params).In g) (T : Top hd.view_1 (looseW hd.view_1 []) mean mg mb g) (hdp : dp + 9 < recursionLimit) (hun : un + 72 < cLine)
    {o1 o2 : Obj} (N : News g L s.heap ([(c2, o2), (c1, o1)])) 
    (next : ∀ (h : Heap) (tk : Nat) (c : Nat → Nat) (xv : Nat → Value) (ac sl : Addr) (ta : Tok) (ts : Nat → Tok) (ns : Nat), Fr g L h (upd (Str.ofString "scan") (some (.ref (c 21))) (upd (Str.ofString "symbols") (some (.ref sl)) (m))) → News g L h ((c2, o2) :: (c1, o1) :: ((ac, listOf #[.int 0 ta] 0) :: (sl, listOf (symL ts).toArray ns) :: scanL w c xv 1 3 0)) → xv 2 = .ref ac → wpC (model PySem.Challenge.rw_nz0255_01.row.prog w) (rrA dp un gd L c1 c2 outer) (execs (rrB.drop 1) (rrE L c1 c2)) PP NoE { s with heap := h, toks := tk }) : wpC (model PySem.Challenge.rw_nz0255_01.row.prog w) (rrA dp un gd L c1 c2 outer) (execs (rrB.drop 0) (rrE L c1 c2)) PP NoE s := by
  obtain ⟨sh, sg, sd, st, so⟩ := s
  dsimp only at F N next ⊢
  refine k_stmt ?_
  k_fold
  k_steps
  refine ⟨?_⟩
  (with_reducible rename Fr _ _ _ _ => F5)
  (with_reducible rename News _ _ _ _ => N5)
  refine newscan_spec (by k_asm) (by k_asm) (by assumption) (by k_asm) rfl (room_lt (j := 2) hdp (by decide)) (room_lt (j := 16) hun (by decide)) News.nil  ?_
  intro h8 tk8 c F8 N8 K8 hf8 hn8
  have N9 := keep_new N5 K8 N8
  clear N5 N8 K8
  k_steps
  refine ⟨?_⟩
  (with_reducible rename Fr _ _ _ _ => F5)
  (with_reducible rename News _ _ _ _ => N5)
  refine symbols_spec (by k_asm) (by k_asm) (by assumption) (by k_asm) rfl (room_lt (j := 1) hdp (by decide)) (room_lt (j := 8) hun (by decide)) News.nil  ?_
  intro h8 tk8 sl ts ns F8 N8 K8
  have N9 := keep_new N5 K8 N8
  clear N5 N8 K8
  k_steps
  refine ⟨?_⟩
  (try dsimp only)
  (with_reducible rename Fr _ _ _ _ => F9)
  (with_reducible rename News _ _ _ _ => N9)
  exact next _ _ c (lv _ _ _ _) _ sl _ ts ns F9 ((fm (N9 _ (.tail _ (.tail _ (List.mem_append_right (scanL w c (lv _ _ _ _) 1 3 0) (.tail _ (.tail _ (.tail _ (.head _)))))))) (fm (N9 _ (.tail _ (.tail _ (List.mem_append_right (scanL w c (lv _ _ _ _) 1 3 0) (.tail _ (.tail _ (.tail _ (.tail _ (.head _))))))))) (fm (N9 _ (.tail _ (.tail _ (List.mem_append_right (scanL w c (lv _ _ _ _) 1 3 0) (.head _))))) (fm (N9 _ (.tail _ (.head _))) (fun p hp => N9 p (.tail _ (.tail _ (List.mem_append_left (as := scanL w c (lv _ _ _ _) 1 3 0) _ hp))))))))) rfl
/-! Rb -/
section
local macro_rules | `(tactic| walk_at "call builtin:len") => `(tactic| (k_here; (with_reducible show wpAny _ _ (call (Value.builtin "len") [Value.ref _]) _ _ _); k_dflt (refine' len_vs (by k_asm) (by k_mem) (by omega) ?_)))
local macro_rules | `(tactic| walk_at "binaryOp Mult ref int") => `(tactic| (k_here; k_dflt (refine' mul_vs (by k_asm) (by k_asm) (by k_mem) (by omega) ?_); intro _ _ _ _ _))
theorem tab_offD {prog : Program} {w : World} {h₀ h : Heap} {L D : Addr} {e : Nat → Nat} {rz : List (Addr × Tok × Tok × Tok)} {cs' : List (Addr × Tok × Tok)} {o : Obj} {tt : Nat → Tok} {big : List (Addr × Obj)} (N : News h₀ L h big) (hD : (D, ({ cls := .type "dict", data := .dict #[] } : Obj)) ∈ big) (H : ∀ p ∈ tabL w e rz cs' o tt, p ∈ big) (ht : Tab prog w e rz cs' o) :
    ∀ p ∈ tabL w e rz cs' o tt, p.1 ≠ D := fun p hp q => by
  have h1 := (N _ (H p hp)).1
  rw [q, (N _ hD).1] at h1
  have h2 : p.2 = ({ cls := .type "dict", data := .dict #[] } : Obj) := (Option.some.inj h1).symm
  rcases List.mem_cons.mp hp with rfl | hp
  · exact absurd (congrArg Obj.cls h2) (by simp)
  rcases List.mem_cons.mp hp with rfl | hp
  · have := congrArg Obj.data h2
    simp [dictOf, tabE] at this
  rcases List.mem_cons.mp hp with rfl | hp
  · obtain ⟨_, h16, ⟨es, ep, _, he, _, hp', _⟩, _⟩ := ht
    rw [show o = _ from h2] at he
    have hl := hp'.length
    rw [pairs_len, h16] at hl
    injection he with he _
    rw [← he] at hl
    simp at hl
  rcases List.mem_cons.mp hp with rfl | hp
  · exact absurd (congrArg Obj.cls h2) (by simp)
  rcases List.mem_cons.mp hp with rfl | hp
  · exact absurd (congrArg Obj.cls h2) (by simp)
  · have := (rowsCodes_cls p hp).symm.trans (congrArg Obj.cls h2)
    simp at this
theorem rr1 {w : World} {mean : ExcName → Option Value} {mg mb : Str → Option Value} {dp un : Nat} {gd : Option (List Code)} {outer : List Env} {A₀ : Around} {base g : Heap} {L c1 c2 : Addr} {s : Shared} {m : Str → Option Value} {PP : Flow → Shared → Prop}
    (B : Below A₀ base outer g) (F : Fr g L s.heap m) (X : (hd.heap_1 w.params).In g) (T : Top hd.view_1 (looseW hd.view_1 []) mean mg mb g) (hdp : dp + 9 < recursionLimit) (hun : un + 72 < cLine)
    {FX : List (Addr × Obj)} {o1 o2 : Obj} {sl : Addr} {ts : Nat → Tok} {ns : Nat} (N : News g L s.heap ((c2, o2) :: (c1, o1) :: FX)) (hY : (sl, listOf (symL ts).toArray ns) ∈ FX) (hs : m (Str.ofString "symbols") = some (.ref sl))
    (next : ∀ (h : Heap) (tk : Nat) (TT : Addr) (e : Nat → Nat) (rz : List (Addr × Tok × Tok × Tok)) (cs' : List (Addr × Tok × Tok)) (o to : Obj) (tt : Nat → Tok), Fr g L h (upd (Str.ofString "tables") (some (.ref TT)) (m)) → News g L h ((c2, o2) :: (c1, o1) :: ((TT, to) :: (e 12, keyObj (e 13, e 14)) :: (tabL w e rz cs' o tt ++ FX))) → Tab PySem.Challenge.rw_nz0255_01.row.prog w e rz cs' o → TabObj PySem.Challenge.rw_nz0255_01.row.prog w (e 12) (e 0) to → wpC (model PySem.Challenge.rw_nz0255_01.row.prog w) (rrA dp un gd L c1 c2 outer) (execs (rrB.drop 2) (rrE L c1 c2)) PP NoE { s with heap := h, toks := tk }) : wpC (model PySem.Challenge.rw_nz0255_01.row.prog w) (rrA dp un gd L c1 c2 outer) (execs (rrB.drop 1) (rrE L c1 c2)) PP NoE s := by
  obtain ⟨sh, sg, sd, st, so⟩ := s
  dsimp only at F N next ⊢
  refine c_execs_cons (k_assign_name (c_any ?_))
  with_reducible refine tab_made (by k_asm) (by k_asm) (by exact modules_low T.nolimit) ?_ ?_ ?_ (by simp) ?_ ?_
  · exact room_lt (j := 0) hun (by decide)
  · rfl
  · rfl
  · decide
  intro D h1 F1 N1 hD l1
  k_steps
  refine ⟨?_⟩
  (with_reducible rename Fr _ _ _ _ => F5)
  (with_reducible rename News _ _ _ _ => N5)
  have N6 := news_sub N5 ((fm ((.head _)) (fm ((.tail _ (.tail _ (.tail _ (.tail _ (.tail _ (.tail _ (.tail _ (.head _))))))))) (fm ((.tail _ (.tail _ (.tail _ (.tail _ (.tail _ (.tail _ (.tail _ (.tail _ (.head _)))))))))) (fm ((.tail _ (.tail _ (.tail _ (.tail _ (.tail _ (.tail _ (.tail _ (.tail _ (.tail _ (.head _))))))))))) (fm ((.tail _ (.tail _ (.tail _ (.tail _ (.tail _ (.tail _ (.tail _ (.tail _ (.tail _ (.tail _ (.head _)))))))))))) ((fun p hp => (.tail _ (.tail _ (.tail _ (.tail _ (.tail _ (.tail _ (.tail _ (.tail _ (.tail _ (.tail _ (.tail _ hp)))))))))))))))))))
  clear N5
  refine table_spec (t := ts) (u := lst [_, _, _, _, _, _, _, _, _, _, _, _, _, _, _, _]) (by k_asm) (by k_asm) (by assumption) (by k_asm) rfl (room_lt (j := 5) hdp (by decide)) (room_lt (j := 40) hun (by decide)) ((fm (N6 _ (.tail _ (.tail _ (.tail _ (.tail _ (.tail _ hY)))))) (fm (N6 _ (.head _)) (List.forall_mem_nil _)))) ?_
  intro h8 tk8 e tt rz cs' o F8 N8 K8 ht
  have N9 := keep_new (news_tail N6) K8 N8
  clear N6 N8 K8
  k_steps
  have hB : ∀ p ∈ (c2, o2) :: (c1, o1) :: FX, p.1 ≠ D := fun p hp => Nat.ne_of_lt (l1 p hp)
  have hTm : ∀ p ∈ tabL w e rz cs' o tt ++ ((c2, o2) :: (c1, o1) :: FX), p.1 ≠ D := List.forall_mem_append.mpr ⟨tab_offD N9 (List.mem_append_right (tabL w e rz cs' o tt) (.tail _ (.head _))) (fun p hp => List.mem_append_left _ hp) ht, hB⟩
  refine ⟨⟨_, _, (_, _), tabL w e rz cs' o tt ++ ((c2, o2) :: (c1, o1) :: FX), rfl, ⟨_, rfl⟩, F8, (fm (N9 _ (List.mem_append_right (tabL w e rz cs' o tt) (.tail _ (.head _)))) (fm (N9 _ (List.mem_append_right (tabL w e rz cs' o tt) (.head _))) (List.forall_mem_append.mpr ⟨fun p hp => N9 p (List.mem_append_left _ hp), fun p hp => N9 p (List.mem_append_right (tabL w e rz cs' o tt) (.tail _ (.tail _ hp)))⟩))), hTm, fun o' h2 tk H eH F2 TO N2 => ?_⟩⟩
  cases eH
  k_steps
  refine ⟨?_⟩
  (try dsimp only)
  (with_reducible rename Fr _ _ _ _ => F9)
  (with_reducible rename News _ _ _ _ => N9)
  refine next _ _ D (ext e 12 [_, _, _]) rz cs' o o' tt F9 ((fm ?_ (fm ?_ (fm (N9 _ (.head _)) (fm (N9 _ (.tail _ (.head _))) (List.forall_mem_append.mpr ⟨fun p hp => N9 p (.tail _ (.tail _ (List.mem_append_left _ hp))), fun p hp => ?_⟩)))))) ht TO
  · exact N9 _ (.tail _ (.tail _ (List.mem_append_right (tabL w e rz cs' o tt) (.head _))))
  · exact N9 _ (.tail _ (.tail _ (List.mem_append_right (tabL w e rz cs' o tt) (.tail _ (.head _)))))
  · exact N9 _ (.tail _ (.tail _ (List.mem_append_right (tabL w e rz cs' o tt) (.tail _ (.tail _ hp)))))
end
/-! L0 -/
theorem c_if_not {M : Model} {A : Around} {E : Value → Shared → Prop} {s : Shared} {env : Env} {f : Expr} {args : List Expr} {kws : List Keyword} {p p' pos : Pos} {body orelse : List Stmt} {Q : Flow → Shared → Prop}
    (h : wpC M A (eval (.Call f args kws p) env) (fun v s' => v = .bool true ∧ wpC M A (execs orelse env) Q E s') E s) : wpC M A (exec (.If (.UnaryOp .Not (.Call f args kws p) p') body orelse pos) env) Q E s := by
  refine c_If ?_
  show wpC M A (do return !(← (do let v ← eval (.Call f args kws p) env; standAt p; holding [v] (truthy v)))) _ E s
  refine c_bind (c_bind (c_mono h (fun v s' z => ?_) fun _ _ z => z))
  obtain ⟨rfl, z⟩ := z
  exact c_leaf (wpAny_standAt (c_holding (c_any (wpAny_truthy_bool (c_any (wpAny_pure z))))))
theorem menu_le (i : Nat) : (([0, 1, -1, 2, -3, 7, -5] : List Int).getD i 0).natAbs ≤ 7 := by
  by_cases h : i < 7
  · have := (by decide : ∀ i : Fin 7, (([0, 1, -1, 2, -3, 7, -5] : List Int).getD i.val 0).natAbs ≤ 7) ⟨i, h⟩
    exact this
  · have e : ([0, 1, -1, 2, -3, 7, -5] : List Int)[i]? = none := List.getElem?_eq_none (Nat.le_of_not_lt h)
    rw [List.getD_eq_getElem?_getD, e]
    decide
noncomputable def lwN : Str := Str.ofString "law"
noncomputable def lwB : List Stmt := fnB PySem.Challenge.pw_nz0255_01.main.body[44]?
noncomputable def lwS : Scope := fnS PySem.Challenge.pw_nz0255_01.main.body[44]?
noncomputable abbrev lwE (L a : Addr) (cd : Value) : Env := envX lwN lwS L a cd []
noncomputable abbrev lwA (dp un : Nat) (gd : Option (List Code)) (L a : Addr) (cd : Value) : Around := ktrTop dp un gd lwN lwS L a cd [] []
theorem law0 {w : World} {mean : ExcName → Option Value} {mg mb : Str → Option Value} {dp un : Nat} {gd : Option (List Code)} {base : Heap} {L a : Addr} {cd : Value} {s : Shared} {m : Str → Option Value} {PP : Flow → Shared → Prop}
    (B : Below callerA base [] base) (F : Fr base L s.heap m) (X : (hd.heap_1 w.params).In base) (T : Top hd.view_1 (looseW hd.view_1 []) mean mg mb base) (hdp : dp + 11 < recursionLimit) (hun : un + 90 < cLine)
    {l : Addr} {vs : List Value} {ns : List Int} (N : News base L s.heap ([])) (hl : base.IsList l vs.toArray) (hi : IntsAre vs ns) (hlen : ns.length ≤ 63) (hlay : (PyData.list (ns.map PyData.int)).layable0 = true) (hs : m (Str.ofString "script") = some (.ref l))
    (next : ∀ (h : Heap) (tk : Nat) (r : Addr) (a0 b0 : Int) (ta tb : Tok) (n : Nat), Fr base L h (upd (Str.ofString "source") (some (.ref r)) (m)) → News base L h (SrcL r a0 b0 ta tb n) → 0 ≤ a0 → 0 ≤ b0 → b0 < 2147483647 → wpC (model PySem.Challenge.rw_nz0255_01.row.prog w) (lwA dp un gd L a cd) (execs (lwB.drop 1) (lwE L a cd)) PP NoE { s with heap := h, toks := tk }) : wpC (model PySem.Challenge.rw_nz0255_01.row.prog w) (lwA dp un gd L a cd) (execs (lwB.drop 0) (lwE L a cd)) PP NoE s := by
  obtain ⟨sh, sg, sd, st, so⟩ := s
  dsimp only at F N next ⊢
  refine k_stmt ?_
  k_fold
  k_steps
  refine ⟨?_⟩
  (with_reducible rename Fr _ _ _ _ => F5)
  (with_reducible rename News _ _ _ _ => N5)
  refine source_spec (by k_asm) (by k_asm) (by assumption) (by k_asm) rfl (room_lt (j := 1) hdp (by decide)) (room_lt (j := 8) hun (by decide)) News.nil hl hi hlen hlay ?_
  intro h8 tk8 r a0 b0 ta tb n F8 N8 K8 ha hb hb2
  clear N5 K8
  k_steps
  refine ⟨?_⟩
  (try dsimp only)
  (with_reducible rename Fr _ _ _ _ => F9)
  exact next _ _ r a0 b0 ta tb n F9 (by assumption) ha hb hb2
theorem law1 {w : World} {mean : ExcName → Option Value} {mg mb : Str → Option Value} {dp un : Nat} {gd : Option (List Code)} {base : Heap} {L a : Addr} {cd : Value} {s : Shared} {m : Str → Option Value} {PP : Flow → Shared → Prop}
    (B : Below callerA base [] base) (F : Fr base L s.heap m) (X : (hd.heap_1 w.params).In base) (T : Top hd.view_1 (looseW hd.view_1 []) mean mg mb base) (hdp : dp + 11 < recursionLimit) (hun : un + 90 < cLine)
    {r : Addr} {a0 b0 : Int} {ta tb : Tok} {n : Nat} (N : News base L s.heap (SrcL r a0 b0 ta tb n)) (hs : m (Str.ofString "source") = some (.ref r)) (ha : 0 ≤ a0) (hb : 0 ≤ b0) (hb2 : b0 < 2147483647)
    (next : ∀ (h : Heap) (tk : Nat) (k : Nat) (t : Tok) (a0 b0 : Int) (ta tb : Tok) (n : Nat), Fr base L h (upd (Str.ofString "many") (some (.int (k : Int) t)) (m)) → News base L h (SrcL r a0 b0 ta tb n) → k ≤ 90 → 0 ≤ a0 → 0 ≤ b0 → b0 < 2147483647 → wpC (model PySem.Challenge.rw_nz0255_01.row.prog w) (lwA dp un gd L a cd) (execs (lwB.drop 2) (lwE L a cd)) PP NoE { s with heap := h, toks := tk }) : wpC (model PySem.Challenge.rw_nz0255_01.row.prog w) (lwA dp un gd L a cd) (execs (lwB.drop 1) (lwE L a cd)) PP NoE s := by
  obtain ⟨sh, sg, sd, st, so⟩ := s
  dsimp only at F N next ⊢
  refine k_stmt ?_
  k_fold
  k_steps
  refine ⟨?_⟩
  (with_reducible rename Fr _ _ _ _ => F5)
  (with_reducible rename News _ _ _ _ => N5)
  refine draw_spec (by k_asm) (by k_asm) (by assumption) (by k_asm) rfl (room_lt (j := 1) hdp (by decide)) (room_lt (j := 8) hun (by decide)) N5 (by decide) (by decide) ha hb hb2 ?_
  intro h8 tk8 x t8 a8 b8 ta8 tb8 n8 F8 N8 K8 xa xb ha hb hb2
  clear N5 K8
  k_steps
  refine ⟨?_⟩
  (with_reducible rename Fr _ _ _ _ => F5)
  (with_reducible rename News _ _ _ _ => N5)
  refine draw_spec (by k_asm) (by k_asm) (by assumption) (by k_asm) rfl (room_lt (j := 1) hdp (by decide)) (room_lt (j := 8) hun (by decide)) N5 (by decide) (by decide) ha hb hb2 ?_
  intro h8 tk8 y t8 a8 b8 ta8 tb8 n8 F8 N8 K8 ya yb ha hb hb2
  clear N5 K8
  k_steps
  (with_reducible rename (∀ p ∈ SrcL _ _ _ _ _ _, p.1 < _) => l9)
  have hne := Nat.ne_of_gt (l9 _ (.head _))
  refine ⟨?_⟩
  (with_reducible rename Fr _ _ _ _ => F5)
  (with_reducible rename News _ _ _ _ => N5)
  refine draw_spec (by k_asm) (by k_asm) (by assumption) (by k_asm) rfl (room_lt (j := 1) hdp (by decide)) (room_lt (j := 8) hun (by decide)) (news_tail N5) (by decide) (by decide) ha hb hb2 ?_
  intro h8 tk8 z t8 a8 b8 ta8 tb8 n8 F8 N8 K8 za zb ha hb hb2
  have N9 := keep_cons N5 K8 (fun q => hne (List.mem_singleton.mp q)) N8
  clear N5 N8 K8
  have hz : z = 0 ∨ z = 1 := (Int.le_iff_lt_or_eq.mp (Int.le_of_lt_add_one zb)).elim (fun q => .inl (Int.le_antisymm (Int.le_of_lt_add_one q) za)) .inr
  obtain ⟨xn, rfl⟩ := Int.eq_ofNat_of_zero_le xa
  obtain ⟨yn, rfl⟩ := Int.eq_ofNat_of_zero_le ya
  rcases hz with rfl | rfl
  · k_steps
    refine ⟨?_⟩
    (try dsimp only)
    (with_reducible rename Fr _ _ _ _ => F9)
    (with_reducible rename News _ _ _ _ => N9)
    exact next _ _ xn _ _ _ _ _ _ F9 (news_tail N9) (Nat.le_trans (Nat.le_of_lt (Int.ofNat_lt.mp xb)) (by decide)) ha hb hb2
  · k_steps
    refine ⟨?_⟩
    (try dsimp only)
    (with_reducible rename Fr _ _ _ _ => F9)
    (with_reducible rename News _ _ _ _ => N9)
    rw [show (1 : Int) + (yn : Int) = ((1 + yn : Nat) : Int) from rfl] at F9
    exact next _ _ (1 + yn) _ _ _ _ _ _ F9 (news_tail N9) (by rw [Nat.add_comm]; exact Int.ofNat_lt.mp yb) ha hb hb2
theorem law2 {w : World} {mean : ExcName → Option Value} {mg mb : Str → Option Value} {dp un : Nat} {gd : Option (List Code)} {base : Heap} {L a : Addr} {cd : Value} {s : Shared} {m : Str → Option Value} {PP : Flow → Shared → Prop}
    (B : Below callerA base [] base) (F : Fr base L s.heap m) (X : (hd.heap_1 w.params).In base) (T : Top hd.view_1 (looseW hd.view_1 []) mean mg mb base) (hdp : dp + 11 < recursionLimit) (hun : un + 90 < cLine)
    {r : Addr} {a0 b0 : Int} {ta tb : Tok} {n : Nat} (N : News base L s.heap (SrcL r a0 b0 ta tb n)) (hs : m (Str.ofString "source") = some (.ref r)) (ha : 0 ≤ a0) (hb : 0 ≤ b0) (hb2 : b0 < 2147483647)
    (next : ∀ (h : Heap) (tk : Nat) (tl : Int) (t : Tok) (a0 b0 : Int) (ta tb : Tok) (n : Nat), Fr base L h (upd (Str.ofString "tail") (some (.int tl t)) (m)) → News base L h (SrcL r a0 b0 ta tb n) → tl.natAbs ≤ 7 → 0 ≤ a0 → 0 ≤ b0 → b0 < 2147483647 → wpC (model PySem.Challenge.rw_nz0255_01.row.prog w) (lwA dp un gd L a cd) (execs (lwB.drop 3) (lwE L a cd)) PP NoE { s with heap := h, toks := tk }) : wpC (model PySem.Challenge.rw_nz0255_01.row.prog w) (lwA dp un gd L a cd) (execs (lwB.drop 2) (lwE L a cd)) PP NoE s := by
  obtain ⟨sh, sg, sd, st, so⟩ := s
  dsimp only at F N next ⊢
  refine k_stmt ?_
  k_fold
  k_steps
  (with_reducible rename (∀ p ∈ SrcL _ _ _ _ _ _, p.1 < _) => l9)
  have hne := Nat.ne_of_gt (l9 _ (.head _))
  refine ⟨?_⟩
  (with_reducible rename Fr _ _ _ _ => F5)
  (with_reducible rename News _ _ _ _ => N5)
  refine draw_spec (by k_asm) (by k_asm) (by assumption) (by k_asm) rfl (room_lt (j := 1) hdp (by decide)) (room_lt (j := 8) hun (by decide)) (news_tail N5) (by decide) (by decide) ha hb hb2 ?_
  intro h8 tk8 z t8 a8 b8 ta8 tb8 n8 F8 N8 K8 za zb ha hb hb2
  have N9 := keep_cons N5 K8 (fun q => hne (List.mem_singleton.mp q)) N8
  clear N5 N8 K8
  k_steps
  refine ⟨?_⟩
  (try dsimp only)
  (with_reducible rename Fr _ _ _ _ => F9)
  (with_reducible rename News _ _ _ _ => N9)
  exact next _ _ _ _ _ _ _ _ _ F9 (news_tail N9) (menu_le _) ha hb hb2
theorem law3 {w : World} {mean : ExcName → Option Value} {mg mb : Str → Option Value} {dp un : Nat} {gd : Option (List Code)} {base : Heap} {L a : Addr} {cd : Value} {s : Shared} {m : Str → Option Value} {PP : Flow → Shared → Prop}
    (B : Below callerA base [] base) (F : Fr base L s.heap m) (X : (hd.heap_1 w.params).In base) (T : Top hd.view_1 (looseW hd.view_1 []) mean mg mb base) (hdp : dp + 11 < recursionLimit) (hun : un + 90 < cLine)
    {r : Addr} {a0 b0 : Int} {ta tb tm tt : Tok} {n k : Nat} {tl : Int} (N : News base L s.heap (SrcL r a0 b0 ta tb n)) (hm : m (Str.ofString "many") = some (.int (k : Int) tm)) (ht : m (Str.ofString "tail") = some (.int tl tt)) (hk : k ≤ 90)
    (next : ∀ (h : Heap) (tk : Nat) (k : Nat) (t : Tok), Fr base L h (upd (Str.ofString "many") (some (.int (k : Int) t)) (m)) → News base L h (SrcL r a0 b0 ta tb n) → k ≤ 90 → wpC (model PySem.Challenge.rw_nz0255_01.row.prog w) (lwA dp un gd L a cd) (execs (lwB.drop 4) (lwE L a cd)) PP NoE { s with heap := h, toks := tk }) : wpC (model PySem.Challenge.rw_nz0255_01.row.prog w) (lwA dp un gd L a cd) (execs (lwB.drop 3) (lwE L a cd)) PP NoE s := by
  obtain ⟨sh, sg, sd, st, so⟩ := s
  dsimp only at F N next ⊢
  refine c_execs_cons (k_if ?_)
  k_fold
  k_steps
  · refine ⟨⟨fun _ => ?_, fun hb => absurd hb (by decide)⟩⟩
    refine k_stmt ?_
    k_fold
    k_steps
    refine ⟨?_⟩
    (try dsimp only)
    refine c_execs_nil ?_
    (with_reducible rename Fr _ _ _ _ => F9)
    exact next _ _ 1 _ F9 (by assumption) (by decide)
  · refine ⟨⟨fun hb => absurd hb (by decide), fun _ => ?_⟩⟩
    refine c_execs_nil ?_
    exact next _ _ k tm (fr_eq (by assumption) (by rw [← hm]; exact map_same _ rfl)) (by assumption) hk
  · refine ⟨⟨fun hb => absurd hb (by decide), fun _ => ?_⟩⟩
    refine c_execs_nil ?_
    exact next _ _ k tm (fr_eq (by assumption) (by rw [← hm]; exact map_same _ rfl)) (by assumption) hk
end
section
local macro_rules | `(tactic| walk_at "call ref") => `(tactic| (k_here; (with_reducible show wpAny _ _ (call (Value.ref 169) _) _ _ _); refine stopCall ?_))
/-! R13 -/
section
local macro_rules | `(tactic| walk_at "call ref") => `(tactic| (k_here; (with_reducible show wpAny _ _ (call (Value.ref 169) _) _ _ _); refine stopCall ?_))
theorem rr13 {w : World} {mean : ExcName → Option Value} {mg mb : Str → Option Value} {dp un : Nat} {gd : Option (List Code)} {outer : List Env} {A₀ : Around} {base g : Heap} {L c1 c2 : Addr} {s : Shared} {m : Str → Option Value} {PP : Flow → Shared → Prop}
    (B : Below A₀ base outer g) (F : Fr g L s.heap m) (X : (hd.heap_1 w.params).In g) (T : Top hd.view_1 (looseW hd.view_1 []) mean mg mb g) (hdp : dp + 9 < recursionLimit) (hun : un + 72 < cLine)
    {c d : Nat → Nat} {tb : Addr} {tr tq : Tok} {FX : List (Addr × Obj)} {o2 : Obj} {ol : List UInt8} (N : News g L s.heap ((c2, o2) :: (acr0 w d (c 21) tb tr ++ FX))) (hd2 : o2.data = .cell (some (.ref (d 0)))) (hO : ∀ p ∈ FX, p.1 ∉ [d 0, d 1]) (h2 : c2 ∉ [d 0, d 1]) (hdd : @Ne Nat (d 0) (d 1)) (ho : m (Str.ofString "octets") = some (.bytes ol.toArray tq))
    (next : ∀ (h : Heap) (tk : Nat) (b : Nat → Nat) (t1 tr' : Tok), Fr g L h (m) → News g L h ((c2, o2) :: ((acrL w d (c 21) tb (b 0) 0 tr' ++ readerL w b ol 0 t1) ++ FX)) → (∀ p ∈ FX, p.1 ∉ arA d b) → c2 ∉ arA d b → (arA d b).Nodup → wpC (model PySem.Challenge.rw_nz0255_01.row.prog w) (rrA dp un gd L c1 c2 outer) (execs (rrB.drop 14) (rrE L c1 c2)) PP NoE { s with heap := h, toks := tk }) : wpC (model PySem.Challenge.rw_nz0255_01.row.prog w) (rrA dp un gd L c1 c2 outer) (execs (rrB.drop 13) (rrE L c1 c2)) PP NoE s := by
  obtain ⟨sh, sg, sd, st, so⟩ := s
  dsimp only at F N next ⊢
  have n1 : @Ne Nat c2 (d 1) := fun e => h2 (e ▸ .tail _ (.head _))
  have n2 : ∀ p ∈ FX, p.1 ≠ d 1 := fun p hp e => hO p hp (e ▸ .tail _ (.head _))
  dsimp only [acr0, List.cons_append, List.nil_append] at N
  refine k_stmt ?_
  k_fold
  k_steps
  refine ⟨?_⟩
  (with_reducible rename Fr _ _ _ _ => F5)
  (with_reducible rename News _ _ _ _ => N5)
  refine newbr_spec (by k_asm) (by k_asm) (by assumption) (by k_asm) rfl (room_lt (j := 4) hdp (by decide)) (room_lt (j := 27) hun (by decide)) News.nil ?_
  intro h8 tk8 b t8 F8 N8 K8 hf8 hb8
  have hOb := off_new N5 hf8
  have N9 := keep_new N5 K8 N8
  clear N5 N8 K8
  dsimp only [readerL, List.cons_append, List.nil_append] at N9
  have nb0 : @Ne Nat (d 1) (b 0) := hOb _ (.tail _ (.tail _ (.head _))) _ (.head _)
  have nb1 : @Ne Nat (d 1) (b 1) := hOb _ (.tail _ (.tail _ (.head _))) _ (.tail _ (.head _))
  have nc0 : @Ne Nat (d 0) (b 0) := hOb _ (.tail _ (.head _)) _ (.head _)
  have nc1 : @Ne Nat (d 0) (b 1) := hOb _ (.tail _ (.head _)) _ (.tail _ (.head _))
  have hw : ∀ p ∈ (c2, o2) :: FX, p.1 ∉ arA d b := fun p hp q => by
    have hm : p.1 ∉ rdA b := fun q => by
      rcases List.mem_cons.mp hp with rfl | hp
      · exact hOb _ (.head _) _ q rfl
      · exact hOb p (.tail _ (.tail _ (.tail _ hp))) _ q rfl
    have hd : p.1 ∉ [d 0, d 1] := by
      rcases List.mem_cons.mp hp with rfl | hp
      · exact h2
      · exact hO p hp
    rcases List.mem_cons.mp q with q | q
    · exact hd (q ▸ .head _)
    rcases List.mem_cons.mp q with q | q
    · exact hd (q ▸ .tail _ (.head _))
    · exact hm q
  k_steps
  refine ⟨?_⟩
  (try dsimp only)
  (with_reducible rename Fr _ _ _ _ => F9)
  (with_reducible rename News _ _ _ _ => N9)
  exact next _ _ b t8 _ F9 (news_sub N9 (l := (c2, o2) :: ((acrL w d (c 21) tb (b 0) 0 _ ++ readerL w b ol 0 t8) ++ FX)) ((fm (.tail _ (.tail _ (.head _))) (fm (.tail _ (.tail _ (.tail _ (.head _)))) (fm (.tail _ (.tail _ (.tail _ (.tail _ (.head _))))) (fm (.head _) (fm (.tail _ (.head _)) (fun p hp => .tail _ (.tail _ (.tail _ (.tail _ (.tail _ hp)))))))))))) (fun p hp => hw p (.tail _ hp)) (hw _ (.head _)) (nd4 hdd nc0 nc1 nb0 nb1 hb8)
end
end
/-! R15 -/
theorem rr15 {w : World} {mean : ExcName → Option Value} {mg mb : Str → Option Value} {dp un : Nat} {gd : Option (List Code)} {outer : List Env} {A₀ : Around} {base g : Heap} {L c1 c2 : Addr} {s : Shared} {m : Str → Option Value} {PP : Flow → Shared → Prop}
    (B : Below A₀ base outer g) (F : Fr g L s.heap m) (X : (hd.heap_1 w.params).In g) (T : Top hd.view_1 (looseW hd.view_1 []) mean mg mb g) (hdp : dp + 9 < recursionLimit) (hun : un + 72 < cLine)
    {c d b : Nat → Nat} {tb : Addr} {tr t1 : Tok} {FX : List (Addr × Obj)} {o2 : Obj} {ol : List UInt8} {i : Nat} (N : News g L s.heap ((c2, o2) :: ((acrL w d (c 21) tb (b 0) 0 tr ++ readerL w b ol i t1) ++ FX))) (hd2 : o2.data = .cell (some (.ref (d 0))))
    (next : ∀ (h : Heap) (tk : Nat) , Fr g L h (m) → News g L h ((c2, o2) :: ((acrL w d (c 21) tb (b 0) 0 tr ++ readerL w b ol i t1) ++ FX)) → wpC (model PySem.Challenge.rw_nz0255_01.row.prog w) (rrA dp un gd L c1 c2 outer) (execs (rrB.drop 16) (rrE L c1 c2)) PP NoE { s with heap := h, toks := tk }) : wpC (model PySem.Challenge.rw_nz0255_01.row.prog w) (rrA dp un gd L c1 c2 outer) (execs (rrB.drop 15) (rrE L c1 c2)) PP NoE s := by
  obtain ⟨sh, sg, sd, st, so⟩ := s
  dsimp only at F N next ⊢
  refine k_stmt ?_
  k_fold
  k_steps
  refine ⟨?_⟩
  (try dsimp only)
  exact next _ _ (by assumption) (by assumption)
/-! R17 -/
/-! the plain law of a first scan: its bits, and how they are read back -/
noncomputable def BL (many : Nat) (tl : Int) : List Bool := if tl = 0 then runBits many else runBits many ++ valBits tl ++ natBits 6 0
noncomputable def ps (many : Nat) (tl : Int) (i : Nat) : Nat := if i = 0 then 0 else if i ≤ many then (runBits many).length else (runBits many).length + (valBits tl).length + 6
noncomputable def ks (many i : Nat) : Nat := if i = 0 then 0 else if i ≤ many then many - i else 0
theorem vals_length {many : Nat} {tl : Int} : (vals many tl).length = many + (if tl = 0 then 0 else 1) := by
  unfold vals
  rw [List.length_append, List.length_replicate]
  split <;> rfl
theorem run_one : runBits 1 = natBits 6 0 := by decide +kernel
theorem w_end {many n : Nat} {tl : Int} (h : n = many + (if tl = 0 then 0 else 1)) : wb many tl n ++ runBits (wn many n) = BL many tl := by
  subst h
  unfold wb wn BL
  by_cases h0 : tl = 0
  · rw [if_pos h0, Nat.add_zero, if_pos (Nat.le_refl _), if_pos (Nat.le_refl _), if_pos h0]
    rfl
  · rw [if_neg h0, if_neg (Nat.not_succ_le_self _), if_neg (Nat.not_succ_le_self _), if_neg h0, run_one]
theorem ks_end {many n : Nat} {tl : Int} (h : n = many + (if tl = 0 then 0 else 1)) : ks many n = 0 := by
  subst h
  unfold ks
  by_cases h0 : tl = 0
  · rw [if_pos h0]
    split
    · rfl
    · split
      · exact Nat.sub_self many
      · rfl
  · rw [if_neg h0, if_neg (Nat.succ_ne_zero many), if_neg (Nat.not_succ_le_self many)]
theorem BL_len {many : Nat} {tl : Int} (hm : many ≤ 90) (h7 : tl.natAbs ≤ 7) : (BL many tl).length ≤ 27 := by
  have h1 := run_len hm
  have h2 := val_len h7
  unfold BL
  split
  · exact Nat.le_trans h1 (by decide)
  · rw [List.length_append, List.length_append, natBits_length]
    exact Nat.add_le_add_right (Nat.add_le_add h1 h2) 6
theorem octL_small {bl : List Bool} (h : bl.length ≤ 27) : (octL bl).length ≤ 1000 := by
  rw [octL_len, padded_length]
  exact Nat.le_trans (Nat.div_le_self _ _) (Nat.le_trans (Nat.add_le_add h (Nat.le_of_lt (Nat.mod_lt _ (by decide)))) (by decide))
theorem rbits_is {bl x y z : List Bool} {i n : Nat} (e : bl = x ++ (y ++ z)) (hi : x.length = i) (hn : y.length = n) : rbits (octL bl) i n = y := by
  subst e hi hn
  unfold rbits
  refine List.ext_getElem? fun j => ?_
  rw [List.getElem?_map]
  by_cases hj : j < y.length
  · rw [List.getElem?_range hj, List.getElem?_eq_getElem hj]
    have hb : (x ++ (y ++ z))[x.length + j]? = some y[j] := by
      rw [List.getElem?_append_right (Nat.le_add_right _ _), Nat.add_sub_cancel_left, List.getElem?_append_left hj, List.getElem?_eq_getElem hj]
    rw [Option.map_some, rbit_at hb]
    cases y[j] <;> rfl
  · rw [List.getElem?_eq_none (by rw [List.length_range]; exact Nat.le_of_not_lt hj), List.getElem?_eq_none (Nat.le_of_not_lt hj)]
    rfl
theorem room_bits {bl x y : List Bool} {i : Nat} (e : bl = x ++ y) (hi : x.length = i) : i ≤ 8 * (octL bl).length := by
  subst e hi
  rw [octL_len8, padded_length, List.length_append]
  exact Nat.le_trans (Nat.le_add_right _ _) (Nat.le_add_right _ _)
theorem bl_run {many : Nat} {tl : Int} (h0 : many ≠ 0) : ∃ z, BL many tl = natBits 6 many.log2 ++ (natBits many.log2 (many - 2 ^ many.log2) ++ z) := by
  unfold BL runBits
  rw [if_neg h0]
  split
  · exact ⟨[], by rw [List.append_nil]⟩
  · exact ⟨valBits tl ++ natBits 6 0, by rw [List.append_assoc, List.append_assoc]⟩
theorem run_length {many : Nat} (h0 : many ≠ 0) : (runBits many).length = 6 + many.log2 := by
  unfold runBits
  rw [if_neg h0, List.length_append, natBits_length, natBits_length]
theorem nxt_first {many : Nat} {tl : Int} (hm : many ≤ 90) (h0 : many ≠ 0) : Nxt (octL (BL many tl)) 0 0 0 (0 + 6 + many.log2) (many - 1) := by
  obtain ⟨z, e⟩ := bl_run (tl := tl) h0
  refine .zeros (log_le hm) (Nat.log2_self_le h0) Nat.lt_log2_self ?_ ?_ ?_
  · exact rbits_is (x := []) e rfl (natBits_length _ _)
  · exact rbits_is (x := natBits 6 many.log2) e (natBits_length _ _) (natBits_length _ _)
  · exact room_bits (x := natBits 6 many.log2 ++ natBits many.log2 (many - 2 ^ many.log2)) (y := z) (by rw [e, List.append_assoc]) (by rw [List.length_append, natBits_length, natBits_length, Nat.zero_add])
theorem nxt_last {many : Nat} {tl : Int} (h7 : tl.natAbs ≤ 7) (h0 : tl ≠ 0) : Nxt (octL (BL many tl)) (runBits many).length 0 tl ((runBits many).length + 6 + (tl.natAbs.log2 + 1) + 6) 0 := by
  obtain ⟨hp, g1, g2⟩ := size_is h0 h7
  have e : BL many tl = runBits many ++ (natBits 6 (10 + tl.natAbs.log2) ++ (natBits (tl.natAbs.log2 + 1) (if tl < 0 then tl + 2 ^ (tl.natAbs.log2 + 1) - 1 else tl).toNat ++ natBits 6 0)) := by
    unfold BL valBits
    rw [if_neg h0, List.append_assoc, List.append_assoc]
  refine .val hp g1 g2 ?_ ?_ ?_ ?_
  · exact rbits_is e rfl (natBits_length _ _)
  · exact rbits_is (x := runBits many ++ natBits 6 (10 + tl.natAbs.log2)) (z := natBits 6 0) (by rw [e, List.append_assoc]) (by rw [List.length_append, natBits_length]) (natBits_length _ _)
  · exact rbits_is (x := runBits many ++ (natBits 6 (10 + tl.natAbs.log2) ++ natBits (tl.natAbs.log2 + 1) (if tl < 0 then tl + 2 ^ (tl.natAbs.log2 + 1) - 1 else tl).toNat)) (z := []) (by rw [e, List.append_nil, List.append_assoc, List.append_assoc]) (by rw [List.length_append, List.length_append, natBits_length, natBits_length]; exact (Nat.add_assoc _ _ _).symm) (natBits_length _ _)
  · exact room_bits (x := BL many tl) (y := []) (by rw [List.append_nil]) (by rw [e, List.length_append, List.length_append, List.length_append, natBits_length, natBits_length, natBits_length]; simp only [Nat.add_assoc])
theorem nxt_all {many : Nat} {tl : Int} {rs : List Rw} (hm : many ≤ 90) (h7 : tl.natAbs ≤ 7) (hv : rs.map (·.v) = vals many tl) : ∀ i y, rs[i]? = some y → Nxt (octL (BL many tl)) (ps many tl i) (ks many i) y.v (ps many tl (i + 1)) (ks many (i + 1)) := fun i y hy => by
  rcases row_val hv hy with ⟨hi, e⟩ | ⟨rfl, e, h0⟩
  · rw [e]
    by_cases hz : i = 0
    · subst hz
      have h0 : many ≠ 0 := Nat.ne_of_gt hi
      have := nxt_first (tl := tl) hm h0
      rw [show ps many tl 0 = 0 from rfl, show ks many 0 = 0 from rfl, ps, ks, if_neg (Nat.succ_ne_zero 0), if_pos (show 0 + 1 ≤ many from hi), if_neg (Nat.succ_ne_zero 0), if_pos (show 0 + 1 ≤ many from hi), run_length h0]
      rw [Nat.zero_add] at this
      exact this
    · rw [ps, ps, ks, ks, if_neg hz, if_pos (Nat.le_of_lt hi), if_neg (Nat.succ_ne_zero _), if_pos (Nat.succ_le_of_lt hi), if_neg hz, if_pos (Nat.le_of_lt hi), if_neg (Nat.succ_ne_zero _), if_pos (Nat.succ_le_of_lt hi), show many - i = many - (i + 1) + 1 from (Nat.sub_add_cancel (Nat.sub_pos_of_lt hi)).symm]
      exact .skip
  · rw [e]
    have a : ps i tl i = (runBits i).length := by
      unfold ps
      split
      · next h => subst h; rfl
      · rw [if_pos (Nat.le_refl _)]
    have b : ks i i = 0 := by
      unfold ks
      split
      · rfl
      · rw [if_pos (Nat.le_refl _)]; exact Nat.sub_self i
    have c : ps i tl (i + 1) = (runBits i).length + 6 + (tl.natAbs.log2 + 1) + 6 := by
      unfold ps
      rw [if_neg (Nat.succ_ne_zero _), if_neg (Nat.not_succ_le_self _), valBits, List.length_append, natBits_length, natBits_length]
      simp only [Nat.add_assoc]
    have d : ks i (i + 1) = 0 := by
      unfold ks
      rw [if_neg (Nat.succ_ne_zero _), if_neg (Nat.not_succ_le_self _)]
    rw [a, b, c, d]
    exact nxt_last h7 h0
theorem nxt_two {many : Nat} {tl : Int} (hm : many ≤ 90) (h : 2 ≤ many) : ∃ i' k', Nxt (octL (BL many tl)) 0 0 0 i' (k' + 1) :=
  ⟨_, many - 2, by have := nxt_first (tl := tl) hm (Nat.ne_of_gt (Nat.lt_of_lt_of_le (by decide) h)); rwa [show many - 1 = many - 2 + 1 from (Nat.sub_add_cancel (Nat.sub_pos_of_lt h)).symm] at this⟩
/-! Rm -/
theorem rr_mid {w : World} {mean : ExcName → Option Value} {mg mb : Str → Option Value} {dp un : Nat} {gd : Option (List Code)} {outer : List Env} {A₀ : Around} {base g : Heap} {L c1 c2 : Addr} {s : Shared} {m : Str → Option Value} {PP : Flow → Shared → Prop}
    (B : Below A₀ base outer g) (F : Fr g L s.heap m) (X : (hd.heap_1 w.params).In g) (T : Top hd.view_1 (looseW hd.view_1 []) mean mg mb g) (hdp : dp + 9 < recursionLimit) (hun : un + 72 < cLine)
    {c : Nat → Nat} {xv : Nat → Value} {ac TT : Addr} {ta : Tok} {nac : Nat} {e : Nat → Nat} {rz : List (Addr × Tok × Tok × Tok)} {cs' : List (Addr × Tok × Tok)} {o to : Obj} {tt : Nat → Tok} {rs : List Rw} {rl sl : Addr} {nr ns many : Nat} {tl : Int} {ts : Nat → Tok} {tm t0 : Tok} {FX : List (Addr × Obj)} {o1 o2 : Obj} {v2 : Option Value}
    (N : News g L s.heap ((c2, o2) :: FX)) (XB : (hd.heap_1 w.params).In base) (TB : Top hd.view_1 (looseW hd.view_1 []) mean mg mb base) (hc1 : (c1, o1) ∈ FX) (hM : o1.data = .cell (some (.int (many : Int) tm))) (hd2 : o2.data = .cell v2) (hoff : ∀ p ∈ FX, p.1 ≠ c2)
    (hS : ∀ p ∈ scanL w c xv 1 3 0, p ∈ FX) (hA : (ac, listOf #[.int 0 ta] nac) ∈ FX) (hx2 : xv 2 = .ref ac) (hY : (sl, listOf (symL ts).toArray ns) ∈ FX) (hT : ∀ p ∈ (TT, to) :: (e 12, keyObj (e 13, e 14)) :: tabL w e rz cs' o tt, p ∈ FX) (ht : Tab PySem.Challenge.rw_nz0255_01.row.prog w e rz cs' o) (hto : TabObj PySem.Challenge.rw_nz0255_01.row.prog w (e 12) (e 0) to)
    (hR : ∀ p ∈ rwL rs, p ∈ FX) (hl : (rl, listOf (rwR rs).toArray nr) ∈ FX) (hv : rs.map (·.v) = vals many tl) (hm : many ≤ 90) (h7 : tl.natAbs ≤ 7)
    (hsc : m (Str.ofString "scan") = some (.ref (c 21))) (htb : m (Str.ofString "tables") = some (.ref TT)) (hsy : m (Str.ofString "symbols") = some (.ref sl)) (hrw : m (Str.ofString "rows") = some (.ref rl)) (htl : m (Str.ofString "tail") = some (.int tl t0))
    (fin : ∀ (h : Heap) (tk : Nat) (g' : Heap) (m' : Str → Option Value), KtsTurn (outer.filterMap (·.frame)) g g' → Fr g' L h m' → PP (.ret (.bool true)) { s with heap := h, toks := tk }) : wpC (model PySem.Challenge.rw_nz0255_01.row.prog w) (rrA dp un gd L c1 c2 outer) (execs (rrB.drop 3) (rrE L c1 c2)) PP NoE s := by
  obtain ⟨sh, sg, sd, st, so⟩ := s
  dsimp only at F N fin ⊢
  have hn : rs.length = many + (if tl = 0 then 0 else 1) := by
    have := congrArg List.length hv
    rwa [List.length_map, vals_length] at this
  have hlen : rs.length ≤ 100 := by rw [hn]; exact Nat.le_trans (Nat.add_le_add hm (by split <;> decide : _ ≤ 1)) (by decide)
  have hBL := BL_len hm h7
  refine rr3 B F X T hdp hun N hS hA hx2 hsc htb ?_
  intro h3 tk3 c9 c10 t1 t2 tr F3 N3 hO h2n hD hTT
  have htb' : m (Str.ofString "tables") = some (.ref (c9 8)) := hTT.symm ▸ htb
  have hKT : ∀ p ∈ ( (jk c9 c10 c) 14, keyObj ( (jk c9 c10 c) 19, (jk c9 c10 c) 20)) :: tabsL w (jk c9 c10 c) e rz cs' o to tt, p ∈ (c10 14, keyObj (c10 19, c10 20)) :: FX := fun p hp => by
    rcases List.mem_cons.mp hp with rfl | hp
    · exact .head _
    refine .tail _ (hT p ?_)
    rw [← hTT]
    exact hp
  have hT8 : ∀ p ∈ tabsL w (jk c9 c10 c) e rz cs' o to tt, p ∈ (c10 14, keyObj (c10 19, c10 20)) :: FX := fun p hp => hKT p (.tail _ hp)
  have hS' : ∀ p ∈ scanL w (jk c9 c10 c) xv 1 3 0, p ∈ (c10 14, keyObj (c10 19, c10 20)) :: FX := fun p hp => .tail _ (hS p hp)
  have hR' : ∀ p ∈ rwL rs, p ∈ (c10 14, keyObj (c10 19, c10 20)) :: FX := fun p hp => .tail _ (hR p hp)
  have hoff' : ∀ p ∈ (c10 14, keyObj (c10 19, c10 20)) :: FX, p.1 ≠ c2 := (fm (ne_of N3 (.tail _ (List.mem_append_right (acwL w (jk c9 c10 c) ((0 : Nat) : Int) tr ++ sinkL w (jk c9 c10 c) #[] 0 0 t1 t2) (.head _))) (.head _) (fun q => by have := congrArg Obj.data q; rw [hd2] at this; simp at this)) (hoff))
  have hl' : (rl, listOf (rwR rs).toArray nr) ∈ (c10 14, keyObj (c10 19, c10 20)) :: FX := .tail _ hl
  have hA' : (ac, listOf #[.int 0 ta] nac) ∈ (c10 14, keyObj (c10 19, c10 20)) :: FX := .tail _ hA
  have hY' : (sl, listOf (symL ts).toArray ns) ∈ (c10 14, keyObj (c10 19, c10 20)) :: FX := .tail _ hY
  have hc1' : (c1, o1) ∈ (c10 14, keyObj (c10 19, c10 20)) :: FX := .tail _ hc1
  generalize (c10 14, keyObj (c10 19, c10 20)) :: FX = FK at *
  refine rr4 B F3 X T hdp hun N3 hO h2n hD rfl ?_
  intro h4 tk4 tr4 F4 N4
  clear F3 N3
  refine rr5 (c := (jk c9 c10 c)) (e := e) (rz := rz) (cs' := cs') (o := o) (to := to) (tt := tt) B F4 X T hdp hun N4 hKT hO h2n ht hto hD .init (by decide) hm h7 hS' hR' hl' hv rfl hrw ?_
  intro h5 tk5 rv bs5 r5 z5 t15 t25 tr5 F5 N5 W5 hz5
  clear F4 N4
  refine rr6 (c := (jk c9 c10 c)) (e := e) (rs := rz) (cs' := cs') (o := o) (to := to) (tt := tt) B F5 X T hdp hun N5 hKT hO h2n ht hto hD W5 hz5 (wn_le hm) (Nat.lt_of_le_of_lt (wb_len hm h7) (by decide)) rfl ?_
  rw [w_end hn]
  intro h6 tk6 to6 F6 N6
  clear F5 N5
  have N6' : News g L h6 ((c2, o2) :: (c1, o1) :: FK) := (fm (N6 _ (.head _)) (fm (N6 _ (.tail _ hc1')) (news_tail N6)))
  refine rr7 B F6 X T hdp hun N6' hM hm ?_
  intro h7' tk7 tp F7 N7
  refine rr8 B F7 X T hdp hun N7 hM hm hY' rfl hsy ?_
  intro h8 tk8 tx F8 N8
  refine rr9 B F8 X T hdp hun N8 hM hm rfl ?_
  intro h9 tk9 F9 N9
  clear F7 N7 F8 N8 F6 N6 N6'
  refine rr10 B F9 X T hdp hun (fun p hp => N9 p (by rcases List.mem_cons.mp hp with rfl | hp; exact .head _; exact .tail _ (.tail _ hp))) h7 (Nat.le_trans (run_len hm) (by decide)) hY' htl hsy rfl ?_
  intro h10 tk10 us tx10 F10 N10
  clear F9 N9
  refine rr11 (bl := BL many tl) B F10 X T hdp hun N10 (Nat.le_trans hBL (by decide)) rfl rfl ?_
  intro h11 tk11 F11 N11
  refine rr12 (c := (jk c9 c10 c)) B F11 X T hdp hun N11 hd2 hoff' hS' hA' hT8 ht hto hx2 hsc htb' ?_
  intro h12 tk12 d tr12 o22 F12 N12 hd22 hdO hd2n hdd
  refine rr13 (c := (jk c9 c10 c)) (ol := octL (BL many tl)) B F12 X T hdp hun N12 hd22 hdO hd2n hdd rfl ?_
  intro h13 tk13 b t13 tr13 F13 N13 hbO hb2n hbD
  clear F10 N10 F11 N11 F12 N12
  refine rr14 (many := 0) (tl := 0) (c := (jk c9 c10 c)) (ps := ps many tl) (ks := ks many) B F13 X T hdp hun N13 hd22 hbO hb2n hbD hS' hT8 ht hR' hl' hlen (octL_small hBL) (nxt_all hm h7 hv) hrw ?_
  intro h14 tk14 tr14 t14 F14 N14
  rw [ks_end hn] at N14
  refine rr15 B F14 X T hdp hun N14 hd22 ?_
  intro h15 tk15 F15 N15
  clear F13 N13 F14 N14
  refine rr16 (c := (jk c9 c10 c)) (ol := octL (BL many tl)) B F15 X T hdp hun (fun p hp => N15 p (.tail _ (by rcases List.mem_cons.mp hp with rfl | hp; exact List.mem_append_right _ hc1'; exact List.mem_append_right _ hp))) XB TB hM hS' hA' hT8 ht hto hx2 hsc htb' rfl (octL_small hBL) (nxt_two hm) ?_
  intro h16 tk16 g16 K16 F16
  exact fin _ _ _ _ K16 F16
/-! Rz -/
noncomputable def NoCell (l : List (Addr × Obj)) : Prop := ∀ p ∈ l, ∀ v, p.2.data ≠ .cell v
theorem NoCell.app {a b : List (Addr × Obj)} (h : NoCell a) (k : NoCell b) : NoCell (a ++ b) := List.forall_mem_append.mpr ⟨h, k⟩
theorem NoCell.cons {p : Addr × Obj} {b : List (Addr × Obj)} (h : ∀ v, p.2.data ≠ .cell v) (k : NoCell b) : NoCell (p :: b) := (fm (h) (k))
theorem NoCell.nil : NoCell [] := List.forall_mem_nil _
theorem NoCell.off {g h : Heap} {L a : Addr} {o : Obj} {v : Option Value} {big l : List (Addr × Obj)} (H : NoCell l) (N : News g L h big) (ha : (a, o) ∈ big) (hd : o.data = .cell v) (hl : ∀ p ∈ l, p ∈ big) : ∀ p ∈ l, p.1 ≠ a := fun p hp e => by
  have h1 := (N p (hl p hp)).1
  rw [e, (N _ ha).1] at h1
  have h2 : o = p.2 := Option.some.inj h1
  exact H p hp v (h2 ▸ hd)
theorem rows_nc : ∀ (rs : List (Addr × Tok × Tok × Tok)) (k : Nat), NoCell (rowsFrom k rs)
  | [], _ => .nil
  | _ :: rs, k => .cons (fun v q => by simp at q) (rows_nc rs (k + 1))
theorem codes_nc : ∀ (cs : List (Addr × Tok × Tok)) (k : Nat), NoCell (codesFrom k cs)
  | [], _ => .nil
  | _ :: cs, k => .cons (fun v q => by simp at q) (codes_nc cs (k + 1))
theorem tabL_nc {prog : Program} {w : World} {e : Nat → Nat} {rz : List (Addr × Tok × Tok × Tok)} {cs' : List (Addr × Tok × Tok)} {o : Obj} {tt : Nat → Tok} (ht : Tab prog w e rz cs' o) : NoCell (tabL w e rz cs' o tt) := by
  obtain ⟨_, _, ⟨es, ep, _, he, _⟩, _⟩ := ht
  exact .cons (fun v q => by simp [instObj] at q) (.cons (fun v q => by simp [dictOf] at q) (.cons (fun v q => by rw [show (e 2, o).2.data = _ from he] at q; cases q) (.cons (fun v q => by simp at q) (.cons (fun v q => by simp at q) ((rows_nc _ _).app (codes_nc _ _))))))
theorem scanL_nc {w : World} {c : Nat → Nat} {xv : Nat → Value} {st en lo : Int} : NoCell (scanL w c xv st en lo) := .cons (fun v q => by simp [instObj] at q) (.cons (fun v q => by simp [dictOf] at q) .nil)
theorem rwL_nc : ∀ rs : List Rw, NoCell (rwL rs)
  | [] => .nil
  | _ :: rs => .cons (fun v q => by simp at q) (rwL_nc rs)
theorem rr_spec {w : World} {mean : ExcName → Option Value} {mg mb : Str → Option Value} {dp un : Nat} {gd : Option (List Code)} {cn : Str} {cs : Scope} {ca : Addr} {ccd : Value} {cl : List (Str × Addr)} {outer : List Env} {A₀ : Around} {base h₀ : Heap} {L : Addr} {m : Str → Option Value} {s : Shared} {Q : Value → Shared → Prop}
    (B : Below A₀ base outer h₀) (F : Fr h₀ L s.heap m) (X : (hd.heap_1 w.params).In h₀) (T : Top hd.view_1 (looseW hd.view_1 []) mean mg mb h₀) (hk : cs.kind = .function) (hdp : dp + 10 < recursionLimit) (hun : un + 80 < cLine)
    {many : Nat} {tl : Int} {t1 t2 : Tok} (N : News h₀ L s.heap ([])) (hm : many ≤ 90) (h7 : tl.natAbs ≤ 7)
    (XB : (hd.heap_1 w.params).In base) (TB : Top hd.view_1 (looseW hd.view_1 []) mean mg mb base) (hret : ∀ (h' : Heap) (tk' : Nat) (g' : Heap), Back h₀ L m outer A₀ base ([]) s.heap h' [] g' → Q (.bool true) { s with heap := h', toks := tk' }) :
    wpC (model PySem.Challenge.rw_nz0255_01.row.prog w) (ktrTop dp un gd cn cs L ca ccd cl outer) (call (.ref 550) [.int (many : Int) t1, .int tl t2]) Q NoE s := by
  refine with_as N fun as has => ?_
  refine c_call ?_
  refine codeC_defCT (by k_asm) (by k_asm) XB (by k_asm) TB rfl rfl (by assumption) (by k_is) (by k_is) (lt_dp hdp) (BindsTo.of_eq rfl) rfl (by decide +kernel) has ?_ rfl rfl rfl
  intro g' L' h' tk' cells' PP F' N' Y' B' X' T' l1 HE
  obtain ⟨o2, o1, hE, d2, d1⟩ := CellsAre.two Y'
  subst hE
  have N0 : News g' L' h' [(L' + 1 + 1, o2), (L' + 1, o1)] := N'
  have F0 : Fr g' L' h' (upd (Str.ofString "tail") (some (.int tl t2)) fun _ => none) := F'
  have hM : o1.data = .cell (some (.int (many : Int) t1)) := d1
  have hd2 : o2.data = .cell none := d2
  have hnc : @Ne Nat (L' + 1) (L' + 1 + 1) := Nat.ne_of_lt (Nat.lt_succ_self _)
  clear F' N' Y' d1 d2 l1
  refine rr0 (c1 := L' + 1) (c2 := L' + 1 + 1) B' F0 X' T' (room_lt (j := 10) hdp (by decide)) (room_lt (j := 75) hun (by decide)) N0 ?_
  intro h0 tk0 c xv ac sl ta ts ns F1 N1 hx2
  clear F0 N0
  refine rr1 (FX := (ac, listOf #[.int 0 ta] 0) :: (sl, listOf (symL ts).toArray ns) :: scanL w c xv 1 3 0) B' F1 X' T' (room_lt (j := 10) hdp (by decide)) (room_lt (j := 75) hun (by decide)) N1 (.tail _ (.head _)) rfl ?_
  intro h1 tk1 TT e rz cs' o to tt F2 N2 ht hto
  clear F1 N1
  refine rr2 (tl := tl) (t0 := t2) B' F2 X' T' (room_lt (j := 10) hdp (by decide)) (room_lt (j := 75) hun (by decide)) N2 hM hm rfl ?_
  intro h2 tk2 rs rl nr F3 N3 hv
  clear F2 N2
  obtain ⟨_, es, ep, he, _⟩ := id hto
  have hnc2 : NoCell (((TT, to) :: (e 12, keyObj (e 13, e 14)) :: (tabL w e rz cs' o tt ++ ((ac, listOf #[.int 0 ta] 0) :: (sl, listOf (symL ts).toArray ns) :: scanL w c xv 1 3 0))) ++ ((rl, listOf (rwR rs).toArray nr) :: rwL rs)) :=
    (NoCell.cons (fun v q => by rw [show (TT, to).2.data = _ from he] at q; cases q) (.cons (fun v q => by simp at q) ((tabL_nc ht).app (.cons (fun v q => by simp at q) (.cons (fun v q => by simp at q) scanL_nc))))).app (.cons (fun v q => by simp at q) (rwL_nc rs))
  have hoff : ∀ p ∈ (L' + 1, o1) :: (((TT, to) :: (e 12, keyObj (e 13, e 14)) :: (tabL w e rz cs' o tt ++ ((ac, listOf #[.int 0 ta] 0) :: (sl, listOf (symL ts).toArray ns) :: scanL w c xv 1 3 0))) ++ ((rl, listOf (rwR rs).toArray nr) :: rwL rs)), p.1 ≠ L' + 1 + 1 :=
    (fm (hnc) (hnc2.off N3 (.head _) hd2 fun p hp => .tail _ (.tail _ hp)))
  clear hnc2 he
  refine rr_mid (many := many) (tl := tl) (c := c) (xv := xv) (ac := ac) (e := e) (o := o) (to := to) (rs := rs) (rl := rl) (sl := sl) (ts := ts) (ns := ns) (nr := nr) (ta := ta) (nac := 0) (tt := tt) (t0 := t2) B' F3 X' T' (room_lt (j := 10) hdp (by decide)) (room_lt (j := 75) hun (by decide)) N3 XB TB (.head _) hM hd2 hoff ?_ ?_ hx2 ?_ ?_ ht hto ?_ ?_ hv hm h7 rfl rfl rfl rfl rfl ?_
  · exact fun p hp => .tail _ (List.mem_append_left _ (.tail _ (.tail _ (List.mem_append_right _ (.tail _ (.tail _ hp))))))
  · exact .tail _ (List.mem_append_left _ (.tail _ (.tail _ (List.mem_append_right _ (.head _)))))
  · exact .tail _ (List.mem_append_left _ (.tail _ (.tail _ (List.mem_append_right _ (.tail _ (.head _))))))
  · intro p hp
    rcases List.mem_cons.mp hp with rfl | hp
    · exact .tail _ (.head _)
    rcases List.mem_cons.mp hp with rfl | hp
    · exact .tail _ (.tail _ (.head _))
    · exact .tail _ (List.mem_append_left _ (.tail _ (.tail _ (List.mem_append_left _ hp))))
  · exact fun p hp => .tail _ (List.mem_append_right _ (.tail _ hp))
  · exact .tail _ (List.mem_append_right _ (.head _))
  · intro h tk g1 m1 K1 F4
    exact HE _ _ _ _ [] K1 F4 (fun _ h => nomatch h) fun g0 b0 => hret _ _ _ (b0.less (a := []) (r := []) N has (List.forall_mem_nil _))
section
local macro_rules | `(tactic| walk_at "call ref") => `(tactic| (k_here; (with_reducible show wpAny _ _ (call (Value.ref _) _) _ _ _); refine stopCall ?_))
/-! L1 -/
theorem law4 {w : World} {mean : ExcName → Option Value} {mg mb : Str → Option Value} {dp un : Nat} {gd : Option (List Code)} {base : Heap} {L a : Addr} {cd : Value} {s : Shared} {m : Str → Option Value} {PP : Flow → Shared → Prop}
    (B : Below callerA base [] base) (F : Fr base L s.heap m) (X : (hd.heap_1 w.params).In base) (T : Top hd.view_1 (looseW hd.view_1 []) mean mg mb base) (hdp : dp + 11 < recursionLimit) (hun : un + 90 < cLine)
    {r : Addr} {a0 b0 : Int} {ta tb tm tt : Tok} {n k : Nat} {tl : Int} (N : News base L s.heap (SrcL r a0 b0 ta tb n)) (hm : m (Str.ofString "many") = some (.int (k : Int) tm)) (ht : m (Str.ofString "tail") = some (.int tl tt)) (hk : k ≤ 90) (h7 : tl.natAbs ≤ 7)
    (next : ∀ (h : Heap) (tk : Nat) , Fr base L h (m) → News base L h (SrcL r a0 b0 ta tb n) → wpC (model PySem.Challenge.rw_nz0255_01.row.prog w) (lwA dp un gd L a cd) (execs (lwB.drop 5) (lwE L a cd)) PP NoE { s with heap := h, toks := tk }) : wpC (model PySem.Challenge.rw_nz0255_01.row.prog w) (lwA dp un gd L a cd) (execs (lwB.drop 4) (lwE L a cd)) PP NoE s := by
  obtain ⟨sh, sg, sd, st, so⟩ := s
  dsimp only at F N next ⊢
  refine c_execs_cons (c_if_not (k_name ?_))
  k_fold
  k_steps
  refine ⟨?_⟩
  refine c_callK (K := hd.heap_1 w.params) (by k_is) ?_
  refine c_spliced_cons (k_arg ?_)
  k_steps
  refine ⟨?_⟩
  refine c_spliced_cons (k_arg ?_)
  k_steps
  refine ⟨?_⟩
  refine c_spliced_nil ⟨by k_in, ?_⟩
  (try dsimp only [List.cons_append, List.nil_append])
  (with_reducible rename Fr _ _ _ _ => F5)
  (with_reducible rename News _ _ _ _ => N5)
  refine rr_spec (by k_asm) (by k_asm) (by assumption) (by k_asm) rfl (room_lt (j := 10) hdp (by decide)) (room_lt (j := 80) hun (by decide)) News.nil hk h7 X T ?_
  intro h8 tk8 g8 b8
  obtain ⟨F9, N9⟩ := b8.flat N5 fun p _ => .inl List.not_mem_nil
  refine ⟨rfl, ?_⟩
  refine c_execs_nil ?_
  exact next _ _ F9 N9
theorem law5 {w : World} {mean : ExcName → Option Value} {mg mb : Str → Option Value} {dp un : Nat} {gd : Option (List Code)} {base : Heap} {L a : Addr} {cd : Value} {s : Shared} {m : Str → Option Value} {PP : Flow → Shared → Prop}
    (B : Below callerA base [] base) (F : Fr base L s.heap m) (X : (hd.heap_1 w.params).In base) (T : Top hd.view_1 (looseW hd.view_1 []) mean mg mb base) (hdp : dp + 11 < recursionLimit) (hun : un + 90 < cLine)
    {r : Addr} {a0 b0 : Int} {ta tb : Tok} {n : Nat} (N : News base L s.heap (SrcL r a0 b0 ta tb n)) (hs : m (Str.ofString "source") = some (.ref r)) (ha : 0 ≤ a0) (hb : 0 ≤ b0) (hb2 : b0 < 2147483647)
    (fin : ∀ (h : Heap) (tk : Nat), Fr base L h m → PP (.ret (.bool true)) { s with heap := h, toks := tk }) : wpC (model PySem.Challenge.rw_nz0255_01.row.prog w) (lwA dp un gd L a cd) (execs (lwB.drop 5) (lwE L a cd)) PP NoE s := by
  obtain ⟨sh, sg, sd, st, so⟩ := s
  dsimp only at F N fin ⊢
  refine c_execs_cons (c_Return (k_name ?_))
  k_fold
  k_steps
  refine ⟨?_⟩
  refine c_callK (K := hd.heap_1 w.params) (by k_is) ?_
  refine c_spliced_cons (k_arg ?_)
  k_steps
  refine ⟨?_⟩
  refine c_spliced_cons (k_arg ?_)
  k_steps
  (with_reducible rename (∀ p ∈ SrcL _ _ _ _ _ _, p.1 < _) => l9)
  have hne := Nat.ne_of_gt (l9 _ (.head _))
  refine ⟨?_⟩
  (with_reducible rename Fr _ _ _ _ => F5)
  (with_reducible rename News _ _ _ _ => N5)
  refine draw_spec (by k_asm) (by k_asm) (by assumption) (by k_asm) rfl (room_lt (j := 1) hdp (by decide)) (room_lt (j := 8) hun (by decide)) (news_tail N5) (by decide) (by decide) ha hb hb2 ?_
  intro h8 tk8 z t8 a8 b8 ta8 tb8 n8 F8 N8 K8 za zb ha hb hb2
  have N9 := keep_cons N5 K8 (fun q => hne (List.mem_singleton.mp q)) N8
  clear N5 N8 K8
  have hz : z = 0 ∨ z = 1 := by omega
  rcases hz with rfl | rfl
  · k_steps
    refine ⟨?_⟩
    (with_reducible rename And _ _ => l8)
    have hr : @Ne Nat r _ := Nat.ne_of_lt l8.2.1
    refine c_spliced_cons (k_arg ?_)
    k_steps
    refine ⟨?_⟩
    (with_reducible rename Fr _ _ _ _ => F5)
    (with_reducible rename News _ _ _ _ => N5)
    refine draw_spec (by k_asm) (by k_asm) (by assumption) (by k_asm) rfl (room_lt (j := 1) hdp (by decide)) (room_lt (j := 8) hun (by decide)) (news_tail (news_tail N5)) (by decide) (by decide) ha hb hb2 ?_
    intro h8 tk8 lo t8 a8 b8 ta8 tb8 n8 F8 N8 K8 la lb ha hb hb2
    have N9 := keep_cons N5 K8 (fun q => hr (List.mem_singleton.mp q).symm) N8
    clear N5 N8 K8
    k_steps
    refine ⟨?_⟩
    refine c_spliced_nil ⟨by k_in, ?_⟩
    (try dsimp only [List.cons_append, List.nil_append])
    (with_reducible rename Fr _ _ _ _ => F5)
    (with_reducible rename News _ _ _ _ => N5)
    refine single_spec (vs := [_]) (npl := 0) (pl := _) (by k_asm) (by k_asm) (by assumption) (by k_asm) rfl (room_lt (j := 10) hdp (by decide)) (room_lt (j := 80) hun (by decide)) (news_app (news_tail N5) ((fm (N5 _ (.head _)) (List.forall_mem_nil _)))) hr (by simp) (by simp) (by simp) la lb ha hb hb2 X T ?_
    intro h9 tk9 g9 b9
    obtain ⟨F9, _⟩ := b9.flat (l := []) (fun _ h => nomatch h) fun _ h => nomatch h
    exact fin _ _ F9
  · k_steps
    refine ⟨?_⟩
    (with_reducible rename And _ _ => l8)
    have hr : @Ne Nat r _ := Nat.ne_of_lt l8.2.1
    refine c_spliced_cons (k_arg ?_)
    k_steps
    refine ⟨?_⟩
    (with_reducible rename Fr _ _ _ _ => F5)
    (with_reducible rename News _ _ _ _ => N5)
    refine draw_spec (by k_asm) (by k_asm) (by assumption) (by k_asm) rfl (room_lt (j := 1) hdp (by decide)) (room_lt (j := 8) hun (by decide)) (news_tail (news_tail N5)) (by decide) (by decide) ha hb hb2 ?_
    intro h8 tk8 lo t8 a8 b8 ta8 tb8 n8 F8 N8 K8 la lb ha hb hb2
    have N9 := keep_cons N5 K8 (fun q => hr (List.mem_singleton.mp q).symm) N8
    clear N5 N8 K8
    k_steps
    refine ⟨?_⟩
    refine c_spliced_nil ⟨by k_in, ?_⟩
    (try dsimp only [List.cons_append, List.nil_append])
    (with_reducible rename Fr _ _ _ _ => F5)
    (with_reducible rename News _ _ _ _ => N5)
    refine single_spec (vs := [_, _]) (npl := 0) (pl := _) (by k_asm) (by k_asm) (by assumption) (by k_asm) rfl (room_lt (j := 10) hdp (by decide)) (room_lt (j := 80) hun (by decide)) (news_app (news_tail N5) ((fm (N5 _ (.head _)) (List.forall_mem_nil _)))) hr (by simp) (by simp) (by simp) la lb ha hb hb2 X T ?_
    intro h9 tk9 g9 b9
    obtain ⟨F9, _⟩ := b9.flat (l := []) (fun _ h => nomatch h) fun _ h => nomatch h
    exact fin _ _ F9
end
end
theorem holds : PySem.Challenge.rw_nz0255_01.Holds := by
  refine hd ⟨left_of _, ?_⟩
  k_fill
  intro w s₀ s₁ mg mb G Y fa o pm cd doc dV kV ho hd hcd hD hmg hg args vals as hpre hlay hrd hwl hlo
  have KX := kIn_of Y
  refine Ground.open G ?_
  intro T B D TE TW
  clear B D TE TW
  have he := Dflts.none hD rfl
  subst he
  have he := Dflts.noKw hD
  subst he
  wrow_args hpre hlay hrd hwl hlo
  rename_i ns hs _ hlay0 _ _ _ _ l vs _ hl _ _ _ hi _ hn _
  have hlen : ns.length ≤ 63 := by omega
  refine c_mono (Q := fun v s' => GoodWG _ _ _ _ s₁ (.ok (.ret v)) s') (E := NoE) ?_ (fun _ _ z => z) fun _ _ z => z.elim
  refine c_call ?_
  refine codeC_call_def (body := lwB) (by decide) ho hd T.nolimit hcd rfl (BindsTo.of_eq rfl) (by show ∀ x ∈ lwS.names, x.2 ≠ .cell; decide +kernel) (locs rfl) (fun h₁ hns hk => ?_) rfl rfl rfl
  have F : Fr s₁.heap s₁.heap.objs.size h₁ _ := ⟨hns, hk, Nat.le_refl _⟩
  refine law0 (L := s₁.heap.objs.size) (a := fa) (cd := cd) (below_caller _) F KX T (by decide) (by rw [cLine_is]; decide) News.nil hl hi hlen hlay0 rfl ?_
  intro h2 tk2 r a0 b0 ta tb n F2 N2 ha hb hb2
  refine law1 (below_caller _) F2 KX T (by decide) (by rw [cLine_is]; decide) N2 rfl ha hb hb2 ?_
  intro h3 tk3 k3 t3 a0 b0 ta tb n F3 N3 hk3 ha hb hb2
  refine law2 (below_caller _) F3 KX T (by decide) (by rw [cLine_is]; decide) N3 rfl ha hb hb2 ?_
  intro h4 tk4 tl t4 a0 b0 ta tb n F4 N4 h7 ha hb hb2
  refine law3 (below_caller _) F4 KX T (by decide) (by rw [cLine_is]; decide) N4 rfl rfl hk3 ?_
  intro h5 tk5 k5 t5 F5 N5 hk5
  refine law4 (below_caller _) F5 KX T (by decide) (by rw [cLine_is]; decide) N5 rfl rfl hk5 h7 ?_
  intro h6 tk6 F6 N6
  refine law5 (below_caller _) F6 KX T (by decide) (by rw [cLine_is]; decide) N6 rfl ha hb hb2 ?_
  intro h7 tk7 F7
  refine GoodW.toG (goodW_bool F7 hg (raisesW_false ?_) ?_)
  · wrow_none_raised
  · wrow_post
end Mine
set_option maxHeartbeats 8000000 in
theorem PySem.Challenge.cw_nz0255_01_holds : PySem.Challenge.rw_nz0255_01.Holds := by
  exact Mine.holds
