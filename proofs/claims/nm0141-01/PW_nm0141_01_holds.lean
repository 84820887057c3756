import PyProof.Rows.All
import Wide.All
import OpenK.AllK
import Wide.FinOn
import KE.BytesMake
import KE.KTryMore
import Lean
import PySem.Challenge.RW_nm0141_01
open PySem PySem.W PyProof.Rows PySem.Calls
set_option Elab.async false
set_option maxRecDepth 100000
set_option genSizeOf false
set_option genInjectivity false
set_option linter.unusedVariables false
set_option linter.unusedSimpArgs false
namespace Mine
universe u
theorem hide {G : Prop} (h : ∀ P : Prop, (G → P) → P) : G := h G id
@[elab_as_elim] theorem rwP {α : Sort u} {a b : α} {motive : α → Prop} (e : a = b) (h : motive b) : motive a := by cases e; exact h
@[elab_as_elim] theorem rwB {α : Sort u} {a b : α} {motive : α → Prop} (e : b = a) (h : motive b) : motive a := by cases e; exact h
end Mine
section
namespace Mine
noncomputable def badIds : List String := ["bytearray.__contains__", "bytearray.find.held", "bytearray.__mod__", "bytearray.__rmod__", "_struct.pack_into.held"] ++ Builtin.Bytes.decodersThatHold
noncomputable def nice : Code → Bool
  | .builtin id _ => !badIds.contains id
  | _ => true
noncomputable def Nice (Γ : Ctx) : Prop := ∀ x ∈ Γ.below, nice x.1 = true
noncomputable def wpI {α : Type} (M : Model) (A : Around) (t : Sem α) (Q : α → Shared → Prop) (E : Value → Shared → Prop) (s : Shared) : Prop :=
  ∀ Γ p, Γ.In A → nice Γ.code = true → Nice Γ → Sem.wp M Γ t (fun a _ s' => Q a s') (fun e _ s' => E e s') p s
section
variable {α β : Type} {M : Model} {A : Around} {E : Value → Shared → Prop} {s : Shared}
theorem of {t : Sem α} {Q : α → Shared → Prop} (h : PySem.wpAny M A t Q E s) : wpI M A t Q E s := fun Γ p h1 _ _ => h Γ p h1
theorem wpI_pure {a : α} {Q : α → Shared → Prop} (h : Q a s) : wpI M A (pure a) Q E s := fun _ _ _ _ _ => h
theorem wpI_mono {t : Sem α} {Q Q' : α → Shared → Prop} {E' : Value → Shared → Prop} (h : wpI M A t Q E s) (hQ : ∀ a s, Q a s → Q' a s) (hE : ∀ e s, E e s → E' e s) : wpI M A t Q' E' s :=
  fun Γ p hΓ n1 n2 => Sem.wp_mono M Γ t (fun a _ s => hQ a s) (fun e _ s => hE e s) p s (h Γ p hΓ n1 n2)
theorem wpI_bind {m : Sem α} {f : α → Sem β} {Q : β → Shared → Prop} (h : wpI M A m (fun a s' => wpI M A (f a) Q E s') E s) : wpI M A (m >>= f) Q E s := fun Γ p hΓ n1 n2 => by
  rw [Sem.wp_bind']
  exact Sem.wp_mono M Γ m (fun a p' s' h' => h' Γ p' hΓ n1 n2) (fun _ _ _ h' => h') p s (h Γ p hΓ n1 n2)
end
theorem thread_ends {prog : Program} {w : World} {t : Sem Fin} {s : Shared} {R : Result → Shared → Prop} (hreg : s.asleep)
    (h : wpI (model prog w) callerA t (fun fin s' => ∃ f, fin = .done f ∧ (R (.ok f) s' ∧ leftWithCleanup s'.gens = false)) (fun e s' => R (.error e) s' ∧ leftWithCleanup s'.gens = false) s)
    {G : Prop} (k : ∀ n r s' s'', runN (denote table) prog w n s ⟨t, .builtin "claim.caller" {}, default, []⟩ = .halted (outcomeOf r) s' →
      schedN (denote table) prog w n (.single s ⟨t, .builtin "claim.caller" {}, default, []⟩) = .halted (outcomeOf r) s' → s'.forget = s''.forget → R r s'' → G) : G := by
  obtain ⟨n, r, s₁, s₂, hs, hn, hfo, hR⟩ := wp_halts_full (M := model prog w) (R := R) (c := .builtin "claim.caller" {}) (t := t) (p := default) hreg (by
    refine Sem.wp_mono _ _ t (fun fin p' s' h' => ?_) (fun _ _ _ h' => h') default s (h _ default caller_in rfl (fun x hx => absurd hx List.not_mem_nil))
    obtain ⟨f, rfl, hf⟩ := h'
    exact hf)
  exact k n r s₂ s₁ hn hs hfo hR
theorem callFrom {c : ClaimW} {tree : List Value → Sem Fin} {w : World} {s : Shared} {free : Addr → Prop} {gens : Prop} {kept : Heap → Prop} (hz : s.asleep) (hgens : s.gens = #[])
    (hspec : ∀ args, c.pre args = true → WData.layableAll args = true →
      ∀ ord : List DictEntry → List DictEntry, (∀ l, (ord l).Perm l) →
      ∃ vs s₁, layAllW c.records (classAt s.heap) w.params ord args s = some (vs, s₁) ∧
        wpI (model c.prog w) callerA (tree vs) (fun fin s' => ∃ f, fin = .done f ∧ (c.Ends s args vs s₁ (.ok f) s' ∧ s'.os = s.os ∧ AllBare s'.gens ∧ kept s'.heap))
          (fun e s' => c.Ends s args vs s₁ (.error e) s' ∧ s'.os = s.os ∧ AllBare s'.gens ∧ kept s'.heap) s₁) :
    c.CallFrom (fun vs => ⟨tree vs, .builtin "claim.caller" {}, default, []⟩) w free gens kept s := by
  intro args hpre hlay ord hord
  refine hide fun Ph hPh => ?_
  obtain ⟨vs, s₁, hlaid, hcode⟩ := hspec args hpre hlay ord hord
  have hal := layAllW_rest _ _ _ hlaid
  refine thread_ends (prog := c.prog) (w := w) (t := tree vs) (s := s₁)
    (R := fun r s' => c.Ends s args vs s₁ r s' ∧ s'.os = s.os ∧ kept s'.heap)
    (Shared.asleep_of_life hal.2.2.2 hz)
    (wpI_mono hcode (fun fin s' h => h.elim fun f h => ⟨f, h.1, ⟨h.2.1, h.2.2.1, h.2.2.2.2⟩, leftWithCleanup_false_of_bare h.2.2.2.1⟩)
      (fun e s' h => ⟨⟨h.1, h.2.1, h.2.2.2⟩, leftWithCleanup_false_of_bare h.2.2.1⟩)) fun k r s' s'' hrun hsched hfo hR => ?_
  obtain ⟨hcase, hos, hkp⟩ := hR
  have eh := (Shared.forget_eq hfo).1
  have eo := (Shared.forget_eq hfo).2.2.2.1
  have hcase := hcase.congr eh
  have hkp : kept s'.heap := by first | exact eh ▸ hkp | (rw [eh] at hkp; exact hkp) | (rw [← eh] at hkp; exact hkp)
  rw [← eo] at hos
  have hlife : s'.heap.life = s.heap.life := (runN_life _ _ _ hrun).trans hal.2.2.2
  refine hPh ⟨vs, s₁, hlaid, k, _, s', hsched, ?_, (fun _ i x hx => by rw [hgens] at hx; simp at hx), hkp, by refine rwP hlife ?_; rfl, Shared.rest_eq hos⟩
  clear hPh
  refine hide fun Pg hPg => ?_
  rcases hcase with ⟨v, rfl, d1, d2, d3, d4, d5⟩ | ⟨e, ob, cls, rfl, d1, d2, d3, d4, d5⟩
  · exact hPg (.inl ⟨v, rfl, d1, d2, d3, fun b o y _ => d4 b o y, d5⟩)
  · exact hPg (.inr ⟨e, ob, cls, rfl, d1, d2, d3, d4, fun b o y _ => d5 b o y⟩)
theorem opened {r : RowW} {run : Value → List Value → Sem Value} {tree : List Value → Sem Fin} {q : Program} {loose defs kps : List Str} {writes : Bool} {Xt : Shared → Bool} {XP : (Str → Option Value) → Heap → Prop} {α : Type} {Yf : Shared → α} {Ya : World → α} {YP : World → Heap → Prop} {N : Nat}
    (left : LeftO r.prog q loose Xt Yf Ya N) (hY : ∀ w s, Yf s = Ya w → YP w s.heap) (hYk : ∀ w h h', YP w h → (∀ b o, h.get? b = some o → h'.get? b = some o) → YP w h') (hX : ∀ s, Xt s = true → XP (s.heap.nsMap mainGlobals) s.heap) (hXk : ∀ mg h h', XP mg h → (∀ b o, h.get? b = some o → h'.get? b = some o) → XP mg h')
    (hRf : ∀ s, Xt s = true → RecFacts r.records s.heap) (hwr : (!writes || r.records.isEmpty) = true) (ok : (chainsOk q && opensWell r.prog && (frees r && r.within.isEmpty)) = true) (hb : r.prog.bare) (hw : r.promised)
    (ht : ∀ vs (w : World) (s : Shared) mg f (Q : Fin → Shared → Prop) (E : Value → Shared → Prop), s.heap.Ns mainGlobals mg → mg r.name = some f → wpI (model r.prog w) callerA (run f vs) (fun v s' => Q (.done (.ret v)) s') E s → wpI (model r.prog w) callerA (tree vs) Q E s)
    (pin : ∀ w s, s.heap.isNs mainGlobals = true → Ground q loose [] XP w s (s.heap.nsMap mainGlobals) (s.heap.nsMap builtinsNs) s.heap → ∀ n ∈ defs, isTheDefsW r.prog s.heap n)
    (call : ∀ (w : World) (s₀ s₁ : Shared) (mg mb : Str → Option Value), Ground q loose r.records XP w s₀ mg mb s₁.heap → YP w s₁.heap → ∀ (args : List WData) (vs : List Value) (as : List Addr),
      r.claim.pre args = true → WData.layableAll args = true → Laid r.records w s₀ s₁ args vs as → sysModules < s₀.heap.objs.size → ∃ f, mg r.name = some f ∧
        wpI (model r.prog w) callerA (run f vs) (fun v s' => GoodWG r.claim (classAt s₀.heap) (ExcName.means s₀.heap) args s₁ (.ok (.ret v)) s')
          (fun e s' => GoodWG r.claim (classAt s₀.heap) (ExcName.means s₀.heap) args s₁ (.error e) s') s₁) : r.claim.HoldsOpenBy (fun vs => ⟨tree vs, .builtin "claim.caller" {}, default, []⟩) defs kps writes := by
  refine hide fun Ph hPh => ?_
  obtain ⟨ok, k5⟩ := Bool.and_eq_true_iff.mp ok
  obtain ⟨hch, o1⟩ := Bool.and_eq_true_iff.mp ok
  obtain ⟨k5, k6⟩ := Bool.and_eq_true_iff.mp k5
  obtain ⟨hsame, hu, ha, hap, hm⟩ := frees_parts k5
  refine hPh ?_
  refine ⟨⟨hb, o1, by show r.makers.map _ = []; refine rwP hm ?_; rfl⟩, hw.witness, fun w => ⟨(left.behind hX hch w).1, fun s' hs' => ?_⟩⟩
  refine hide fun Ph hPh => ?_
  obtain ⟨s₀, hf, hg0, s, hT, hz, hgens, hg, G00, y⟩ := (left.behind (XP := fun mg h => XP mg h ∧ RecFacts r.records h) (fun s hs => ⟨hX s hs, hRf s hs⟩) hch w).2 s' hs'
  refine hPh ?_
  have G0 : Ground q loose [] XP w s (s.heap.nsMap mainGlobals) (s.heap.nsMap builtinsNs) s.heap := ⟨G00.T, G00.B, G00.D, G00.TE, G00.TD, G00.W, G00.X.1, G00.cls, G00.has, G00.apart, G00.once, G00.K⟩
  have RF := G00.X.2
  have hT' := hT
  refine ⟨s₀, hf, hg0, s, hT, pin w s hg G0, RF.1, RF.2.1, ?_⟩
  have hgens : s.gens = #[] := Array.eq_empty_of_size_eq_zero (beq_iff_eq.mp hgens)
  have G : Ground q loose r.records XP w s _ _ s.heap := RF.ground G0
  refine callFrom (c := r.claim) hz hgens fun args hpre hlay ord hord => ?_
  obtain ⟨⟨vs, s₁⟩, hlaid⟩ := Option.isSome_iff_exists.mp (layAllW_isSome (P := w.params) (ord := ord) G.has args r.args s (pre_splitW hpre).1)
  have keeps := layAllW_keeps _ _ _ hlaid
  have hal := layAllW_rest _ _ _ hlaid
  refine hide fun Ph hPh => ?_
  obtain ⟨as, hrd, hin, hold⟩ := reads_layAllW hord _ _ _ hlaid hlay s₁.heap (fun _ _ e => e)
  refine hPh ?_
  have L : Laid r.records w s s₁ args vs as := ⟨⟨ord, hord, hlaid⟩, hrd, hin, hold, keeps, hal.1.trans hgens, hal.2.2.1⟩
  have G₁ := G.keeps hXk keeps
  obtain ⟨f, hf, h⟩ := call w s s₁ _ _ G₁ (hYk _ _ _ (hY w s y) keeps) args vs as hpre hlay L G.low
  have hi := ident_freeW hu ha hap
  have hwi : r.claim.within = [] := List.isEmpty_iff.mp k6
  exact ⟨vs, s₁, hlaid, ht vs w s₁ _ f _ _ G₁.T.g hf (wpI_mono h (fun v s' g => ⟨_, rfl, have z := g.laid (c := r.claim) hsame hwi hi L; ⟨z.1, z.2.1, z.2.2, fun q => ⟨namesKept_of hT' hg kps keeps g.2.1.old, noTable hwr q⟩⟩⟩) fun e s' g => have z := g.laid (c := r.claim) hsame hwi hi L; ⟨z.1, z.2.1, z.2.2, fun q => ⟨namesKept_of hT' hg kps keeps g.2.1.old, noTable hwr q⟩⟩)⟩
theorem PySem.W.holds_open {r : OpenRow} {q : Program} {loose : List Str} {Xt : Shared → Bool} {XP : (Str → Option Value) → Heap → Prop} {α : Type} {Yf : Shared → α} {Ya : World → α} {YP : World → Heap → Prop} {d : DefRec} {kwd : List (Str × Expr)} {N : Nat}
    (left : LeftO r.prog q loose Xt Yf Ya N) (hY : ∀ w s, Yf s = Ya w → YP w s.heap) (hYk : ∀ w h h', YP w h → (∀ b o, h.get? b = some o → h'.get? b = some o) → YP w h')
    (hX : ∀ s, Xt s = true → XP (s.heap.nsMap mainGlobals) s.heap) (hXk : ∀ mg h h', XP mg h → (∀ b o, h.get? b = some o → h'.get? b = some o) → XP mg h')
    (hdef : defOf q r.name = some (d, kwd)) (hp : r.prog.theDef r.name = some (d.params, d.body, d.scope)) (hk : kwWritten? d.params.kwonlyargs d.params.kw_defaults = some kwd) (hRf : ∀ s, Xt s = true → RecFacts r.records s.heap) (hwr : (!r.writes || r.records.isEmpty) = true)
    (k1 : r.wellSaid = true) (ok : (chainsOk q && opensWell r.prog && (frees r.toRowW && r.within.isEmpty)) = true) (hb : r.prog.bare) (hw : r.toRowW.promised)
    (call : ∀ (w : World) (s₀ s₁ : Shared) (mg mb : Str → Option Value), Ground q loose r.toRowW.records XP w s₀ mg mb s₁.heap → YP w s₁.heap → ∀ (a : Addr) (o : Obj) (pm cd doc dV kV : Value), s₁.heap.get? a = some o →
      o.data = .func { docDef d.name d.params d.body d.scope pm cd doc with defaults := dV, kwdefaults := kV } → s₁.heap.CodeRec cd d.name → Dflts mg s₁.heap d.params kwd dV kV → mg d.name = some (.ref a) → s₁.gens = #[] →
      ∀ (args : List WData) (vals : List Value) (as : List Addr), r.toRowW.claim.pre args = true → WData.layableAll args = true → ReadsAllW r.toRowW.records (classAt s₀.heap) s₁.heap vals args as → WellAll w.params s₁.heap vals args → (∀ a ∈ as, (a == sysModules) = false) →
        wpI (model r.toRowW.prog w) callerA (PySem.call (.ref a) vals) (fun v s' => GoodWG r.toRowW.claim (classAt s₀.heap) (ExcName.means s₀.heap) args s₁ (.ok (.ret v)) s')
          (fun e s' => GoodWG r.toRowW.claim (classAt s₀.heap) (ExcName.means s₀.heap) args s₁ (.error e) s') s₁) : r.Holds := by
  refine ⟨k1, hw, opened (r := r.toRowW) (run := fun f vs => _root_.PySem.call f vs) (tree := fun vs => do match ← nsGet mainNs r.name with
      | some f => do ret (← _root_.PySem.call f vs)
      | none => unsupported "claim.caller:no-such-global") left hY hYk hX hXk hRf hwr ok hb hw
    (fun vs w s mg f Q E hg hf h => wpI_bind (of (wpAny_nsGet hg (by refine rwP hf ?_; exact wpI_bind (wpI_mono h (fun _ _ x => wpI_pure x) fun _ _ x => x)))))
    (fun w s hg G n hn => ?_) fun w s₀ s₁ mg mb G Y args vs as hpre hlay L low => ?_⟩
  · obtain rfl : n = r.name := by split at hn <;> simp_all
    exact pinned_of_view hg G hdef hp hk
  · refine hide fun Ph hPh => ?_
    obtain ⟨a, o, pm, cd, doc, dV, kV, h1, h2, h3, h4, h5⟩ := G.fn hdef
    refine hPh ?_
    exact ⟨.ref a, h1, call w s₀ s₁ mg mb G Y a o pm cd doc dV kV h2 h3 h4 h5 (defOf_name hdef ▸ h1) L.gens args vs as hpre hlay L.reads L.well (L.low low)⟩
end Mine
end
section
namespace Mine
local macro_rules | `(tactic| o_head $_) => `(tactic| skip)
theorem kk (h : PySem.Challenge.rw_nm0141_01.row.Holds) : PySem.Challenge.rw_nm0141_01.row.Holds := by
  k_head
  exact h
end Mine
end
section
namespace Mine
noncomputable def codeI (M : Model) (A : Around) (c : Code) (R : Result → Shared → Prop) (s : Shared) : Prop :=
  ∀ Γ p, Γ.code = c → Γ.Below A → nice c = true → Nice Γ → wpCode M Γ R p s
section
variable {α β : Type} {M : Model} {A : Around} {E : Value → Shared → Prop} {s : Shared}
theorem codeOf {c : Code} {R : Result → Shared → Prop} (h : PySem.codeAny M A c R s) : codeI M A c R s := fun Γ p h1 h2 _ _ => h Γ p h1 h2
theorem wpI_onRaise {m : Sem α} {k : Value → Sem Unit} {Q : α → Shared → Prop} (h : wpI M A m Q (fun e s' => wpI M A (k e) (fun _ s'' => E e s'') E s') s) : wpI M A (m.onRaise k) Q E s := fun Γ p hΓ n1 n2 => by
  rw [Sem.wp_onRaise]
  exact Sem.wp_mono M Γ m (fun _ _ _ h' => h') (fun e p' s' h' => h' Γ p' hΓ n1 n2) p s (h Γ p hΓ n1 n2)
theorem wpI_attempt {m : Sem α} {Q : Except Value α → Shared → Prop} (h : wpI M A m (fun a s' => Q (.ok a) s') (fun e s' => Q (.error e) s') s) : wpI M A m.attempt Q E s := fun Γ p hΓ n1 n2 => by rw [Sem.wp_attempt]; exact h Γ p hΓ n1 n2
theorem wpI_holding {vs : List Value} {m : Sem α} {Q : α → Shared → Prop} (h : wpI M A m Q E s) : wpI M A (PySem.holding vs m) Q E s := fun Γ p hΓ n1 n2 => by rw [Sem.wp_holding]; exact h Γ p hΓ n1 n2
theorem wpI_keep {vs : List Value} {m : Sem α} {Q : α → Shared → Prop} (h : wpI M A m Q E s) : wpI M A (m.keep vs) Q E s := fun Γ p hΓ n1 n2 => by rw [Sem.wp_keep]; exact h Γ p hΓ n1 n2
theorem wpI_standAt {pos : Pos} {Q : Unit → Shared → Prop} (h : Q () s) : wpI M A (PySem.standAt pos) Q E s := of (PySem.wpAny_standAt h)
theorem wpI_point {Q : Unit → Shared → Prop} (h : Q () s) : wpI M A PySem.point Q E s := of (PySem.wpAny_point h)
theorem wpI_release {vs keep : List Value} {Q : Unit → Shared → Prop} (h : Q () s) : wpI M A (PySem.release vs keep) Q E s := fun Γ p _ _ _ => by
  unfold PySem.release
  rw [Sem.wp_release_go]
  exact h
theorem codeI_mono {c : Code} {R R' : Result → Shared → Prop} (h : codeI M A c R s) (hR : ∀ r s, R r s → R' r s) : codeI M A c R' s := fun Γ p hc hΓ n1 n2 => wpCode_mono hR (h Γ p hc hΓ n1 n2)
theorem nice_enter {Γ : Ctx} {c : Code} {h : Option Value} {p : Pos} (n1 : nice Γ.code = true) (n2 : Nice Γ) : Nice (Γ.enter c h p) := fun x hx => by
  have : x ∈ (Γ.code, p) :: Γ.below := hx
  rcases List.mem_cons.mp this with rfl | hx
  · exact n1
  · exact n2 x hx
theorem wpI_run {c : Code} {h : Option Value} {Q : Flow → Shared → Prop} (hn : nice c = true) (hc : codeI M (A.mark h) c (fun r s' => match r with | .ok f => Q f s' | .error e => E e s') s) (hnb : h ≠ some byPass) : wpI M A (run c h) Q E s :=
  fun Γ p hΓ n1 n2 => by rw [Sem.wp_run]; exact hc _ p rfl (hΓ.enter c h p hnb) hn (nice_enter n1 n2)
theorem wpI_runValue {c : Code} {Q : Value → Shared → Prop} (hn : nice c = true) (hc : codeI M A c (fun r s' => match r with | .ok (.ret v) => Q v s' | .ok _ => False | .error e => E e s') s) : wpI M A (runValue c) Q E s :=
  fun Γ p hΓ n1 n2 => by rw [Sem.wp_runValue]; exact hc _ p rfl (hΓ.enter c none p (by intro x; injection x)) hn (nice_enter n1 n2)
theorem wpI_call {f : Value} {pos : List Value} {kw : List (Str × Value)} {Q : Value → Shared → Prop} (hc : codeI M A (.call f ⟨pos, kw⟩) (fun r s' => match r with | .ok (.ret v) => Q v s' | .ok _ => False | .error e => E e s') s) : wpI M A (PySem.call f pos kw) Q E s := wpI_runValue rfl hc
theorem codeI_of_tree {c : Code} {R : Result → Shared → Prop}
    (h : wpI M (A.under c) (M.den c) (fun fin s' => match fin with | .done f => R (.ok f) s' | .again c' => c'.quiet = true ∧ nice c' = true ∧ codeI M A c' R s') (fun e s' => R (.error e) s') s) : codeI M A c R s := fun Γ p hc hΓ n1 n2 => by
  rewrite [wpCode_iff_wp]; refine rwP hc ?_
  refine Sem.wp_mono M Γ _ (fun fin p' s' h' => ?_) (fun _ _ _ h' => h') p s (h Γ p (hc ▸ hΓ.in) (hc ▸ n1) n2)
  induction fin with
  | done f => exact h'
  | again c' => exact ⟨h'.1, h'.2.2 (Γ.goto c') p' rfl (hΓ.goto c') h'.2.1 n2⟩
theorem codeI_loop' {c : Code} {R : Result → Shared → Prop} (hq : c.quiet = true) (hn : nice c = true) (I : Nat → Shared → Prop)
    (turn : ∀ n s, I n s → wpI M (A.under c) (M.den c)
      (fun fin s' => match fin with
        | .done f => R (.ok f) s'
        | .again c' => (c' = c ∧ ∃ m, m < n ∧ I m s') ∨ (c'.quiet = true ∧ nice c' = true ∧ codeI M A c' R s')) (fun e s' => R (.error e) s') s)
    (n : Nat) (h : I n s) : codeI M A c R s := by
  induction n using Nat.strongRecOn generalizing s with
  | ind n ih =>
    refine codeI_of_tree (wpI_mono (turn n s h) (fun fin s' hf => ?_) fun _ _ h' => h')
    induction fin with
    | done f => exact hf
    | again c' =>
      rcases hf with ⟨rfl, m, hm, hI⟩ | hf
      · exact ⟨hq, hn, ih m hm hI⟩
      · exact hf
theorem wpI_noted {env : Env} {m : Sem α} {Q : α → Shared → Prop} (h : wpI M A m Q (notedBy M A env E) s) : wpI M A (m.onRaise fun x => do noteFrame x env; theTreesLotGoes x) Q E s :=
  wpI_onRaise (wpI_mono h (fun _ _ q => q) fun _ _ hx => wpI_bind (of (PySem.wpAny_mono hx (fun _ _ e => of (PySem.wpAny_theTreesLotGoes e)) fun _ _ e => e)))
end
section
variable {prog : Program} {w : World} {A : Around} {E : Value → Shared → Prop} {R : Result → Shared → Prop} {s : Shared}
theorem codeI_func {body env}
    (h : wpI (model prog w) (A.deeper env) (execs body env) (fun f s' => R (.ok (.ret (match f with | .ret v => v | _ => .none))) s')
      (fun e s' => PySem.wpAny (model prog w) (A.deeper env) (leaving env e) (fun _ s'' => R (.error e) s'') (fun e' s'' => R (.error e') s'') s') s) :
    codeI (model prog w) A (.func body env) R s := by
  refine codeI_of_tree ?_
  show wpI _ (A.deeper env) (do point; match ← (execs body env).onRaise (leaving env) with | .ret v => ret v | _ => ret .none) _ _ s
  refine wpI_bind (wpI_point (wpI_bind (wpI_onRaise (wpI_mono h (fun f s' h' => ?_) fun _ _ h' => of h'))))
  cases f <;> exact wpI_pure h'
theorem codeI_call_function {a : Addr} {args : Args} {o : Obj} {fd : FuncData} {body : List Stmt} (hroom : A.depth < recursionLimit)
    (ho : s.heap.get? a = some o)
    (hd' : o.data = .func fd) (hco : fd.scope.isCoroutine = false) (hgen : fd.scope.isGenerator = false) (hbody : fd.body = .stmts body) (hcd : s.heap.CodeRec fd.code fd.qualname)
    (h : wpI (model prog w) A.in1 (bindArgs fd args) (fun binds s₁ =>
      wpI (model prog w) A.in1 (newFunctionEnv fd.scope fd.globals fd.closure binds (fd.qualname ++ ".<locals>.") (some a) fd.code none fd.builtins)
        (fun env s₂ => s₂.heap.NoLimit ∧ codeI (model prog w) A (.func body env) R s₂) (fun e s' => R (.error e) s') s₁) (fun e s' => R (.error e) s') s) :
    codeI (model prog w) A (.call (.ref a) args) R s := by
  refine codeI_of_tree ?_
  show wpI _ A.in1 (callAny (.ref a) args) _ _ s
  refine wpI_bind (of (PySem.wpAny_load ho ?_))
  refine hide fun Ph hPh => ?_
  obtain ⟨c, oc, vs, tq, hc, hoc, hdc, hq⟩ := hcd
  refine hPh ?_
  simp only [hd', callFunction, hco, hgen, hbody, hc]
  rw [hc] at h
  refine wpI_bind (m := field (.ref c) 1) (of (wpAny_field hoc hdc hq ?_))
  refine wpI_bind (wpI_pure ?_)
  exact wpI_bind (wpI_mono h (fun binds s₁ h₁ => wpI_bind (wpI_mono h₁ (fun env s₂ h₂ => wpI_bind (of (PySem.wpAny_enterFrame h₂.1 hroom
    (wpI_pure ⟨rfl, rfl, h₂.2⟩)))) fun _ _ h' => h')) fun _ _ h' => h')
theorem codeI_expr {e : Expr} {env : Env}
    (h : wpI (model prog w) (A.deeper env) (eval e env) (fun v s' => R (.ok (.ret v)) s')
      (fun e' s' => PySem.wpAny (model prog w) (A.deeper env) (leaving env e') (fun _ s'' => R (.error e') s'') (fun e'' s'' => R (.error e'') s'') s') s) :
    codeI (model prog w) A (.expr e env) R s := by
  refine codeI_of_tree ?_
  show wpI _ (A.deeper env) (do point; ret (← (eval e env).onRaise (leaving env))) _ _ s
  exact wpI_bind (wpI_point (wpI_bind (wpI_onRaise (wpI_mono h (fun v s' h' => wpI_pure h') fun _ _ h' => of h'))))
theorem codeI_callE {a : Addr} {args : Args} {o : Obj} {fd : FuncData} {body : Expr} (hroom : A.depth < recursionLimit)
    (ho : s.heap.get? a = some o)
    (hd' : o.data = .func fd) (hco : fd.scope.isCoroutine = false) (hgen : fd.scope.isGenerator = false) (hbody : fd.body = .expr body) (hcd : s.heap.CodeRec fd.code fd.qualname)
    (h : wpI (model prog w) A.in1 (bindArgs fd args) (fun binds s₁ =>
      wpI (model prog w) A.in1 (newFunctionEnv fd.scope fd.globals fd.closure binds (fd.qualname ++ ".<locals>.") (some a) fd.code none fd.builtins)
        (fun env s₂ => s₂.heap.NoLimit ∧ codeI (model prog w) A (.expr body env) R s₂) (fun e s' => R (.error e) s') s₁) (fun e s' => R (.error e) s') s) :
    codeI (model prog w) A (.call (.ref a) args) R s := by
  refine codeI_of_tree ?_
  show wpI _ A.in1 (callAny (.ref a) args) _ _ s
  refine wpI_bind (of (PySem.wpAny_load ho ?_))
  refine hide fun Ph hPh => ?_
  obtain ⟨c, oc, vs, tq, hc, hoc, hdc, hq⟩ := hcd
  refine hPh ?_
  simp only [hd', callFunction, hco, hgen, hbody, hc]
  rw [hc] at h
  refine wpI_bind (m := field (.ref c) 1) (of (wpAny_field hoc hdc hq ?_))
  refine wpI_bind (wpI_pure ?_)
  exact wpI_bind (wpI_mono h (fun binds s₁ h₁ => wpI_bind (wpI_mono h₁ (fun env s₂ h₂ => wpI_bind (of (PySem.wpAny_enterFrame h₂.1 hroom
    (wpI_pure ⟨rfl, rfl, h₂.2⟩)))) fun _ _ h' => h')) fun _ _ h' => h')
theorem codeI_block {stmts : List Stmt} {env : Env} {R : Result → Shared → Prop}
    (h : wpI (model prog w) A (execs stmts env) (fun f s' => R (.ok f) s') (notedBy (model prog w) A env fun e s' => R (.error e) s') s) : codeI (model prog w) A (.block stmts env) R s := by
  refine codeI_of_tree ?_
  show wpI _ _ (do return Fin.done (← (execs stmts env).onRaise (fun x => do noteFrame x env; theTreesLotGoes x))) _ _ s
  exact wpI_bind (wpI_noted (wpI_mono h (fun f s' h' => wpI_pure h') fun _ _ h' => h'))
theorem codeI_forLoop_any {R : Result → Shared → Prop} {target it body orelse env} (I : Nat → Shared → Prop)
    (turn : ∀ n s, I n s → wpI (model prog w) A (pyNext it) (fun r s₁ => match r with
      | none => wpI (model prog w) A (execs orelse env) (fun f s₃ => R (.ok f) s₃) (notedBy (model prog w) A env fun e s' => R (.error e) s') s₁
      | some v => wpI (model prog w) A (letOwnedTupleGo target it v) (fun _ s₁' =>
          wpI (model prog w) A (assign target env v) (fun _ s₂ => wpI (model prog w) A (execs body env) (fun f s₃ => match f with
            | .next | .cont => ∃ m, m < n ∧ I m s₃
            | .brk => R (.ok .next) s₃
            | .ret v => R (.ok (.ret v)) s₃) (notedBy (model prog w) A env fun e s' => R (.error e) s') s₂) (notedBy (model prog w) A env fun e s' => R (.error e) s') s₁') (notedBy (model prog w) A env fun e s' => R (.error e) s') s₁) (notedBy (model prog w) A env fun e s' => R (.error e) s') s)
    (n : Nat) (h : I n s) : codeI (model prog w) A (.forLoop target it body orelse env) R s := by
  refine codeI_loop' rfl rfl I (fun n s hI => ?_) n h
  show wpI _ A ((forTurn target it body orelse env).onRaise (fun x => do noteFrame x env; theTreesLotGoes x)) _ _ s
  refine wpI_noted ?_
  refine wpI_bind (wpI_standAt (wpI_bind (wpI_onRaise (wpI_mono (turn n s hI) (fun r s₁ h₁ => ?_) fun _ _ h' => wpI_standAt h'))))
  induction r with
  | none => exact wpI_pure (.inr ⟨rfl, rfl, codeI_block h₁⟩)
  | some v =>
    refine wpI_bind (wpI_mono h₁ (fun _ s₁' h₁' => ?_) fun _ _ h' => h')
    refine wpI_bind (wpI_mono h₁' (fun _ s₂ h₂ => wpI_bind (wpI_mono h₂ (fun f s₃ h₃ => ?_) fun _ _ h' => h')) fun _ _ h' => h')
    induction f with
    | next => exact wpI_pure (.inl ⟨rfl, h₃⟩)
    | cont => exact wpI_pure (.inl ⟨rfl, h₃⟩)
    | brk => exact wpI_pure h₃
    | ret v => exact wpI_pure h₃
theorem wpI_runOwn {env : Env} {c : Code} {h : Option Value} {Q : Flow → Shared → Prop} {M : Model} (hn : nice c = true)
    (hc : codeI M (A.mark h) c (fun r s' => match r with | .ok f => Q f s' | .error e => cameBackBy M A env E e s') s) (hnb : h ≠ some byPass) :
    wpI M A (runOwn c env h) Q E s := by
  refine wpI_onRaise (wpI_run hn (codeI_mono hc fun r s' h => ?_) hnb)
  induction r with
  | ok f => exact h
  | error e => exact of h
theorem wpI_For {env : Env} {M : Model} {target iter body orelse pos} {Q : Flow → Shared → Prop}
    (h : wpI M A (eval iter env) (fun x s₁ => wpI M A (pyIter x) (fun it s₂ =>
      codeI M A (.forLoop target it body orelse env) (fun r s' => match r with | .ok f => Q f s' | .error e => cameBackBy M A env E e s') s₂) E s₁) E s)
    (hs : ∀ x, foldedSetIterable iter env x = pure x) :
    wpI M A (exec (.For target iter body orelse pos) env) Q E s := by
  rw [exec_For]
  exact wpI_bind (wpI_standAt (wpI_bind (wpI_mono h (fun x s₁ h₁ => wpI_bind (of (wpAny_of_eq (hs x) (wpI_bind (wpI_standAt (wpI_bind (wpI_holding
    (wpI_mono h₁ (fun it s₂ h₂ => wpI_runOwn rfl h₂ (by intro x; cases x)) fun _ _ h' => h')))))))) fun _ _ h' => h')))
theorem wpI_passesOwn {α : Type} {M : Model} {A : Around} {env : Env} {E : Value → Shared → Prop} {s : Shared} {t : Sem α} {Q : α → Shared → Prop}
    (hE : PassesOwn M A env E) (h : wpI M A t Q E s) : wpI M A t Q (notedBy M A env (cameBackBy M A env E)) s :=
  wpI_mono h (fun _ _ x => x) hE
theorem wpI_Try_except {env : Env} {body : List Stmt} {h₀ : ExceptHandler} {hs : List ExceptHandler} {pos : Pos} {Q : Flow → Shared → Prop}
    (h : wpI (model prog w) A (execs body env) (fun f s₁ => match f with | .next => Q .next s₁ | f => Q f s₁)
      (fun e s₁ => wpAny (model prog w) A (noteFrame e env) (fun _ s₂ => wpAny (model prog w) A (setFlight e none) (fun _ s₃ => wpAny (model prog w) A (handleBy e env (h₀ :: hs)) Q E s₃) E s₂) E s₁) s) :
    wpI (model prog w) A (exec (.Try body (h₀ :: hs) [] [] pos) env) Q E s := by
  rw [arm_exec_Try]
  refine wpI_bind (wpI_standAt ?_)
  unfold tryStmt
  refine wpI_bind (wpI_attempt (wpI_mono h (fun f s₁ h₁ => ?_) fun e s₁ h₁ => ?_))
  · cases f <;> first | exact wpI_pure h₁ | (rw [arm_execs_nil]; exact wpI_pure h₁)
  · exact of (PySem.wpAny_bind (PySem.wpAny_mono h₁ (fun _ _ h₂ => PySem.wpAny_bind h₂) fun _ _ x => x))
theorem wpI_Name {env : Env} {x pos} {Q : Value → Shared → Prop} (h : wpI (model prog w) A (loadName env x) Q E s) (hd : (x == ("__debug__" : Str)) = false) : wpI (model prog w) A (eval (.Name x pos) env) Q E s := by
  refine rwP (eval_Name env x pos hd) ?_
  exact wpI_bind (wpI_standAt h)
theorem wpI_bindName {env : Env} {x : Str} {v : Value} {Q : Unit → Shared → Prop} (h : wpI (model prog w) A (storeName env x v) Q E s) : wpI (model prog w) A (bindName env x v) Q E s :=
  fun Γ p hΓ n1 n2 => by rw [Sem.wp_bindName]; exact h Γ p hΓ n1 n2
theorem wpI_Expr_any {env : Env} {e pos} {Q : Flow → Shared → Prop} (h : wpI (model prog w) A (eval e env) (fun _ => Q .next) E s)
    (hi : interactive env = false) (hs : swapsWith e none pos.line env = pure false) :
    wpI (model prog w) A (exec (.Expr e pos) env) Q E s := by
  refine rwP (exec_Expr env e pos hi hs) ?_
  exact wpI_bind (wpI_standAt (wpI_bind (wpI_mono h (fun v s' h' => of (wpAny_dropValue h')) fun _ _ x => x)))
theorem callWith_of {M : Model} {f : Value} {pos : Pos} {first : List Value} {Q : Value → Shared → Prop} {P : Heap → Prop} {args : List (Bool × Sem Value)} {keywords : List (Option Str × Sem Value)} (hplain : (args.any (·.1) || keywords.any (·.1.isNone)) = false)
    (hk : ∀ h, P h → ∃ k, (k = Keeper.frame ∨ k = Keeper.machine ∨ k = Keeper.boundFrame) ∧ Looks M h (keeperOf f) k)
    (h : wpI M A (evalArgs f true args keywords) (fun a s₁ => P s₁.heap ∧ wpI M A (PySem.call f (first ++ a.pos) a.kw) Q E s₁) E s) : wpI M A (callWith pos f first args keywords) Q E s := by
  refine wpI_bind (wpI_holding (wpI_mono h (fun a s₁ h₁ => wpI_bind (wpI_standAt ?_)) fun _ _ x => x))
  refine hide fun Ph hPh => ?_
  obtain ⟨k, hk', L⟩ := hk _ h₁.1
  refine hPh ?_
  simp only [hplain]
  refine wpI_bind (of (L.here ?_))
  have tail : ∀ {t : Sem Value}, wpI M A t Q E s₁ → wpI M A (t >>= fun r => holding [r] point >>= fun _ => pure r) Q E s₁ :=
    fun ht => wpI_bind (wpI_mono ht (fun r s₂ hr => wpI_bind (wpI_holding (wpI_point (wpI_pure hr)))) fun _ _ x => x)
  have marked (mk : Value) : wpI M A (callMarked mk f (first ++ a.pos) a.kw) Q E s₁ := by unfold callMarked; exact wpI_keep h₁.2
  rcases hk' with rfl | rfl | rfl <;> dsimp only <;> first | exact tail h₁.2 | (split <;> first | exact tail h₁.2 | exact tail (marked _))
theorem evalArgs_plain0 {M : Model} {f : Value} {args : List (Bool × Sem Value)} {Q : Args → Shared → Prop} (hp : args.any (·.1) = false)
    (h : wpI M A (spliced args) (fun vs s' => Q ⟨vs, []⟩ s') E s) : wpI M A (evalArgs f true args []) Q E s := by
  induction args with
  | nil =>
    show wpI M A (spliced [] >>= _) Q E s
    refine wpI_bind (wpI_mono h (fun vs s' h' => ?_) fun _ _ x => x)
    refine wpI_bind (wpI_pure ?_)
    refine wpI_holding ?_
    exact wpI_bind (wpI_pure (wpI_bind (wpI_pure (wpI_pure h'))))
  | cons p rest =>
    obtain ⟨b, x⟩ := p
    induction b with
    | true => simp at hp
    | false =>
      show wpI M A (spliced ((false, x) :: rest) >>= _) Q E s
      refine wpI_bind (wpI_mono h (fun vs s' h' => ?_) fun _ _ x => x)
      refine wpI_holding ?_
      exact wpI_bind (wpI_pure (wpI_bind (wpI_pure (wpI_pure h'))))
end
end Mine
end
section
namespace Mine
structure FnD where
  name : Str
  qual : Str
  params : Arguments
  body : FuncBody
  scope : Scope
  caps : List Str
set_option genInjectivity true in
inductive CV where
  | none | bool (b : Bool) | int (i : Int) | str (s : Str) | bytes (b : Array UInt8)
  | top (v : Value) | ref (n : Nat) | tup (l : List CV) | fl (l : List CV) | unb
  | fn (d : FnD) (l : List CV)
  | rng (a b : Int)
  deriving Inhabited
set_option genInjectivity true in
inductive Tag where
  | frz (o : Obj) | loc | cell (x : Str) | prot | nam (n : Nat) (main : Bool)
noncomputable abbrev TM := Addr → Option Tag
noncomputable def tupO (vs : List Value) (k : Nat) : Obj := { cls := .type "tuple", data := .seq vs.toArray k }
noncomputable def lstO (vs : List Value) (k : Nat) : Obj := { cls := .type "list", data := .seq vs.toArray k }
noncomputable def rngO (a b : Int) (t u z : Tok) : Obj := { cls := .type "range", data := .fields #[.int a t, .int b u, .int 1 z] }
noncomputable def dicO (es : List DictEntry) (k : Nat) : Obj := { cls := .type "dict", data := .dict es.toArray k }
noncomputable def At (T : TM) : CV → Value → Prop
  | .none, v => v = .none
  | .bool b, v => v = .bool b
  | .int i, v => ∃ t, v = .int i t
  | .str s, v => ∃ t, v = .str s t
  | .bytes b, v => ∃ t, v = .bytes b t
  | .top u, v => v = u
  | .ref n, v => ∃ a, v = .ref a ∧ T a = some (.nam n true)
  | .rng a b, v => ∃ r t u z, v = .ref r ∧ T r = some (.frz (rngO a b t u z))
  | _, _ => False
noncomputable abbrev fnObj (d : FnD) (clos : List (Str × Addr)) (pm doc ct : Value) (c' : Addr) : FuncData :=
  { name := d.name, qualname := d.qual, params := d.params, body := d.body, scope := d.scope, globals := mainGlobals, closure := clos, defaults := .none, kwdefaults := .none, doc, pyModule := pm, annotations := Option.none, code := .ref c', closureTuple := ct, builtins := builtinsNs }
inductive CellsAt (T : TM) : List (Str × Addr) → List Str → List Value → Prop
  | nil : CellsAt T [] [] []
  | cons {x a o v cl xs vs} : T a = some (.frz o) → o.data = .cell (some v) → CellsAt T cl xs vs → CellsAt T ((x, a) :: cl) (x :: xs) (v :: vs)
inductive VX (T : TM) : List CV → List Value → Prop
  | nil : VX T [] []
  | atom {c v l vs} : At T c v → VX T l vs → VX T (c :: l) (v :: vs)
  | tup {a k l' vs' l vs} : T a = some (.frz (tupO vs' k)) → VX T l' vs' → VX T l vs → VX T (.tup l' :: l) (.ref a :: vs)
  | fl {a k l' vs' l vs} : T a = some (.frz (lstO vs' k)) → VX T l' vs' → VX T l vs → VX T (.fl l' :: l) (.ref a :: vs)
  | fn {d f c' oc fs tq clos pm doc ct l' vs' l vs} : T f = some (.frz { cls := .type "function", data := .func (fnObj d clos pm doc ct c') }) → T c' = some (.frz oc) → oc.data = .fields fs → fs[1]? = some (.str d.qual tq) →
      CellsAt T clos d.caps vs' → VX T l' vs' → VX T l vs → VX T (.fn d l' :: l) (.ref f :: vs)
noncomputable def VR (T : TM) (c : CV) (v : Value) : Prop := VX T [c] [v]
structure Ext (T T' : TM) : Prop where
  frz : ∀ a o, T a = some (.frz o) → T' a = some (.frz o)
  nam : ∀ a n b, T a = some (.nam n b) → T' a = some (.nam n b)
theorem Ext.refl (T : TM) : Ext T T := ⟨fun _ _ h => h, fun _ _ _ h => h⟩
theorem Ext.trans {T T' T'' : TM} (x : Ext T T') (y : Ext T' T'') : Ext T T'' :=
  ⟨fun a o h => y.frz a o (x.frz a o h), fun a n b h => y.nam a n b (x.nam a n b h)⟩
theorem At.mono {T T' : TM} (x : Ext T T') {c : CV} {v : Value} (h : At T c v) : At T' c v := by
  cases c <;> first | exact h | (obtain ⟨a, e, t⟩ := h; exact ⟨a, e, x.nam _ _ _ t⟩) | (obtain ⟨r, t, u, z, e, h⟩ := h; exact ⟨r, t, u, z, e, x.frz _ _ h⟩)
theorem CellsAt.mono {T T' : TM} (x : Ext T T') {cl xs vs} (h : CellsAt T cl xs vs) : CellsAt T' cl xs vs := by
  induction h with
  | nil => exact .nil
  | cons a b _ ih => exact .cons (x.frz _ _ a) b ih
theorem VX.mono {T T' : TM} (x : Ext T T') {l : List CV} {vs : List Value} (h : VX T l vs) : VX T' l vs := by
  induction h with
  | nil => exact .nil
  | atom a _ ih => exact .atom (a.mono x) ih
  | tup ha _ _ i1 i2 => exact .tup (x.frz _ _ ha) i1 i2
  | fl ha _ _ i1 i2 => exact .fl (x.frz _ _ ha) i1 i2
  | fn a b c e g _ _ i1 i2 => exact .fn (x.frz _ _ a) (x.frz _ _ b) c e (g.mono x) i1 i2
theorem VR.mono {T T' : TM} (x : Ext T T') {c : CV} {v : Value} (h : VR T c v) : VR T' c v := VX.mono x h
theorem VX.cons {T : TM} {c : CV} {v : Value} {l : List CV} {vs : List Value} (h : VR T c v) (r : VX T l vs) : VX T (c :: l) (v :: vs) := by
  cases h with
  | atom a _ => exact .atom a r
  | tup a b _ => exact .tup a b r
  | fl a b _ => exact .fl a b r
  | fn a b c e g k _ => exact .fn a b c e g k r
inductive ConsInv (T : TM) (c : CV) (l : List CV) (vs : List Value) : Prop
  | mk (v : Value) (vs' : List Value) : (vs = v :: vs' ∧ VR T c v ∧ VX T l vs') → ConsInv T c l vs
theorem VX.cons_inv {T : TM} {c : CV} {l : List CV} {vs : List Value} (h : VX T (c :: l) vs) : ConsInv T c l vs := by
  cases h with
  | atom a r => exact ⟨_, _, rfl, .atom a .nil, r⟩
  | tup a b r => exact ⟨_, _, rfl, .tup a b .nil, r⟩
  | fl a b r => exact ⟨_, _, rfl, .fl a b .nil, r⟩
  | fn a b c e g k r => exact ⟨_, _, rfl, .fn a b c e g k .nil, r⟩
theorem VX.nil_inv {T : TM} {vs : List Value} (h : VX T [] vs) : vs = [] := by cases h; rfl
theorem VX.append {T : TM} {l l' : List CV} {vs vs' : List Value} (h : VX T l vs) (h' : VX T l' vs') : VX T (l ++ l') (vs ++ vs') := by
  induction h with
  | nil => exact h'
  | atom a _ ih => exact .atom a ih
  | tup ha hb _ _ i2 => exact .tup ha hb i2
  | fl ha hb _ _ i2 => exact .fl ha hb i2
  | fn a b c e g k _ _ i2 => exact .fn a b c e g k i2
theorem VX.length {T : TM} {l : List CV} {vs : List Value} (h : VX T l vs) : vs.length = l.length := by
  induction h with
  | nil => rfl
  | atom _ _ ih => simp [ih]
  | tup _ _ _ _ i2 => simp [i2]
  | fl _ _ _ _ i2 => simp [i2]
  | fn _ _ _ _ _ _ _ _ i2 => simp [i2]
theorem VX.get {T : TM} {l : List CV} {vs : List Value} (h : VX T l vs) : ∀ {i : Nat} {c : CV}, l[i]? = some c → ∃ v, vs[i]? = some v ∧ VR T c v := by
  induction l generalizing vs with
  | nil => intro i c e; simp at e
  | cons c0 l ih =>
    obtain ⟨v, vs', rfl, hv, hr⟩ := h.cons_inv
    intro i c e
    induction i with
    | zero => simp at e; subst e; exact ⟨v, rfl, hv⟩
    | succ i => simp at e; obtain ⟨v', e', hv'⟩ := ih hr e; exact ⟨v', by simpa using e', hv'⟩
theorem VX.set {T : TM} {l : List CV} {vs : List Value} (h : VX T l vs) {c : CV} {v : Value} (hv : VR T c v) : ∀ (i : Nat), VX T (l.set i c) (vs.set i v) := by
  induction l generalizing vs with
  | nil => intro i; cases h.nil_inv; exact .nil
  | cons c0 l ih =>
    obtain ⟨v0, vs', rfl, hv0, hr⟩ := h.cons_inv
    intro i
    induction i with
    | zero => exact .cons hv hr
    | succ i => exact .cons hv0 (ih hr i)
theorem VR.none {T : TM} : VR T .none .none := .atom rfl .nil
theorem VR.bool {T : TM} {b : Bool} : VR T (.bool b) (.bool b) := .atom rfl .nil
theorem VR.int {T : TM} {i : Int} {t : Tok} : VR T (.int i) (.int i t) := .atom ⟨t, rfl⟩ .nil
theorem VR.str {T : TM} {x : Str} {t : Tok} : VR T (.str x) (.str x t) := .atom ⟨t, rfl⟩ .nil
theorem VR.bytes {T : TM} {x : Array UInt8} {t : Tok} : VR T (.bytes x) (.bytes x t) := .atom ⟨t, rfl⟩ .nil
theorem VR.top {T : TM} {v : Value} : VR T (.top v) v := .atom rfl .nil
theorem VR.ref {T : TM} {n : Nat} {a : Addr} (h : T a = some (.nam n true)) : VR T (.ref n) (.ref a) := .atom ⟨a, rfl, h⟩ .nil
theorem VR.tup {T : TM} {a : Addr} {k : Nat} {l : List CV} {vs : List Value} (h : T a = some (.frz (tupO vs k))) (r : VX T l vs) : VR T (.tup l) (.ref a) := VX.tup h r .nil
theorem VR.fl {T : TM} {a : Addr} {k : Nat} {l : List CV} {vs : List Value} (h : T a = some (.frz (lstO vs k))) (r : VX T l vs) : VR T (.fl l) (.ref a) := VX.fl h r .nil
noncomputable def atomC : CV → Bool
  | .tup _ => false
  | .fl _ => false
  | .fn _ _ => false
  | _ => true
theorem VR.at {T : TM} {c : CV} {v : Value} (h : VR T c v) (k : atomC c = true) : At T c v := by
  cases h with
  | atom a _ => exact a
  | _ => injection k
theorem VR.none_inv {T : TM} {v : Value} (h : VR T .none v) : v = .none := h.at rfl
theorem VR.bool_inv {T : TM} {b : Bool} {v : Value} (h : VR T (.bool b) v) : v = .bool b := h.at rfl
theorem VR.int_inv {T : TM} {i : Int} {v : Value} (h : VR T (.int i) v) : ∃ t, v = .int i t := h.at rfl
theorem VR.str_inv {T : TM} {x : Str} {v : Value} (h : VR T (.str x) v) : ∃ t, v = .str x t := h.at rfl
theorem VR.bytes_inv {T : TM} {x : Array UInt8} {v : Value} (h : VR T (.bytes x) v) : ∃ t, v = .bytes x t := h.at rfl
theorem VR.top_inv {T : TM} {u v : Value} (h : VR T (.top u) v) : v = u := h.at rfl
inductive RefInv (T : TM) (n : Nat) (v : Value) : Prop
  | mk (a : Addr) : v = .ref a → T a = some (.nam n true) → RefInv T n v
theorem VR.ref_inv {T : TM} {n : Nat} {v : Value} (h : VR T (.ref n) v) : RefInv T n v := (h.at rfl : At T (.ref n) v).elim fun a h => ⟨a, h.1, h.2⟩
theorem VR.unb_inv {T : TM} {v : Value} (h : VR T .unb v) : False := h.at rfl
inductive TupInv (T : TM) (l : List CV) (v : Value) : Prop
  | mk (a : Addr) (k : Nat) (vs : List Value) : v = .ref a → T a = some (.frz (tupO vs k)) → VX T l vs → TupInv T l v
theorem VR.tup_inv {T : TM} {l : List CV} {v : Value} (h : VR T (.tup l) v) : TupInv T l v := by
  cases h with
  | atom a _ => exact a.elim
  | tup a b _ => exact ⟨_, _, _, rfl, a, b⟩
inductive FlInv (T : TM) (l : List CV) (v : Value) : Prop
  | mk (a : Addr) (k : Nat) (vs : List Value) : v = .ref a → T a = some (.frz (lstO vs k)) → VX T l vs → FlInv T l v
theorem VR.fl_inv {T : TM} {l : List CV} {v : Value} (h : VR T (.fl l) v) : FlInv T l v := by
  cases h with
  | atom a _ => exact a.elim
  | fl a b _ => exact ⟨_, _, _, rfl, a, b⟩
inductive FnInv (T : TM) (d : FnD) (l : List CV) (v : Value) : Prop
  | mk (f c' : Addr) (oc : Obj) (fs : Array Value) (tq : Tok) (clos : List (Str × Addr)) (pm doc ct : Value) (vs : List Value) : v = .ref f → T f = some (.frz { cls := .type "function", data := .func (fnObj d clos pm doc ct c') }) → T c' = some (.frz oc) → oc.data = .fields fs → fs[1]? = some (.str d.qual tq) → CellsAt T clos d.caps vs → VX T l vs → FnInv T d l v
theorem VR.fn_inv {T : TM} {d : FnD} {l : List CV} {v : Value} (h : VR T (.fn d l) v) : FnInv T d l v := by
  cases h with
  | atom a _ => exact a.elim
  | fn a b c e g k _ => exact ⟨_, _, _, _, _, _, _, _, _, _, rfl, a, b, c, e, g, k⟩
inductive CObj where
  | list (l : List CV)
  | dict (es : List (Str × CV))
  | inst (C : Addr) (es : List (Str × CV))
  | barr (b : Array UInt8)
  | at (a : Addr) (o : Obj)
  | tab (a : Addr) (q : Str)
  | rit (x left : Int)
  | tit (l : List CV) (k : Nat)
  | lit (l : List CV) (k : Nat)
  | nit (j k : Nat)
  | zit (l1 l2 : List CV) (k : Nat)
  | nzit (l1 : List CV) (j k : Nat)
  | junk
noncomputable abbrev CH := Nat → Option CObj
noncomputable def CH.set (σ : CH) (n : Nat) (o : CObj) : CH := fun k => if k = n then some o else σ k
theorem CH.set_self (σ : CH) (n : Nat) (o : CObj) : σ.set n o n = some o := if_pos rfl
theorem CH.set_ne (σ : CH) {n k : Nat} (o : CObj) (h : k ≠ n) : σ.set n o k = σ k := if_neg h
inductive ER (P : Params) (T : TM) : List (Str × CV) → List DictEntry → Prop
  | nil : ER P T [] []
  | cons {x t cv v es rs} : VR T cv v → ER P T es rs → ER P T ((x, cv) :: es) (⟨PyData.keyHash P x, .str x t, v⟩ :: rs)
theorem ER.mono {P : Params} {T T' : TM} (x : Ext T T') {es rs} (h : ER P T es rs) : ER P T' es rs := by
  induction h with
  | nil => exact .nil
  | cons a _ ih => exact .cons (a.mono x) ih
inductive KR (T : TM) : List (Str × CV) → List (Str × Value) → Prop
  | nil : KR T [] []
  | cons {x cv v es rs} : VR T cv v → KR T es rs → KR T ((x, cv) :: es) ((x, v) :: rs)
theorem KR.mono {T T' : TM} (x : Ext T T') {es rs} (h : KR T es rs) : KR T' es rs := by
  induction h with
  | nil => exact .nil
  | cons a _ ih => exact .cons (a.mono x) ih
structure ZD where
  z : Addr
  TI : Addr
  TO : Addr
  i1 : Addr
  i2 : Addr
  a1 : Addr
  a2 : Addr
  vs1 : List Value
  k1 : Nat
  x : Value
  y : Value
structure ZipH (T : TM) (n : Nat) (l1 : List CV) (k : Nat) (d : ZD) (h : Heap) : Prop where
  tz : T d.z = some (.nam n true)
  tTI : T d.TI = some (.nam n false)
  tTO : T d.TO = some (.nam n false)
  t1 : T d.i1 = some (.nam n false)
  t2 : T d.i2 = some (.nam n false)
  D : ZipApart d.z d.TI d.TO d.i1 d.i2 d.a1 d.a2
  hz : IsZip h d.z d.TI d.TO .none
  hTI : IsPair h d.TI (.ref d.i1) (.ref d.i2)
  hTO : IsPair h d.TO d.x d.y
  h1 : IsTupIter h d.i1 d.a1 k
  h2 : h.IsListIter d.i2 d.a2 k
  ta1 : T d.a1 = some (.frz (tupO d.vs1 d.k1))
  v1 : VX T l1 d.vs1
theorem ZipH.mono {T T' : TM} (x : Ext T T') {n l1 k d h} (Z : ZipH T n l1 k d h) : ZipH T' n l1 k d h :=
  ⟨x.nam _ _ _ Z.tz, x.nam _ _ _ Z.tTI, x.nam _ _ _ Z.tTO, x.nam _ _ _ Z.t1, x.nam _ _ _ Z.t2, Z.D, Z.hz, Z.hTI, Z.hTO, Z.h1, Z.h2, x.frz _ _ Z.ta1, Z.v1.mono x⟩
theorem ZipH.keeps {T : TM} {n l1 k d h h'} (hk : ∀ a b o, T a = some (.nam n b) → h.get? a = some o → h'.get? a = some o) (Z : ZipH T n l1 k d h) : ZipH T n l1 k d h' :=
  ⟨Z.tz, Z.tTI, Z.tTO, Z.t1, Z.t2, Z.D, hk _ _ _ Z.tz Z.hz, hk _ _ _ Z.tTI Z.hTI, hk _ _ _ Z.tTO Z.hTO, Z.h1.elim fun o g => ⟨o, hk _ _ _ Z.t1 g.1, g.2⟩, Z.h2.elim fun o g => ⟨o, hk _ _ _ Z.t2 g.1, g.2⟩, Z.ta1, Z.v1⟩
noncomputable def tri (trs : List (Int × Int × Addr)) : List Value := trs.flatMap fun t => [rawInt t.1, rawInt t.2.1, .ref t.2.2]
inductive OwnList (T : TM) (n : Nat) (l : List CV) (h : Heap) : Prop
  | mk (a : Addr) (vs : List Value) (k : Nat) : T a = some (.nam n true) → h.get? a = some (lstO vs k) → VX T l vs → OwnList T n l h
inductive OwnDict (w : World) (T : TM) (n : Nat) (es : List (Str × CV)) (h : Heap) : Prop
  | mk (a : Addr) (kvs : List (Str × Value)) (p : Program) : T a = some (.nam n true) → h.DictOf (PySem.strKind p w) a kvs → KR T es kvs → OwnDict w T n es h
inductive OwnInst (w : World) (T : TM) (n : Nat) (C : Addr) (es : List (Str × CV)) (h : Heap) : Prop
  | mk (a dx : Addr) (rs : List DictEntry) (k : Nat) : T a = some (.nam n true) → h.get? a = some ({ cls := .ref C, dict := some dx, data := .plain } : Obj) → T dx = some (.nam n false) → h.get? dx = some (dicO rs k) → ER w.params T es rs → OwnInst w T n C es h
inductive OwnBarr (T : TM) (n : Nat) (b : Array UInt8) (h : Heap) : Prop
  | mk (a : Addr) : T a = some (.nam n true) → h.get? a = some ({ cls := .type "bytearray", data := .bytearray b 0 } : Obj) → OwnBarr T n b h
inductive OwnRit (T : TM) (n : Nat) (x : Int) (left : Int) (h : Heap) : Prop
  | mk (it : Addr) : T it = some (.nam n true) → IsRangeIter h it x left 1 → OwnRit T n x left h
inductive OwnTit (T : TM) (n : Nat) (l : List CV) (k : Nat) (h : Heap) : Prop
  | mk (it a : Addr) (vs : List Value) (kk : Nat) : T it = some (.nam n true) → IsTupIter h it a k → T a = some (.frz (tupO vs kk)) → VX T l vs → OwnTit T n l k h
inductive OwnLit (T : TM) (n : Nat) (l : List CV) (k : Nat) (h : Heap) : Prop
  | mk (it a : Addr) (vs : List Value) (kk : Nat) : T it = some (.nam n true) → h.IsListIter it a k → T a = some (.frz (lstO vs kk)) → VX T l vs → OwnLit T n l k h
inductive OwnNit (T : TM) (n j k : Nat) (h : Heap) : Prop
  | mk (it a : Addr) : T it = some (.nam n true) → h.IsListIter it a k → T a = some (.nam j true) → OwnNit T n j k h
inductive OwnZit (T : TM) (n : Nat) (l1 l2 : List CV) (k : Nat) (h : Heap) : Prop
  | mk (d : ZD) (vs2 : List Value) (k2 : Nat) : ZipH T n l1 k d h → T d.a2 = some (.frz (lstO vs2 k2)) → VX T l2 vs2 → OwnZit T n l1 l2 k h
inductive OwnNzit (T : TM) (n : Nat) (l1 : List CV) (j k : Nat) (h : Heap) : Prop
  | mk (d : ZD) : ZipH T n l1 k d h → T d.a2 = some (.nam j true) → OwnNzit T n l1 j k h
noncomputable def Own (w : World) (T : TM) (n : Nat) : CObj → Heap → Prop
  | .list l, h => OwnList T n l h
  | .dict es, h => OwnDict w T n es h
  | .inst C es, h => OwnInst w T n C es h
  | .barr b, h => OwnBarr T n b h
  | .at a o, h => T a = some (.nam n true) ∧ h.get? a = some o
  | .tab a q, h => T a = some (.nam n true) ∧ ∃ trs, h.get? a = some (PySem.W.tabObj (tri trs).toArray) ∧ ∀ t ∈ trs, ∃ oc fs tq, T t.2.2 = some (.frz oc) ∧ oc.data = .fields fs ∧ fs[1]? = some (.str q tq)
  | .rit x left, h => OwnRit T n x left h
  | .tit l k, h => OwnTit T n l k h
  | .lit l k, h => OwnLit T n l k h
  | .nit j k, h => OwnNit T n j k h
  | .zit l1 l2 k, h => OwnZit T n l1 l2 k h
  | .nzit l1 j k, h => OwnNzit T n l1 j k h
  | .junk, _ => True
theorem DictOf.keep {p : Program} {w : World} {h h' : Heap} {a : Addr} {kvs : List (Str × Value)} (x : h.DictOf (PySem.strKind p w) a kvs) (hk : ∀ o, h.get? a = some o → h'.get? a = some o) : h'.DictOf (PySem.strKind p w) a kvs :=
  by obtain ⟨o, es, ep, ho, r⟩ := x; exact ⟨o, es, ep, hk o ho, r⟩
theorem DictOf.prog {p q : Program} {w : World} {h : Heap} {a : Addr} {kvs : List (Str × Value)} (x : h.DictOf (PySem.strKind p w) a kvs) : h.DictOf (PySem.strKind q w) a kvs := by
  obtain ⟨o, es, ep, ho, hx, hd, hk, hp, hn⟩ := x
  refine ⟨o, es, ep, ho, hx, hd, hk, ?_, hn⟩
  clear hd hk hn
  generalize es.toList = l at hp
  induction hp with
  | nil => exact .nil
  | cons a b _ ih => exact .cons a b ih
theorem Own.mono {w : World} {T T' : TM} (x : Ext T T') {n : Nat} {o : CObj} {h : Heap} (q : Own w T n o h) : Own w T' n o h := by
  induction o with
  | list l => obtain ⟨a, vs, k, h1, h2, h3⟩ := q; exact ⟨a, vs, k, x.nam _ _ _ h1, h2, h3.mono x⟩
  | dict es => obtain ⟨a, vs, k, h1, h2, h3⟩ := q; exact ⟨a, vs, k, x.nam _ _ _ h1, h2, h3.mono x⟩
  | inst C es => obtain ⟨a, dx, rs, k, h1, h2, h3, h4, h5⟩ := q; exact ⟨a, dx, rs, k, x.nam _ _ _ h1, h2, x.nam _ _ _ h3, h4, h5.mono x⟩
  | barr b => obtain ⟨a, h1, h2⟩ := q; exact ⟨a, x.nam _ _ _ h1, h2⟩
  | «at» a o => exact ⟨x.nam _ _ _ q.1, q.2⟩
  | rit a b => obtain ⟨it, h1, h2⟩ := q; exact ⟨it, x.nam _ _ _ h1, h2⟩
  | tit l k => obtain ⟨it, a, vs, kk, h1, h2, h3, h4⟩ := q; exact ⟨it, a, vs, kk, x.nam _ _ _ h1, h2, x.frz _ _ h3, h4.mono x⟩
  | lit l k => obtain ⟨it, a, vs, kk, h1, h2, h3, h4⟩ := q; exact ⟨it, a, vs, kk, x.nam _ _ _ h1, h2, x.frz _ _ h3, h4.mono x⟩
  | nit j k => obtain ⟨it, a, h1, h2, h3⟩ := q; exact ⟨it, a, x.nam _ _ _ h1, h2, x.nam _ _ _ h3⟩
  | zit l1 l2 k => obtain ⟨d, vs2, k2, Z, t, v⟩ := q; exact ⟨d, vs2, k2, Z.mono x, x.frz _ _ t, v.mono x⟩
  | nzit l1 j k => obtain ⟨d, Z, t⟩ := q; exact ⟨d, Z.mono x, x.nam _ _ _ t⟩
  | junk => trivial
  | tab a k => obtain ⟨h1, ps, h2, h4⟩ := q; exact ⟨x.nam _ _ _ h1, ps, h2, fun t ht => by obtain ⟨oc, fs, tq, e2, e3, e4⟩ := h4 t ht; exact ⟨oc, fs, tq, x.frz _ _ e2, e3, e4⟩⟩
theorem Own.keeps {w : World} {T : TM} {n : Nat} {o : CObj} {h h' : Heap} (hk : ∀ a b o, T a = some (.nam n b) → h.get? a = some o → h'.get? a = some o) (q : Own w T n o h) : Own w T n o h' := by
  induction o with
  | list l => obtain ⟨a, vs, k, h1, h2, h3⟩ := q; exact ⟨a, vs, k, h1, hk _ _ _ h1 h2, h3⟩
  | dict es => obtain ⟨a, vs, k, h1, h2, h3⟩ := q; exact ⟨a, vs, k, h1, DictOf.keep h2 fun o => hk _ _ o h1, h3⟩
  | inst C es => obtain ⟨a, dx, rs, k, h1, h2, h3, h4, h5⟩ := q; exact ⟨a, dx, rs, k, h1, hk _ _ _ h1 h2, h3, hk _ _ _ h3 h4, h5⟩
  | barr b => obtain ⟨a, h1, h2⟩ := q; exact ⟨a, h1, hk _ _ _ h1 h2⟩
  | «at» a o => exact ⟨q.1, hk _ _ _ q.1 q.2⟩
  | tab a k => obtain ⟨h1, ps, h2, h3⟩ := q; exact ⟨h1, ps, hk _ _ _ h1 h2, h3⟩
  | rit a b => obtain ⟨it, h1, h2⟩ := q; exact ⟨it, h1, hk _ _ _ h1 h2⟩
  | tit l k => obtain ⟨it, a, vs, kk, h1, ⟨o, g, r⟩, h3, h4⟩ := q; exact ⟨it, a, vs, kk, h1, ⟨o, hk _ _ _ h1 g, r⟩, h3, h4⟩
  | lit l k => obtain ⟨it, a, vs, kk, h1, ⟨o, g, r⟩, h3, h4⟩ := q; exact ⟨it, a, vs, kk, h1, ⟨o, hk _ _ _ h1 g, r⟩, h3, h4⟩
  | nit j k => obtain ⟨it, a, h1, ⟨o, g, r⟩, h3⟩ := q; exact ⟨it, a, h1, ⟨o, hk _ _ _ h1 g, r⟩, h3⟩
  | zit l1 l2 k => obtain ⟨d, vs2, k2, Z, t, v⟩ := q; exact ⟨d, vs2, k2, Z.keeps hk, t, v⟩
  | nzit l1 j k => obtain ⟨d, Z, t⟩ := q; exact ⟨d, Z.keeps hk, t⟩
  | junk => trivial
@[irreducible] noncomputable def KF (w : World) : Frag := Mine.kk.heap_1 w.params
noncomputable abbrev tabsK : List (Addr × Addr) := [(610, 606), (655, 651), (631, 627), (624, 620), (617, 613)]
inductive Topped (w : World) (T : TM) : Prop
  | mk (g : Heap) (p : Program) (loose : List Str) (mean : ExcName → Option Value) (mg mb : Str → Option Value) : Top p loose mean mg mb g → (KF w).In g → CodeAll tabsK g → (∀ b o, g.get? b = some o → T b = some (.frz o)) → Topped w T
noncomputable abbrev Pr := Addr → Option Obj
noncomputable def isD (o : Obj) : Bool := match o.data with
  | .dict _ _ => true
  | _ => false
structure W0 (w : World) (os0 : OsState) (pr : Pr) (T : TM) (σ : CH) (s : Shared) : Prop where
  alive : ∀ a t, T a = some t → ∃ o, s.heap.get? a = some o
  frz : ∀ a o, T a = some (.frz o) → s.heap.get? a = some o
  uniq : ∀ a a' n, T a = some (.nam n true) → T a' = some (.nam n true) → a = a'
  own : ∀ n o, σ n = some o → Own w T n o s.heap
  nams : ∀ a n b, T a = some (.nam n b) → σ n ≠ none
  top : Topped w T
  prot : ∀ a o, pr a = some o → T a = some .prot ∧ (∀ vs, o.data ≠ .fields vs) ∧ ∃ sl, (isD o = false → sl = o.slots) ∧ s.heap.get? a = some { o with slots := sl }
  cells : ∀ a x, T a = some (.cell x) → ∃ o, s.heap.get? a = some o ∧ o.data = .cell none
  pall : ∀ a, T a = some .prot → ∃ o, pr a = some o
  gens : s.gens = #[]
  os : s.os = os0
noncomputable def Keep (T : TM) (h h' : Heap) : Prop := ∀ a o, T a ≠ none → h.get? a = some o → h'.get? a = some o
noncomputable def KeepF (T : TM) (h h' : Heap) : Prop := ∀ a o, T a ≠ none → T a ≠ some .loc → h.get? a = some o → h'.get? a = some o
theorem W0.fresh {w os0 pr T σ s} (W : W0 w os0 pr T σ s) : T s.heap.objs.size = none := by
  cases q : T s.heap.objs.size with
  | none => rfl
  | some t =>
    obtain ⟨o, ho⟩ := W.alive _ _ q
    exact absurd (Heap.lt_size ho) (Nat.lt_irrefl _)
theorem W0.fresh' {w os0 pr T σ s} (W : W0 w os0 pr T σ s) {a : Addr} (h : s.heap.get? a = none) : T a = none := by
  cases q : T a with
  | none => rfl
  | some t =>
    obtain ⟨o, ho⟩ := W.alive _ _ q
    rw [h] at ho; injection ho
theorem W0.step {w os0 pr T σ s s'} (W : W0 w os0 pr T σ s) (hk : KeepF T s.heap s'.heap) (hl : ∀ a, T a = some .loc → ∃ o, s'.heap.get? a = some o)
    (hg : s'.gens = s.gens) (ho : s'.os = s.os) : W0 w os0 pr T σ s' where
  alive a t h := by
    obtain ⟨o, e⟩ := W.alive a t h
    induction t with
    | loc => exact hl a h
    | _ => exact ⟨o, hk a o (by refine rwP h ?_; exact Option.some_ne_none _) (by refine rwP h ?_; nofun) e⟩
  frz a o h := hk a o (by refine rwP h ?_; nofun) (by refine rwP h ?_; nofun) (W.frz a o h)
  uniq := W.uniq
  own n o h := (W.own n o h).keeps fun a b o h => hk a o (by refine rwP h ?_; nofun) (by refine rwP h ?_; nofun)
  nams := W.nams
  top := W.top
  prot a o h := by
    obtain ⟨h1, h3, sl, hs, h2⟩ := W.prot a o h
    exact ⟨h1, h3, sl, hs, hk a _ (by refine rwP h1 ?_; nofun) (by refine rwP h1 ?_; nofun) h2⟩
  cells a x h := by obtain ⟨o, h1, h2⟩ := W.cells a x h; exact ⟨o, hk a _ (by refine rwP h ?_; nofun) (by refine rwP h ?_; nofun) h1, h2⟩
  pall := W.pall
  gens := hg.trans W.gens
  os := ho.trans W.os
theorem Keep.f {T : TM} {h h' : Heap} (k : Keep T h h') : KeepF T h h' := fun a o h1 _ e => k a o h1 e
theorem W0.stepK {w os0 pr T σ s s'} (W : W0 w os0 pr T σ s) (hk : Keep T s.heap s'.heap) (hg : s'.gens = s.gens) (ho : s'.os = s.os) : W0 w os0 pr T σ s' :=
  W.step hk.f (fun a h => by
    obtain ⟨o, e⟩ := W.alive a _ h
    exact ⟨o, hk a o (by refine rwP h ?_; exact Option.some_ne_none _) e⟩) hg ho
noncomputable def TM.put (T : TM) (a : Addr) (t : Tag) : TM := fun b => if b = a then some t else T b
theorem TM.put_self (T : TM) (a : Addr) (t : Tag) : T.put a t a = some t := if_pos rfl
theorem TM.put_ne (T : TM) {a b : Addr} (t : Tag) (h : b ≠ a) : T.put a t b = T b := if_neg h
theorem Ext.put {T : TM} {a : Addr} {t : Tag} (h : T a = none) : Ext T (T.put a t) :=
  ⟨fun b o e => (TM.put_ne _ _ (by intro q; subst q; rw [h] at e; injection e)).trans e, fun b n k e => (TM.put_ne _ _ (by intro q; subst q; rw [h] at e; injection e)).trans e⟩
theorem Topped.mono {w : World} {T T' : TM} (x : Ext T T') (h : Topped w T) : Topped w T' :=
  by obtain ⟨g, p, lo, me, mg, mb, h1, h2, h4, h3⟩ := h; exact ⟨g, p, lo, me, mg, mb, h1, h2, h4, fun b o e => x.frz b o (h3 b o e)⟩
theorem W0.freeze {w os0 pr T σ s} (W : W0 w os0 pr T σ s) {a : Addr} {o : Obj} (ha : T a = none) (ho : s.heap.get? a = some o) : W0 w os0 pr (T.put a (.frz o)) σ s where
  alive b t h := by
    by_cases q : b = a
    · subst q; exact ⟨o, ho⟩
    · rw [TM.put_ne _ _ q] at h; exact W.alive b t h
  frz b o' h := by
    by_cases q : b = a
    · subst q; rw [TM.put_self] at h; cases h; exact ho
    · rw [TM.put_ne _ _ q] at h; exact W.frz b o' h
  uniq b b' n h h' := by
    have q : b ≠ a := by rintro rfl; rw [TM.put_self] at h; cases h
    have q' : b' ≠ a := by rintro rfl; rw [TM.put_self] at h'; cases h'
    rw [TM.put_ne _ _ q] at h; rw [TM.put_ne _ _ q'] at h'
    exact W.uniq b b' n h h'
  own n o' h := (W.own n o' h).mono (Ext.put ha)
  nams b n k h := by
    have q : b ≠ a := by rintro rfl; rw [TM.put_self] at h; cases h
    rw [TM.put_ne _ _ q] at h; exact W.nams b n k h
  top := W.top.mono (Ext.put ha)
  prot b o' h := by
    obtain ⟨h1, h2⟩ := W.prot b o' h
    exact ⟨(TM.put_ne _ _ (by rintro rfl; rw [ha] at h1; injection h1)).trans h1, h2⟩
  cells b x h := by
    have q : b ≠ a := by rintro rfl; rw [TM.put_self] at h; cases h
    rw [TM.put_ne _ _ q] at h; exact W.cells b x h
  pall b h := by
    have q : b ≠ a := by rintro rfl; rw [TM.put_self] at h; cases h
    rw [TM.put_ne _ _ q] at h; exact W.pall b h
  gens := W.gens
  os := W.os
theorem W0.write {w os0 pr T σ s s'} (W : W0 w os0 pr T σ s) {n : Nat} {o : CObj} (hk : ∀ a ob, T a ≠ none → (∀ b, T a ≠ some (.nam n b)) → s.heap.get? a = some ob → s'.heap.get? a = some ob)
    (hal : ∀ a b, T a = some (.nam n b) → ∃ ob, s'.heap.get? a = some ob) (hn : Own w T n o s'.heap) (hg : s'.gens = s.gens) (ho : s'.os = s.os) : W0 w os0 pr T (σ.set n o) s' where
  alive a t h := by
    obtain ⟨ob, e⟩ := W.alive a t h
    by_cases q : ∃ b, T a = some (.nam n b)
    · obtain ⟨b, q⟩ := q; exact hal a b q
    · exact ⟨ob, hk a ob (by refine rwP h ?_; exact Option.some_ne_none _) (fun b hb => q ⟨b, hb⟩) e⟩
  frz a o' h := hk a o' (by refine rwP h ?_; nofun) (by refine rwP h ?_; nofun) (W.frz a o' h)
  uniq := W.uniq
  own k o' h := by
    by_cases q : k = n
    · subst q; rw [CH.set_self] at h; obtain rfl := Option.some.inj h; exact hn
    · rw [CH.set_ne _ _ q] at h
      exact (W.own k o' h).keeps fun a b ob h => hk a ob (by refine rwP h ?_; nofun) (fun b' => by refine rwP h ?_; intro z; cases z; exact q rfl)
  nams a k b h := by
    by_cases q : k = n
    · subst q; rw [CH.set_self]; exact Option.some_ne_none _
    · refine rwP (CH.set_ne _ _ q) ?_; exact W.nams a k b h
  top := W.top
  prot a o' h := by
    obtain ⟨h1, h3, sl, hs, h2⟩ := W.prot a o' h
    exact ⟨h1, h3, sl, hs, hk a _ (by refine rwP h1 ?_; nofun) (by refine rwP h1 ?_; nofun) h2⟩
  cells a x h := let ⟨ob, h1, h2⟩ := W.cells a x h; ⟨ob, hk a _ (by refine rwP h ?_; nofun) (by refine rwP h ?_; nofun) h1, h2⟩
  pall := W.pall
  gens := hg.trans W.gens
  os := ho.trans W.os
theorem W0.name {w os0 pr T T' σ s} (W : W0 w os0 pr T σ s) {n : Nat} {o : CObj} (x : Ext T T') (hp : ∀ a, T a = some .prot → T' a = some .prot) (hnew : ∀ a t, T' a = some t → T a = some t ∨ (T a = none ∧ ∃ b, t = .nam n b ∧ ∃ ob, s.heap.get? a = some ob))
    (hfree : σ n = none) (huq : ∀ a a', T' a = some (.nam n true) → T' a' = some (.nam n true) → a = a') (hn : Own w T' n o s.heap) : W0 w os0 pr T' (σ.set n o) s where
  alive a t h := (hnew a t h).elim (W.alive a t) fun ⟨_, _, _, h⟩ => h
  frz a o' h := (hnew a _ h).elim (W.frz a o') fun ⟨_, _, e, _⟩ => by injection e
  uniq a a' k h h' := by
    rcases hnew a _ h with q | ⟨_, b, e, _⟩
    · rcases hnew a' _ h' with q' | ⟨_, b', e', _⟩
      · exact W.uniq a a' k q q'
      · (injection e' with e'; subst e'); exact absurd hfree (W.nams a _ _ q)
    · (injection e with e; subst e); exact huq a a' h h'
  own k o' h := by
    by_cases q : k = n
    · subst q; rw [CH.set_self] at h; obtain rfl := Option.some.inj h; exact hn
    · rw [CH.set_ne _ _ q] at h; exact (W.own k o' h).mono x
  nams a k b h := by
    by_cases q : k = n
    · subst q; rw [CH.set_self]; nofun
    · refine rwP (CH.set_ne _ _ q) ?_
      rcases hnew a _ h with h' | ⟨_, b', e, _⟩
      · exact W.nams a k b h'
      · (injection e with e; subst e); exact absurd rfl q
  top := W.top.mono x
  prot a o' h := by obtain ⟨h1, h2⟩ := W.prot a o' h; exact ⟨hp a h1, h2⟩
  cells a x h := (hnew a _ h).elim (W.cells a x) fun ⟨_, _, e, _⟩ => by injection e
  pall a h := (hnew a _ h).elim (W.pall a) fun ⟨_, _, e, _⟩ => by injection e
  gens := W.gens
  os := W.os
theorem W0.more {w os0 pr T T' σ s} (W : W0 w os0 pr T σ s) (x : ∀ a t, T a = some t → T' a = some t)
    (hnew : ∀ a t, T' a = some t → T a = some t ∨ ∃ o, s.heap.get? a = some o ∧ (t = .loc ∨ (∃ x, t = .cell x ∧ o.data = .cell none) ∨ t = .frz o)) : W0 w os0 pr T' σ s where
  alive a t h := (hnew a t h).elim (W.alive a t) fun ⟨o, h, _⟩ => ⟨o, h⟩
  frz a o h := (hnew a _ h).elim (W.frz a o) fun ⟨o', h, e⟩ => by rcases e with e | ⟨_, e, _⟩ | e <;> (first | (injection e; done) | (injection e with e; subst e)); exact h
  uniq a a' n h h' := by
    rcases hnew a _ h with q | ⟨o, _, e⟩
    · rcases hnew a' _ h' with q' | ⟨o, _, e⟩
      · exact W.uniq a a' n q q'
      · rcases e with e | ⟨_, e, _⟩ | e <;> injection e
    · rcases e with e | ⟨_, e, _⟩ | e <;> injection e
  own n o h := (W.own n o h).mono ⟨fun a o h => x a _ h, fun a n b h => x a _ h⟩
  nams a n b h := (hnew a _ h).elim (W.nams a n b) fun ⟨o', h, e⟩ => by rcases e with e | ⟨_, e, _⟩ | e <;> injection e
  top := W.top.mono ⟨fun a o h => x a _ h, fun a n b h => x a _ h⟩
  prot a o h := let ⟨h1, h2⟩ := W.prot a o h; ⟨x a _ h1, h2⟩
  cells a y h := (hnew a _ h).elim (W.cells a y) fun ⟨o', h, e⟩ => by
    rcases e with e | ⟨_, e, d⟩ | e
    · injection e
    · exact ⟨o', h, d⟩
    · injection e
  pall a h := (hnew a _ h).elim (W.pall a) fun ⟨o', h, e⟩ => by rcases e with e | ⟨_, e, _⟩ | e <;> injection e
  gens := W.gens
  os := W.os
end Mine
end
section
namespace Mine
structure Cx where
  prog : Program
  A : Around
  nm : Str
  sc : Scope
  L : Addr
  fa : Addr
  cd : Value
  cl : List (Str × Addr)
  outer : List Env
  pr : Pr
  os0 : OsState
  lv : Nat
  cmp : Option Env := none
noncomputable abbrev Cx.env (c : Cx) : Env :=
  { scope := c.sc, locals := c.L, globals := mainGlobals, cells := c.cl, qual := c.nm ++ ".<locals>.", func := (match c.cmp with | none => some c.fa | some _ => none), code := c.cd, frame := (match c.cmp with | none => some c.L | some e => e.frame), builtins := builtinsNs }
noncomputable def Cx.fenv (c : Cx) : Env := c.cmp.getD c.env
theorem Cx.fenv_none {c : Cx} (h : c.cmp = none) : c.fenv = c.env := by unfold Cx.fenv; refine rwP h ?_; rfl
theorem Cx.frame_none {c : Cx} (h : c.cmp = none) : c.env.frame = some c.L := by show (match c.cmp with | none => some c.L | some e => e.frame) = _; refine rwP h ?_; rfl
structure CxOk (c : Cx) : Prop where
  frames : c.A.frames = some (c.fenv :: c.outer)
  outc : ∀ e, c.cmp = some e → e.scope.kind ≠ .module ∧ ∃ L o, e.frame = some L ∧ c.pr L = some o ∧ isD o = true
  out : ∀ e ∈ c.outer, e.scope.kind ≠ .module ∧ ∃ L o, e.frame = some L ∧ c.pr L = some o ∧ isD o = true
  guards : c.A.guards = some []
  handled : c.A.handled = none
  kind : c.sc.kind = .function
  units : c.A.units ≤ 100 + 100 * c.lv
  depth : c.A.depth ≤ 310 + 10 * c.lv
  lvl : c.lv ≤ 30
noncomputable abbrev Lm := List (Str × CV)
noncomputable def Bd (T : TM) (c : Cx) (mm : Str → Option Value) (x : Str) (cv : CV) : Prop :=
  (c.env.kindOf x = some .local ∧ ∃ v, mm x = some v ∧ VR T cv v) ∨
  ((c.env.kindOf x = some .cell ∨ (c.env.kindOf x = some .free ∧ (x == ("__classdict__" : Str)) = false)) ∧ ∃ a, c.cl.lookup x = some a ∧ ∃ o v, T a = some (.frz o) ∧ o.data = .cell (some v) ∧ VR T cv v) ∨
  (c.env.kindOf x = some .cell ∧ cv = .unb ∧ ∃ a, c.cl.lookup x = some a ∧ T a = some (.cell x))
structure Wf (w : World) (c : Cx) (T : TM) (m : Lm) (σ : CH) (s : Shared) : Prop extends W0 w c.os0 c.pr T σ s where
  ok : CxOk c
  locL : T c.L = some .loc
  loc : ∃ mm, s.heap.Ns c.L mm ∧ ∀ x cv, m.lookup x = some cv → Bd T c mm x cv
  onlyL : ∀ a, T a = some .loc → a = c.L
  onlyC : ∀ a x, T a = some (.cell x) → c.cl.lookup x = some a
noncomputable def ExcAt (T : TM) (h : Heap) (L : Option Addr) (e : Value) : Prop :=
  ∃ a oe vs, e = .ref a ∧ T a = none ∧ h.get? a = some oe ∧ oe.cls = .ref 63 ∧ oe.data = .fields vs ∧
    (vs[1]? = some .none ∨ ∃ tb ot ts fl, vs[1]? = some (.ref tb) ∧ T tb = none ∧ tb ≠ a ∧ h.get? tb = some ot ∧ ot.data = .fields ts ∧ ts[3]? = some fl ∧ (fl = .none ∨ ∃ b, L = some b ∧ fl = rawInt b))
theorem Bd.mono {T T' : TM} (x : Ext T T') {c : Cx} {mm : Str → Option Value} {y : Str} {cv : CV} (hc : ∀ a z, T a = some (.cell z) → T' a = some (.cell z)) (b : Bd T c mm y cv) : Bd T' c mm y cv := by
  rcases b with ⟨k, v, e, r⟩ | ⟨k, a, e, o, v, t, d, r⟩ | ⟨k, u, a, e, t⟩
  · exact .inl ⟨k, v, e, r.mono x⟩
  · exact .inr (.inl ⟨k, a, e, o, v, x.frz _ _ t, d, r.mono x⟩)
  · exact .inr (.inr ⟨k, u, a, e, hc _ _ t⟩)
structure J {α β : Type} (w : World) (c : Cx) (R : TM → β → α → Prop) (t : Sem α) (T : TM) (s : Shared) (Q : β → Lm → CH → Prop) (X : CH → Prop) : Prop where
  run : ∀ (Qr : α → Shared → Prop) (Er : Value → Shared → Prop), PassesOwn (model c.prog w) c.A c.env Er →
    (∀ b m' σ' T' s' a, Q b m' σ' → Wf w c T' m' σ' s' → Ext T T' → R T' b a → Qr a s') →
    (∀ m' σ' T' s' e, X σ' → Wf w c T' m' σ' s' → Ext T T' → ExcAt T' s'.heap (some c.L) e → Er e s') → wpI (model c.prog w) c.A t Qr Er s
section
variable {α α' β β' : Type} {w : World} {c : Cx} {R : TM → β → α → Prop} {R' : TM → β' → α' → Prop} {T : TM} {s : Shared} {m : Lm} {σ : CH} {X : CH → Prop}
theorem J.bind {t : Sem α} {k : α → Sem α'} {Q1 : β → Lm → CH → Prop} {Q : β' → Lm → CH → Prop} (h : J w c R t T s Q1 X)
    (hk : ∀ b m' σ' T' s' a, Q1 b m' σ' → Wf w c T' m' σ' s' → Ext T T' → R T' b a → J w c R' (k a) T' s' Q X) : J w c R' (t >>= k) T s Q X := ⟨fun Qr Er hp hq he =>
  wpI_bind (h.run _ Er hp (fun b m' σ' T' s' a q W x r => (hk b m' σ' T' s' a q W x r).run Qr Er hp (fun b2 m2 σ2 T2 s2 a2 q2 W2 x2 r2 => hq b2 m2 σ2 T2 s2 a2 q2 W2 (x.trans x2) r2)
    fun m2 σ2 T2 s2 e q2 W2 x2 r2 => he m2 σ2 T2 s2 e q2 W2 (x.trans x2) r2) he)⟩
theorem J.pure {a : α} {b : β} {Q : β → Lm → CH → Prop} (W : Wf w c T m σ s) (h : Q b m σ) (r : R T b a) : J w c R (Pure.pure a) T s Q X := ⟨fun _ _ _ hq _ =>
  wpI_pure (hq b m σ T s a h W (.refl T) r)⟩
theorem J.mono {t : Sem α} {Q Q' : β → Lm → CH → Prop} {X' : CH → Prop} (h : J w c R t T s Q X) (hq : ∀ b m σ, Q b m σ → Q' b m σ) (hx : ∀ σ, X σ → X' σ) : J w c R t T s Q' X' := ⟨fun Qr Er hp q e =>
  h.run Qr Er hp (fun b m' σ' T' s' a h1 => q b m' σ' T' s' a (hq _ _ _ h1)) fun m' σ' T' s' v h1 => e m' σ' T' s' v (hx _ h1)⟩
theorem J.holding {vs : List Value} {t : Sem α} {Q : β → Lm → CH → Prop} (h : J w c R t T s Q X) : J w c R (PySem.holding vs t) T s Q X := ⟨fun Qr Er hp q e => wpI_holding (h.run Qr Er hp q e)⟩
theorem J.standAt {p : Pos} {k : Unit → Sem α} {Q : β → Lm → CH → Prop} (h : J w c R (k ()) T s Q X) : J w c R (standAt p >>= k) T s Q X := ⟨fun Qr Er hp q e => wpI_bind (wpI_standAt (h.run Qr Er hp q e))⟩
theorem J.release {vs keep : List Value} {k : Unit → Sem α} {Q : β → Lm → CH → Prop} (h : J w c R (k ()) T s Q X) : J w c R (PySem.release vs keep >>= k) T s Q X := ⟨fun Qr Er hp q e => wpI_bind (wpI_release (h.run Qr Er hp q e))⟩
theorem J.operate {vs : List Value} {t : Sem Value} {R : TM → β → Value → Prop} {Q : β → Lm → CH → Prop} (h : J w c R t T s Q X) : J w c R (PySem.operate vs t) T s Q X := by
  refine J.bind (J.holding h) (fun b m' σ' T' s' a q W x r => ?_)
  exact J.release (J.pure W q r)
theorem J.still {t : Sem α} {a : α} {b : β} {Q : β → Lm → CH → Prop} (W : Wf w c T m σ s) (q : Q b m σ) (r : R T b a) (h : ∀ (Qr : α → Shared → Prop) (Er : Value → Shared → Prop), Qr a s → wpAny (model c.prog w) c.A t Qr Er s) : J w c R t T s Q X := ⟨fun Qr Er hp hq _ =>
  of (h Qr Er (hq b m σ T s a q W (.refl T) r))⟩
theorem J.eq {t t' : Sem α} {Q : β → Lm → CH → Prop} (e : t = t') (h : J w c R t' T s Q X) : J w c R t T s Q X := e ▸ h
end
section
variable {w : World} {c : Cx} {T : TM} {s s' : Shared} {m : Lm} {σ : CH}
theorem Wf.tok (W : Wf w c T m σ s) (t : Nat) : Wf w c T m σ { s with toks := t } := ⟨⟨W.alive, W.frz, W.uniq, W.own, W.nams, W.top, W.prot, W.cells, W.pall, W.gens, W.os⟩, W.ok, W.locL, W.loc, W.onlyL, W.onlyC⟩
theorem Wf.stepK (W : Wf w c T m σ s) (hk : Keep T s.heap s'.heap) (hg : s'.gens = s.gens) (ho : s'.os = s.os) : Wf w c T m σ s' where
  toW0 := W.toW0.stepK hk hg ho
  ok := W.ok
  locL := W.locL
  loc := by
    refine hide fun Ph hPh => ?_
    obtain ⟨mm, hn, hb⟩ := W.loc
    obtain ⟨o, es, ep, hL, r⟩ := hn
    refine hPh ?_
    exact ⟨mm, ⟨o, es, ep, hk _ _ (by refine rwP W.locL ?_; exact Option.some_ne_none _) hL, r⟩, hb⟩
  onlyL := W.onlyL
  onlyC := W.onlyC
theorem Wf.keeps (W : Wf w c T m σ s) {h' : Heap} {t : Nat} (hk : ∀ b o, s.heap.get? b = some o → h'.get? b = some o) : Wf w c T m σ { s with heap := h', toks := t } :=
  W.stepK (fun a o _ e => hk a o e) rfl rfl
theorem Wf.freeze (W : Wf w c T m σ s) {a : Addr} {o : Obj} (ha : T a = none) (ho : s.heap.get? a = some o) : Wf w c (T.put a (.frz o)) m σ s where
  toW0 := W.toW0.freeze ha ho
  ok := W.ok
  locL := (TM.put_ne _ _ (by rintro h; rw [← h, W.locL] at ha; injection ha)).trans W.locL
  loc := by
    obtain ⟨mm, hn, hb⟩ := W.loc
    refine ⟨mm, hn, fun x cv e => (hb x cv e).mono (Ext.put ha) fun b z hz => (TM.put_ne _ _ (by rintro h; rw [h, ha] at hz; injection hz)).trans hz⟩
  onlyL b h := by
    by_cases q : b = a
    · subst q; rw [TM.put_self] at h; cases h
    · rw [TM.put_ne _ _ q] at h; exact W.onlyL b h
  onlyC b x h := by
    by_cases q : b = a
    · subst q; rw [TM.put_self] at h; cases h
    · rw [TM.put_ne _ _ q] at h; exact W.onlyC b x h
theorem Wf.push (W : Wf w c T m σ s) {o : Obj} (hf : o.isFreed = false) : Ext T (T.put s.heap.objs.size (.frz o)) ∧ Wf w c (T.put s.heap.objs.size (.frz o)) m σ { s with heap := s.heap.push o } :=
  ⟨Ext.put W.fresh, (W.keeps (t := s.toks) (h' := s.heap.push o) fun _ _ e => Heap.get?_push_of_some _ e).freeze W.fresh (Heap.get?_push_size _ hf)⟩
end
end Mine
end
section
namespace Mine
noncomputable def EV (w : World) (c : Cx) (e : Expr) (m : Lm) (σ : CH) (Q : CV → Lm → CH → Prop) (X : CH → Prop) : Prop := ∀ T s, Wf w c T m σ s → J w c VR (eval e c.env) T s Q X
noncomputable def dbg : Str := "__debug__"
theorem Bd.cases {T : TM} {c : Cx} {mm : Str → Option Value} {x : Str} {cv : CV} (b : Bd T c mm x cv) (hu : cv ≠ .unb) :
    (c.env.kindOf x = some .local ∧ ∃ v, mm x = some v ∧ VR T cv v) ∨ ((c.env.kindOf x = some .cell ∨ (c.env.kindOf x = some .free ∧ (x == ("__classdict__" : Str)) = false)) ∧ ∃ a, c.cl.lookup x = some a ∧ ∃ o v, T a = some (.frz o) ∧ o.data = .cell (some v) ∧ VR T cv v) := by
  rcases b with b | b | ⟨_, b, _⟩
  · exact .inl b
  · exact .inr b
  · exact absurd b hu
section
variable {w : World} {c : Cx} {T : TM} {s : Shared} {m : Lm} {σ : CH} {Q : CV → Lm → CH → Prop} {X : CH → Prop} {x : Str} {pos : Pos} {cv : CV}
theorem J.load (W : Wf w c T m σ s) (h : m.lookup x = some cv) (hu : cv ≠ .unb) (q : Q cv m σ) : J w c VR (loadName c.env x) T s Q X := by
  obtain ⟨mm, hn, hb⟩ := W.loc
  rcases (hb x cv h).cases hu with ⟨k, v, e, r⟩ | ⟨k, a, e, o, v, t, d, r⟩
  · exact J.still W q r fun Qr Er hq => wpAny_loadName_local W.ok.kind k hn e hq
  · have hc : s.heap.IsCell a (some v) := ⟨o, W.frz _ _ t, d⟩
    rcases k with k | ⟨k, kd⟩
    · exact J.still W q r fun Qr Er hq => wpAny_loadName_cell W.ok.kind k e hc hq
    · exact J.still W q r fun Qr Er hq => wpAny_loadName_free W.ok.kind k e hc hq kd
theorem EV.name (h : m.lookup x = some cv) (q : Q cv m σ) (hu : cv ≠ .unb) (hd : (x == dbg) = false) : EV w c (.Name x pos) m σ Q X := fun T s W => ⟨fun Qr Er hp hq he =>
  wpI_Name ((J.load W h hu q).run Qr Er hp hq he) hd⟩
inductive ToppedAll (w : World) (h : Heap) : Prop
  | mk (p : Program) (loose : List Str) (mean : ExcName → Option Value) (mg mb : Str → Option Value) : Top p loose mean mg mb h → (KF w).In h → CodeAll tabsK h → ToppedAll w h
theorem Topped.all {w : World} {os0 pr T σ s} (W : W0 w os0 pr T σ s) : ToppedAll w s.heap := by
  obtain ⟨g, p, lo, me, mg, mb, h1, h2, h4, h3⟩ := W.top
  have hk : ∀ b o, g.get? b = some o → s.heap.get? b = some o := fun b o e => W.frz _ _ (h3 b o e)
  exact ⟨p, lo, me, mg, mb, h1.keeps hk, h2.keeps hk, h4.1.keeps hk, h4.2.1.keeps hk, h4.2.2.1.keeps hk, h4.2.2.2.1.keeps hk, h4.2.2.2.2.1.keeps hk, trivial⟩
inductive ToppedNs (w : World) (h : Heap) : Prop
  | mk (p : Program) (loose : List Str) (mg mb : Str → Option Value) : TopRead p loose mg mb h → (KF w).In h → ToppedNs w h
theorem Topped.ns {w : World} {os0 pr T σ s} (W : W0 w os0 pr T σ s) : ToppedNs w s.heap := by
  obtain ⟨p, lo, me, mg, mb, h1, h2, _⟩ := Topped.all W
  exact ⟨p, lo, mg, mb, topRead_of h1, h2⟩
theorem EV.glob {v : Value} (e : nsIn (KF w) mainGlobals x = some (some v)) (hk : c.sc.names.lookup x = some .globalImplicit) (q : Q (.top v) m σ) (hd : (x == dbg) = false) : EV w c (.Name x pos) m σ Q X := fun T s W => by
  obtain ⟨p, lo, mg, mb, TT, X⟩ := Topped.ns W.toW0
  exact J.still W q VR.top fun Qr Er hq => Name_function_global W.ok.kind hk (loadGlobal_global (env := c.env) TT.g (mg_of X TT.g e) hq) hd
theorem EV.built {v : Value} (e : nsIn (KF w) mainGlobals x = some Option.none) (hv : bootBuiltins x = some v) (hk : c.sc.names.lookup x = some .globalImplicit) (q : Q (.top v) m σ) (hn : x ≠ "__name__") (hd : (x == dbg) = false) : EV w c (.Name x pos) m σ Q X := fun T s W => by
  obtain ⟨p, lo, mg, mb, TT, X⟩ := Topped.ns W.toW0
  exact J.still W q VR.top fun Qr Er hq => Name_function_global W.ok.kind hk (loadGlobal_builtin (env := c.env) TT.g (mg_none_of X TT.g e) TT.b ((TT.builtins x hn).trans hv) hq) hd
theorem EV.cInt {i : Int} {k : Nat} (q : Q (.int i) m σ) : EV w c (.Constant (.int i) k pos) m σ Q X := fun T s W => ⟨fun Qr Er hp hq _ =>
  of (wpAny_Constant_int (hq _ _ _ T _ _ q (W.tok _) (.refl T) VR.int))⟩
theorem EV.cStr {i : Str} {k : Nat} (q : Q (.str i) m σ) : EV w c (.Constant (.str i) k pos) m σ Q X := fun T s W => ⟨fun Qr Er hp hq _ =>
  of (Constant_str (hq _ _ _ T _ _ q (W.tok _) (.refl T) VR.str))⟩
theorem EV.cNone {k : Nat} (q : Q .none m σ) : EV w c (.Constant .none k pos) m σ Q X := fun T s W => by
  show J w c VR (Pure.pure Value.none) T s Q X
  exact J.pure W q VR.none
theorem EV.cBool {b : Bool} {k : Nat} (q : Q (.bool b) m σ) : EV w c (.Constant (.bool b) k pos) m σ Q X := fun T s W => by
  show J w c VR (Pure.pure (Value.bool b)) T s Q X
  exact J.pure W q VR.bool
end
noncomputable def UR : TM → Unit → Unit → Prop := fun _ _ _ => True
section
variable {w : World} {c : Cx} {T : TM} {s : Shared} {m : Lm} {σ : CH} {Q : Unit → Lm → CH → Prop} {X : CH → Prop} {x : Str} {cv : CV} {v : Value}
theorem lookup_cons_ne {y : Str} {m : Lm} (h : y ≠ x) : List.lookup y ((x, cv) :: m) = m.lookup y := by
  refine rwP List.lookup_cons ?_; refine rwP (beq_false_of_ne h) ?_; rfl
theorem lookup_cons_self' {m : Lm} : List.lookup x ((x, cv) :: m) = some cv := by
  refine rwP List.lookup_cons ?_; rw [beq_self_eq_true]
theorem J.storeL (W : Wf w c T m σ s) (r : VR T cv v) (k : c.sc.names.lookup x = some .local) (q : Q () ((x, cv) :: m) σ) : J w c UR (storeName c.env x v) T s Q X := by
  refine ⟨fun Qr Er hp hq _ => ?_⟩
  obtain ⟨mm, hn, hb⟩ := W.loc
  refine of <| wpAny_storeName_local (env := c.env) k hn (fun h' hn' hs => hq () _ _ T _ _ q ⟨?_, W.ok, W.locL, ?_, W.onlyL, W.onlyC⟩ (.refl T) True.intro) (by
    show (c.sc.kind == .class || (c.sc.kind == .module && c.L != mainGlobals)) = false
    refine rwP W.ok.kind ?_; rfl)
  · refine W.toW0.step (fun a o _ h2 e => (hs.2 a (fun z => h2 (z ▸ W.locL))).trans e) (fun a h => ?_) rfl rfl
    have := W.onlyL a h; subst this; obtain ⟨o, _, _, ho, _⟩ := hn'; exact ⟨o, ho⟩
  · refine ⟨_, hn', fun y cy e => ?_⟩
    by_cases hy : y = x
    · subst hy
      rw [lookup_cons_self'] at e; obtain rfl := Option.some.inj e
      exact .inl ⟨k, v, if_pos rfl, r⟩
    · rw [lookup_cons_ne hy] at e
      rcases hb y cy e with ⟨k, v, e, r⟩ | ⟨k, a, e, o, v, t, d, r⟩ | ⟨k, u, a, e, t⟩
      · exact .inl ⟨k, v, (if_neg hy).trans e, r⟩
      · exact .inr (.inl ⟨k, a, e, o, v, t, d, r⟩)
      · exact .inr (.inr ⟨k, u, a, e, t⟩)
theorem J.storeC (W : Wf w c T m σ s) (r : VR T cv v) (hu : m.lookup x = some .unb) (q : Q () ((x, cv) :: m) σ) : J w c UR (storeName c.env x v) T s Q X := by
  refine ⟨fun Qr Er hp hq _ => ?_⟩
  obtain ⟨mm, hn, hb⟩ := W.loc
  have hx := hb x .unb hu
  rcases hx with ⟨k, v', e, r'⟩ | ⟨k, a, e, o, v', t, d, r'⟩ | ⟨k, u, a, ea, t⟩
  · exact r'.unb_inv.elim
  · exact r'.unb_inv.elim
  obtain ⟨o, g, d⟩ := W.cells _ _ t
  have hL : c.L ≠ a := fun z => by rw [← z, W.locL] at t; cases t
  refine of <| wpAny_storeName_cell (env := c.env) W.ok.kind k ea ⟨o, g, d⟩ fun h' hv hs => ?_
  obtain ⟨o', ho', hd'⟩ := hv
  have xe : Ext T (T.put a (.frz o')) := ⟨fun b ob e => (TM.put_ne _ _ (by rintro rfl; rw [t] at e; cases e)).trans e, fun b n bb e => (TM.put_ne _ _ (by rintro rfl; rw [t] at e; cases e)).trans e⟩
  have oth : ∀ b, b ≠ a → h'.get? b = s.heap.get? b := fun b hb => hs.2 b hb
  refine hq () _ _ (T.put a (.frz o')) { s with heap := h' } () q ⟨⟨?_, ?_, ?_, ?_, ?_, W.top.mono xe, ?_, ?_, ?_, W.gens, W.os⟩, W.ok, (TM.put_ne _ _ hL).trans W.locL, ?_, ?_, ?_⟩ xe True.intro
  · intro b tg h
    by_cases z : b = a
    · subst z; exact ⟨o', ho'⟩
    · rw [TM.put_ne _ _ z] at h; obtain ⟨ob, e⟩ := W.alive b tg h; exact ⟨ob, (oth b z).trans e⟩
  · intro b ob h
    by_cases z : b = a
    · subst z; rw [TM.put_self] at h; cases h; exact ho'
    · rw [TM.put_ne _ _ z] at h; exact (oth b z).trans (W.frz b ob h)
  · intro b b' n h1 h2
    have z1 : b ≠ a := by rintro rfl; rw [TM.put_self] at h1; cases h1
    have z2 : b' ≠ a := by rintro rfl; rw [TM.put_self] at h2; cases h2
    rw [TM.put_ne _ _ z1] at h1; rw [TM.put_ne _ _ z2] at h2
    exact W.uniq b b' n h1 h2
  · intro n ob h
    refine ((W.own n ob h).mono xe).keeps fun b bb ob' h1 e => ?_
    have z1 : b ≠ a := by rintro rfl; rw [TM.put_self] at h1; cases h1
    exact (oth b z1).trans e
  · intro b n k h
    have z1 : b ≠ a := by rintro rfl; rw [TM.put_self] at h; cases h
    rw [TM.put_ne _ _ z1] at h; exact W.nams b n k h
  · intro b ob h
    obtain ⟨h1, h3, sl, hs', h2⟩ := W.prot b ob h
    have z1 : b ≠ a := by rintro rfl; rw [t] at h1; cases h1
    exact ⟨(TM.put_ne _ _ z1).trans h1, h3, sl, hs', (oth b z1).trans h2⟩
  · intro b z h
    have z1 : b ≠ a := by rintro rfl; rw [TM.put_self] at h; cases h
    rw [TM.put_ne _ _ z1] at h
    obtain ⟨ob, h1, h2⟩ := W.cells b z h
    exact ⟨ob, (oth b z1).trans h1, h2⟩
  · intro b h
    have z1 : b ≠ a := by rintro rfl; rw [TM.put_self] at h; cases h
    rw [TM.put_ne _ _ z1] at h; exact W.pall b h
  · refine ⟨mm, hn.sameBut hs hL, fun y cy e => ?_⟩
    by_cases hy : y = x
    · subst hy
      rw [lookup_cons_self'] at e; obtain rfl := Option.some.inj e
      exact .inr (.inl ⟨.inl k, a, ea, o', v, TM.put_self .., hd', r.mono xe⟩)
    · rw [lookup_cons_ne hy] at e
      rcases hb y cy e with ⟨k, v, e, r⟩ | ⟨k, a', e, o, v, t', d, r⟩ | ⟨k, u, a', e, t'⟩
      · exact .inl ⟨k, v, e, r.mono xe⟩
      · exact .inr (.inl ⟨k, a', e, o, v, xe.frz _ _ t', d, r.mono xe⟩)
      · have z1 : a' ≠ a := fun z => by rw [z, t] at t'; cases t'; exact hy rfl
        exact .inr (.inr ⟨k, u, a', e, (TM.put_ne _ _ z1).trans t'⟩)
  · intro b h
    by_cases z : b = a
    · subst z; rw [TM.put_self] at h; cases h
    · rw [TM.put_ne _ _ z] at h; exact W.onlyL b h
  · intro b z' h
    by_cases z : b = a
    · subst z; rw [TM.put_self] at h; cases h
    · rw [TM.put_ne _ _ z] at h; exact W.onlyC b z' h
end
noncomputable def StOk (c : Cx) (m : Lm) (x : Str) : Prop := c.sc.names.lookup x = some .local ∨ m.lookup x = some .unb
theorem J.store {w : World} {c : Cx} {T : TM} {s : Shared} {m : Lm} {σ : CH} {Q : Unit → Lm → CH → Prop} {X : CH → Prop} {x : Str} {cv : CV} {v : Value}
    (W : Wf w c T m σ s) (r : VR T cv v) (k : StOk c m x) (q : Q () ((x, cv) :: m) σ) : J w c UR (storeName c.env x v) T s Q X :=
  k.elim (fun k => J.storeL W r k q) fun k => J.storeC W r k q
theorem J.bindName {w : World} {c : Cx} {T : TM} {s : Shared} {m : Lm} {σ : CH} {Q : Unit → Lm → CH → Prop} {X : CH → Prop} {x : Str} {cv : CV} {v : Value}
    (W : Wf w c T m σ s) (r : VR T cv v) (k : StOk c m x) (q : Q () ((x, cv) :: m) σ) : J w c UR (bindName c.env x v) T s Q X := ⟨fun Qr Er hp hq he =>
  wpI_bindName ((J.store W r k q).run Qr Er hp hq he)⟩
end Mine
end
section
namespace Mine
noncomputable def lstQ (no : Option Nat) (l : List CV) (m : Lm) (σ : CH) (Q : CV → Lm → CH → Prop) : Prop := match no with
  | none => Q (.fl l) m σ
  | some n => σ n = none ∧ Q (.ref n) m (σ.set n (.list l))
section
variable {w : World} {c : Cx} {T : TM} {s s' : Shared} {m : Lm} {σ : CH} {X : CH → Prop}
theorem Wf.nameNew (W : Wf w c T m σ s) {n : Nat} {o : CObj} {a : Addr} {ob : Obj} (ha : T a = none) (hob : s.heap.get? a = some ob) (hn : σ n = none)
    (ho : ∀ T', Ext T T' → T' a = some (.nam n true) → Own w T' n o s.heap) : Ext T (T.put a (.nam n true)) ∧ Wf w c (T.put a (.nam n true)) m (σ.set n o) s := by
  have x : Ext T (T.put a (.nam n true)) := Ext.put ha
  have hnn : ∀ b k, T b ≠ some (.nam n k) := fun b k e => W.nams b n k e hn
  refine ⟨x, ⟨W.toW0.name x (fun b h => (TM.put_ne _ _ (by rintro rfl; rw [ha] at h; injection h)).trans h) (fun b t h => ?_) hn (fun b b' h h' => ?_) (ho _ x (TM.put_self ..)), W.ok, ?_, ?_, ?_, ?_⟩⟩
  · by_cases q : b = a
    · subst q; rw [TM.put_self] at h; obtain rfl := Option.some.inj h; exact .inr ⟨ha, true, rfl, ob, hob⟩
    · rw [TM.put_ne _ _ q] at h; exact .inl h
  · have k : ∀ b, T.put a (.nam n true) b = some (.nam n true) → b = a := fun b h => by
      by_cases q : b = a
      · exact q
      · rw [TM.put_ne _ _ q] at h; exact absurd h (hnn b true)
    refine rwP (k b h) ?_; refine rwP (k b' h') ?_; rfl
  · exact (TM.put_ne _ _ (by rintro h; rw [← h, W.locL] at ha; injection ha)).trans W.locL
  · obtain ⟨mm, hns, hb⟩ := W.loc
    exact ⟨mm, hns, fun y cv e => (hb y cv e).mono x fun b z hz => (TM.put_ne _ _ (by rintro h; rw [h, ha] at hz; injection hz)).trans hz⟩
  · intro b h
    by_cases q : b = a
    · subst q; rw [TM.put_self] at h; cases h
    · rw [TM.put_ne _ _ q] at h; exact W.onlyL b h
  · intro b z h
    by_cases q : b = a
    · subst q; rw [TM.put_self] at h; cases h
    · rw [TM.put_ne _ _ q] at h; exact W.onlyC b z h
theorem J.newL {t : Sem Value} {Q : CV → Lm → CH → Prop} (no : Option Nat) {cs : List CV} {vs : List Value} (W : Wf w c T m σ s) (r : VX T cs vs) (q : lstQ no cs m σ Q)
    (h : ∀ (Qr : Value → Shared → Prop) (Er : Value → Shared → Prop), (∀ a h' tk k, (∀ b o, s.heap.get? b = some o → h'.get? b = some o) → s.heap.get? a = none → h'.get? a = some (lstO vs k) → Qr (.ref a) { s with heap := h', toks := tk }) → wpAny (model c.prog w) c.A t Qr Er s) : J w c VR t T s Q X := by
  refine ⟨fun Qr Er hp hq he => ?_⟩
  refine of <| h Qr Er fun a h' tk k hk hn ha => ?_
  have W' : Wf w c T m σ { s with heap := h', toks := tk } := W.keeps hk
  have hT := W.toW0.fresh' hn
  induction no with
  | none =>
    have x : Ext T (T.put a (.frz (lstO vs k))) := Ext.put hT
    exact hq _ _ _ _ _ _ q (W'.freeze hT ha) x (VR.fl (TM.put_self ..) (r.mono x))
  | some n =>
    obtain ⟨q1, q2⟩ := q
    obtain ⟨x, W2⟩ := W'.nameNew (o := .list cs) hT ha q1 (fun T' x h => ⟨a, vs, k, h, ha, r.mono x⟩)
    exact hq _ _ _ _ _ _ q2 W2 x (VR.ref (TM.put_self ..))
theorem J.newT {t : Sem Value} {Q : CV → Lm → CH → Prop} {cs : List CV} {vs : List Value} (W : Wf w c T m σ s) (r : VX T cs vs) (q : Q (.tup cs) m σ)
    (h : ∀ (Qr : Value → Shared → Prop) (Er : Value → Shared → Prop), (∀ a h' tk k, (∀ b o, s.heap.get? b = some o → h'.get? b = some o) → s.heap.get? a = none → h'.get? a = some (tupO vs k) → Qr (.ref a) { s with heap := h', toks := tk }) → wpAny (model c.prog w) c.A t Qr Er s) : J w c VR t T s Q X := by
  refine ⟨fun Qr Er hp hq he => ?_⟩
  refine of <| h Qr Er fun a h' tk k hk hn ha => ?_
  have W' : Wf w c T m σ { s with heap := h', toks := tk } := W.keeps hk
  have hT := W.toW0.fresh' hn
  have x : Ext T (T.put a (.frz (tupO vs k))) := Ext.put hT
  exact hq _ _ _ _ _ _ q (W'.freeze hT ha) x (VR.tup (TM.put_self ..) (r.mono x))
theorem get?_size_none (h : Heap) : h.get? h.objs.size = none := Heap.get?_none_of_le (Nat.le_refl _)
theorem J.newList {Q : CV → Lm → CH → Prop} (no : Option Nat) {cs : List CV} {vs : List Value} (W : Wf w c T m σ s) (r : VX T cs vs) (hz : cs.length ≤ sizeLine) (q : lstQ no cs m σ Q) : J w c VR (PySem.newList vs) T s Q X :=
  J.newL no W r q fun Qr Er h => wpAny_newObj_type (h _ _ s.toks 0 (fun b o e => Heap.get?_push_of_some _ e) (get?_size_none _) (Heap.get?_push_size _ rfl)) (by show vs.toArray.size ≤ sizeLine; refine rwP List.size_toArray ?_; refine rwP r.length ?_; exact hz)
theorem J.newTuple {Q : CV → Lm → CH → Prop} {cs : List CV} {vs : List Value} (W : Wf w c T m σ s) (r : VX T cs vs) (hz : cs.length ≤ sizeLine) (q : Q (.tup cs) m σ) : J w c VR (PySem.newTuple vs) T s Q X :=
  J.newT W r q fun Qr Er h => wpAny_newObj_type (h _ _ s.toks 0 (fun b o e => Heap.get?_push_of_some _ e) (get?_size_none _) (Heap.get?_push_size _ rfl)) (by show vs.toArray.size ≤ sizeLine; refine rwP List.size_toArray ?_; refine rwP r.length ?_; exact hz)
end
noncomputable def EVs (w : World) (c : Cx) (p : Pos) (es : List Expr) (m : Lm) (σ : CH) (Q : List CV → Lm → CH → Prop) (X : CH → Prop) : Prop :=
  ∀ T s, Wf w c T m σ s → J w c VX (spliced (backTo p (starEach es c.env))) T s Q X
section
variable {w : World} {c : Cx} {p : Pos} {m : Lm} {σ : CH} {X : CH → Prop}
theorem EVs.nil {Q : List CV → Lm → CH → Prop} (q : Q [] m σ) : EVs w c p [] m σ Q X := fun T s W => J.pure (R := VX) W q .nil
theorem EVs.cons {Q : List CV → Lm → CH → Prop} {e : Expr} {es : List Expr} (h : EV w c e m σ (fun cv m' σ' => EVs w c p es m' σ' (fun l => Q (cv :: l)) X) X)
    (hs : starEach (e :: es) c.env = (false, eval e c.env) :: starEach es c.env) : EVs w c p (e :: es) m σ Q X := fun T s W => by
  refine rwP hs ?_
  show J w c VX (spliced ((false, eval e c.env) :: backTo p (starEach es c.env))) T s Q X
  refine J.bind (h T s W) fun cv m' σ' T' s' v q W' x r => ?_
  refine J.bind (R := fun T (l : List CV) (vs : List Value) => vs = [v] ∧ l = [cv]) (Q1 := fun l m σ => l = [cv] ∧ m = m' ∧ σ = σ') (J.pure W' ⟨rfl, rfl, rfl⟩ ⟨rfl, rfl⟩) fun l m2 σ2 T2 s2 vs q2 W2 x2 r2 => ?_
  refine hide fun Ph hPh => ?_
  obtain ⟨rfl, rfl, rfl⟩ := q2
  obtain ⟨rfl, _⟩ := r2
  refine hPh ?_
  refine J.bind (J.holding (q T2 s2 W2)) fun l3 m3 σ3 T3 s3 vs3 q3 W3 x3 r3 => ?_
  exact J.pure W3 q3 (VX.cons (r.mono (x2.trans x3)) r3)
theorem EV.tuple {Q : CV → Lm → CH → Prop} {es : List Expr} {k : Nat} (h : EVs w c p es m σ (fun l m' σ' => l.length ≤ sizeLine ∧ Q (.tup l) m' σ') X) : EV w c (.Tuple es k p) m σ Q X := fun T s W => by
  rw [arm_eval_Tuple]
  refine J.standAt (J.bind (h T s W) fun l m' σ' T' s' vs q W' x r => J.newTuple W' r q.1 q.2)
theorem EV.list {Q : CV → Lm → CH → Prop} {es : List Expr} (h : EVs w c p es m σ (fun l m' σ' => l.length ≤ sizeLine ∧ ∃ no, lstQ no l m' σ' Q) X) : EV w c (.List es p) m σ Q X := fun T s W => by
  rw [arm_eval_List]
  refine J.standAt (J.bind (h T s W) fun l m' σ' T' s' vs q W' x r => by obtain ⟨no, q2⟩ := q.2; exact J.newList no W' r q.1 q2)
end
noncomputable abbrev small (i : Int) : Prop := i.natAbs < 2 ^ 64
inductive binI (no : Option Nat) (m : Lm) (σ : CH) (Q : CV → Lm → CH → Prop) : Operator → CV → CV → Prop
  | add {i j} : Q (.int (i + j)) m σ → binI no m σ Q .Add (.int i) (.int j)
  | sub {i j} : Q (.int (i - j)) m σ → binI no m σ Q .Sub (.int i) (.int j)
  | mul {i j} : small i → Q (.int (i * j)) m σ → binI no m σ Q .Mult (.int i) (.int j)
  | div {i j} : j ≠ 0 → small j → Q (.int (Int.fdiv i j)) m σ → binI no m σ Q .FloorDiv (.int i) (.int j)
  | mod {i j} : j ≠ 0 → Q (.int (Int.fmod i j)) m σ → binI no m σ Q .Mod (.int i) (.int j)
  | pow {i j} : 0 ≤ j → j ≤ 1000 → small i → Q (.int (i ^ j.toNat)) m σ → binI no m σ Q .Pow (.int i) (.int j)
  | shl {i j} : 0 ≤ j → j ≤ 1000 → small i → Q (.int (i * 2 ^ j.toNat)) m σ → binI no m σ Q .LShift (.int i) (.int j)
  | addT {l l'} : l.length + l'.length ≤ sizeLine → Q (.tup (l ++ l')) m σ → binI no m σ Q .Add (.tup l) (.tup l')
  | addL {l l'} : l.length + l'.length ≤ sizeLine → lstQ no (l ++ l') m σ Q → binI no m σ Q .Add (.fl l) (.fl l')
  | mulT {l n} : l ≠ [] → 0 ≤ n → n ≤ 1000 → l.length ≤ 1000 → Q (.tup (List.replicate n.toNat l).flatten) m σ → binI no m σ Q .Mult (.tup l) (.int n)
  | mulL {l n} : l ≠ [] → 0 ≤ n → n ≤ 1000 → l.length ≤ 1000 → lstQ no (List.replicate n.toNat l).flatten m σ Q → binI no m σ Q .Mult (.fl l) (.int n)
noncomputable abbrev binQ (no : Option Nat) (op : Operator) (a b : CV) (m : Lm) (σ : CH) (Q : CV → Lm → CH → Prop) : Prop := binI no m σ Q op a b
theorem small_bits {i : Int} (h : small i) : Builtin.Int.intBits i ≤ 64 := by
  exact intBits_le_64 (by lia) (by lia)
theorem small_mul {i j : Int} (h : small i) : IntMulOk i j := by
  have := small_bits h
  unfold IntMulOk
  refine rwP (decide_eq_false (by unfold shortFactorBits; lia)) ?_
  simp
theorem small_div {i j : Int} (h : small j) : Builtin.divisionGoesByPylong i j = false := by
  unfold Builtin.divisionGoesByPylong
  have h2 : Nat.log2 j.natAbs < 64 := by
    by_cases z : j.natAbs = 0
    · refine rwP z ?_; decide
    · exact (Nat.log2_lt z).mpr (by unfold small at h; exact h)
  simp only [Bool.and_eq_false_imp, decide_eq_true_eq, decide_eq_false_iff_not]
  intro h1
  exfalso
  split at h1 <;> lia
section
variable {w : World} {c : Cx} {T : TM} {s s' : Shared} {m : Lm} {σ : CH} {X : CH → Prop}
theorem VX.foldl_rep {T : TM} {l : List CV} {vs : List Value} (r : VX T l vs) : ∀ n, VX T (List.replicate n l).flatten (List.replicate n vs).flatten
  | 0 => .nil
  | n + 1 => by simp only [List.replicate_succ, List.flatten_cons]; exact r.append (VX.foldl_rep r n)
end
end Mine
end
section
namespace Mine
theorem noFill_tuple_mul : fillsNumberSlot (.type "tuple") "mul" = pure false :=
  PySem.fillsNumberSlot_seq (id := "tuple.__mul__") (r := some (.builtin "tuple.__rmul__")) F.slot_tuple_mul.lookup (by decide +kernel) F.slot_tuple_rmul.lookup (by decide +kernel)
theorem repeat_tuple : seqRepeat? (.type "tuple") = pure (some (.builtin "tuple.__mul__")) := by
  unfold seqRepeat?
  refine rwP (PySem.seqSlot_of (T := "tuple") (name := "__mul__") (id := "tuple.__mul__") F.slot_tuple_mul.lookup (by decide +kernel)) ?_; refine rwP (PySem.seqSlot_of (T := "tuple") (name := "__rmul__") (id := "tuple.__rmul__") F.slot_tuple_rmul.lookup (by decide +kernel)) ?_
  rfl
theorem int_rmul_tuple (a : Int) (t : Tok) (l : Addr) (items : Array Value) (n : Nat) :
    Meets (Builtin.«int.__rmul__» ⟨[.int a t, .ref l], []⟩) (fun _ R s => s.heap.get? l = some { cls := .type "tuple", dict := none, data := .seq items n, slots := #[] } ∧ R (.ok (.ret Value.notImplemented)) s) :=
  .of_wp fun prog w A R s h => by obtain ⟨hp, g, d, tk, os⟩ := s; obtain ⟨hl, h⟩ := h; wp_walk; exact ⟨_, rfl, h⟩
open Builtin in
theorem tuple_mul_1 (l : Addr) (items : Array Value) (n : Nat) (u : Tok) :
    Meets (Builtin.«tuple.__mul__» ⟨[.ref l, .int 1 u], []⟩) (fun _ R s => s.heap.get? l = some { cls := .type "tuple", dict := none, data := .seq items n, slots := #[] } ∧ R (.ok (.ret (.ref l))) s) :=
  .of_wp fun prog w A R s h => by
    obtain ⟨hp, g, d, tk, os⟩ := s; obtain ⟨hl, h⟩ := h
    wp_walk; exact ⟨_, rfl, h⟩
open Builtin in
theorem tuple_mul_0 (l : Addr) (items : Array Value) (n : Nat) (u : Tok) (h0 : items.isEmpty = false) :
    Meets (Builtin.«tuple.__mul__» ⟨[.ref l, .int 0 u], []⟩) (fun _ R s => s.heap.get? l = some { cls := .type "tuple", dict := none, data := .seq items n, slots := #[] } ∧ R (.ok (.ret (.ref s.heap.objs.size))) { s with heap := s.heap.push { cls := Value.type "tuple", data := Data.seq #[] } }) :=
  .of_wp fun prog w A R s h => by
    obtain ⟨hp, g, d, tk, os⟩ := s; obtain ⟨hl, h⟩ := h
    wp_walk; exact ⟨_, rfl, h⟩
theorem rep_len {α : Type} (l : List α) : ∀ k, (List.replicate k l).flatten.length = k * l.length
  | 0 => by simp
  | k + 1 => by refine rwP List.replicate_succ ?_; refine rwP List.flatten_cons ?_; refine rwP List.length_append ?_; refine rwP (rep_len l k) ?_; rw [Nat.succ_mul]; lia
open Builtin in
theorem tuple_mul_n (l : Addr) (items : Array Value) (n : Nat) (x : Int) (u : Tok) (h0 : items.isEmpty = false) (h1 : 1 < x) (h2 : x < 1001) (h3 : items.size ≤ 1000) :
    Meets (Builtin.«tuple.__mul__» ⟨[.ref l, .int x u], []⟩) (fun _ R s => s.heap.get? l = some { cls := .type "tuple", dict := none, data := .seq items n, slots := #[] } ∧ R (.ok (.ret (.ref s.heap.objs.size))) { s with heap := s.heap.push { cls := Value.type "tuple", data := Data.seq (List.replicate x.toNat items.toList).flatten.toArray } }) :=
  .of_wp fun prog w A R s h => by
    obtain ⟨hp, g, d, tk, os⟩ := s; obtain ⟨hl, h⟩ := h
    have e1 : (decide (x < -(2 ^ 63)) || decide (x ≥ 2 ^ 63)) = false := by simp; lia
    have e2 : (items.isEmpty || x == 1) = false := by refine rwP h0 ?_; simp; lia
    have e3 : (decide (x ≤ 0) || items.isEmpty) = false := by refine rwP h0 ?_; simp; lia
    have hm : items.size * x.toNat ≤ 1000 * 1000 := Nat.mul_le_mul h3 (by lia)
    have e4 : ¬ ((items.size : Int) * x > (2 ^ 63 - 1) / 8) := by
      have : ((items.size * x.toNat : Nat) : Int) = (items.size : Int) * x := by rewrite [Int.natCast_mul]; refine rwP (Int.toNat_of_nonneg (by lia)) ?_; rfl
      refine rwB this ?_; lia
    have e5 : ¬ ((items.size : Int) * x > (sizeLine : Int)) := by
      have : ((items.size * x.toNat : Nat) : Int) = (items.size : Int) * x := by rewrite [Int.natCast_mul]; refine rwP (Int.toNat_of_nonneg (by lia)) ?_; rfl
      refine rwB this ?_; refine rwP sizeLine_eq ?_; lia
    have f : List.foldl (fun x1 x2 => x1 ++ x2) #[] (List.replicate x.toNat items) = (List.replicate x.toNat items.toList).flatten.toArray := by
      have := listMul_foldl_if items x.toNat
      rw [h0] at this; simpa using this
    have e6 : ¬ ((List.foldl (fun x1 x2 => x1 ++ x2) #[] (List.replicate x.toNat items)).size > sizeLine) := by
      refine rwP f ?_; refine rwP List.size_toArray ?_; rewrite [rep_len]; refine rwP sizeLine_eq ?_; refine rwP Array.length_toList ?_; rw [Nat.mul_comm]; lia
    rw [← f] at h
    wp_walk
    simp only [e1, Bool.false_eq_true, if_false]
    wp_walk
    simp only [e2, Bool.false_eq_true, if_false]
    wp_walk
    simp only [e3, Bool.false_eq_true, if_false]
    wp_walk
    refine rwP (if_neg e4) ?_
    wp_walk
    refine rwP (if_neg (show ¬ (Builtin.Tuple.tupleTooMany ((items.size : Int) * x) = true) from by unfold Builtin.Tuple.tupleTooMany; simpa using e5)) ?_
    wp_walk
    refine rwP (if_neg e6) ?_
    wp_walk
    exact ⟨_, rfl, h⟩
namespace AutoT
section
variable {prog : Program} {w : World} {A : Around} {E : Value → Shared → Prop} {s : Shared} {t b : Addr} {vs vs' : List Value} {k k' : Nat} {Q : Value → Shared → Prop}
theorem add0 (ht : s.heap.get? t = some (tupO [] k)) (hb : s.heap.get? b = some (tupO vs' k')) (h : Q (.ref b) s) : wpAny (model prog w) A (binaryOp .Add (.ref t) (.ref b)) Q E s :=
  concat_meets ⟨_, ht, rfl⟩ ⟨_, hb, rfl⟩ noFill_tuple_add seq_tuple_add F.slot_tuple_add F.entry_tuple_add (F.args_tuple_add_2 _ _) (AutoSeq1.tuple___add___tuple_tuple_0 t #[] k b vs'.toArray k' rfl) ⟨ht, hb, h⟩
theorem add1 (ht : s.heap.get? t = some (tupO vs k)) (hb : s.heap.get? b = some (tupO [] k')) (hne : vs ≠ []) (h : Q (.ref t) s) : wpAny (model prog w) A (binaryOp .Add (.ref t) (.ref b)) Q E s :=
  concat_meets ⟨_, ht, rfl⟩ ⟨_, hb, rfl⟩ noFill_tuple_add seq_tuple_add F.slot_tuple_add F.entry_tuple_add (F.args_tuple_add_2 _ _) (AutoSeq1.tuple___add___tuple_tuple_1 t vs.toArray k b #[] k' (by simpa using hne) rfl) ⟨ht, hb, h⟩
end
end AutoT
section
variable {w : World} {c : Cx} {T : TM} {s s' : Shared} {m : Lm} {σ : CH} {X : CH → Prop}
theorem mul_list_raw {prog : Program} {A : Around} {E : Value → Shared → Prop} {l : Addr} {vs : List Value} {k : Nat} {x : Int} {u : Tok} {Q : Value → Shared → Prop} (ho : s.heap.get? l = some (lstO vs k)) (hlo : 0 ≤ x) (hhi : x ≤ 1000) (hsz : vs.length ≤ 1000)
    (h : Q (.ref s.heap.objs.size) { s with heap := s.heap.push (lstO (List.replicate x.toNat vs).flatten 0) }) : wpAny (model prog w) A (binaryOp .Mult (.ref l) (.int x u)) Q E s := by
  have hm : vs.length * x.toNat ≤ 1000 * 1000 := Nat.mul_le_mul hsz (by lia)
  have hm' : vs.toArray.size * x.toNat ≤ 1000 * 1000 := by simpa using hm
  refine PySem.wpAny_binaryOp_repeat_ref (T := "list") (U := "int") (by decide) ⟨_, ho, rfl⟩ (fun s' => PySem.typeIs_int s' x u) PySem.noFill_list_mul F.fills_int_mul F.slot_int_rmul PySem.repeat_list F.slot_int_index.lookup
    (call_meets F.slot_int_rmul (PySem.typeIs_int s x u) F.entry_int_rmul (F.args_int_rmul_2 _ _) (lm_int_rmul_list_any x u l vs.toArray k none #[])
      ⟨ho, rfl, ⟨_, ho, rfl⟩, call_meets F.slot_list_mul ⟨_, ho, rfl⟩ F.entry_list_mul (F.args_list_mul_2 _ _)
        (lm_list_mul_any l vs.toArray k none #[] x u (by simp [Builtin.List.listFitsIndex]; lia) (by lia) (by simp [Builtin.List.listTooLong, sizeLine]; lia))
        ⟨ho, ?_⟩⟩)
  rw [listMul_foldl_if]
  exact h
theorem mul_tup_raw {prog : Program} {A : Around} {E : Value → Shared → Prop} {l : Addr} {vs : List Value} {k : Nat} {x : Int} {u : Tok} {Q : Value → Shared → Prop} (ho : s.heap.get? l = some (tupO vs k)) (hne : vs ≠ []) (hlo : 0 ≤ x) (hhi : x ≤ 1000) (hsz : vs.length ≤ 1000)
    (h1 : x = 1 → Q (.ref l) s) (h : x ≠ 1 → Q (.ref s.heap.objs.size) { s with heap := s.heap.push (tupO (List.replicate x.toNat vs).flatten 0) }) : wpAny (model prog w) A (binaryOp .Mult (.ref l) (.int x u)) Q E s := by
  have h0 : vs.toArray.isEmpty = false := by simpa using hne
  refine PySem.wpAny_binaryOp_repeat_ref (T := "tuple") (U := "int") (by decide) ⟨_, ho, rfl⟩ (fun s' => PySem.typeIs_int s' x u) noFill_tuple_mul F.fills_int_mul F.slot_int_rmul repeat_tuple F.slot_int_index.lookup
    (call_meets F.slot_int_rmul (PySem.typeIs_int s x u) F.entry_int_rmul (F.args_int_rmul_2 _ _) (int_rmul_tuple x u l vs.toArray k)
      ⟨ho, rfl, ⟨_, ho, rfl⟩, ?_⟩)
  by_cases e1 : x = 1
  · subst e1
    exact call_meets F.slot_tuple_mul ⟨_, ho, rfl⟩ F.entry_tuple_mul (F.args_tuple_mul_2 _ _) (tuple_mul_1 l vs.toArray k u) ⟨ho, h1 rfl⟩
  · by_cases e0 : x = 0
    · subst e0
      have h := h e1
      have M := tuple_mul_0 l vs.toArray k u h0
      rw [show (List.replicate (Int.toNat 0) vs).flatten = [] from rfl] at h
      exact call_meets F.slot_tuple_mul ⟨_, ho, rfl⟩ F.entry_tuple_mul (F.args_tuple_mul_2 _ _) M ⟨ho, h⟩
    · have g1 : 1 < x := by lia
      have g2 : x < 1001 := by lia
      have g3 : vs.toArray.size ≤ 1000 := by simpa using hsz
      have M := tuple_mul_n l vs.toArray k x u h0 g1 g2 g3
      have h := h e1
      generalize hz : x.toNat = z at h M
      exact call_meets F.slot_tuple_mul ⟨_, ho, rfl⟩ F.entry_tuple_mul (F.args_tuple_mul_2 _ _) M ⟨ho, h⟩
theorem rep_one {l : List CV} : (List.replicate (1 : Int).toNat l).flatten = l := by simp
theorem J.addT {Q : CV → Lm → CH → Prop} {a b : Addr} {k k' : Nat} {l l' : List CV} {vs vs' : List Value} (W : Wf w c T m σ s) (ha : T a = some (.frz (tupO vs k))) (hb : T b = some (.frz (tupO vs' k'))) (r1 : VR T (.tup l) (.ref a)) (r2 : VR T (.tup l') (.ref b)) (hv : VX T l vs) (hv' : VX T l' vs')
    (hz : l.length + l'.length ≤ sizeLine) (q : Q (.tup (l ++ l')) m σ) : J w c VR (binaryOp .Add (.ref a) (.ref b)) T s Q X := by
  have hz : vs.length + vs'.length ≤ sizeLine := by refine rwP hv.length ?_; refine rwP hv'.length ?_; exact hz
  by_cases e1 : vs = []
  · subst e1
    cases hv
    exact J.still W q r2 fun Qr Er h => AutoT.add0 (W.frz _ _ ha) (W.frz _ _ hb) h
  · by_cases e2 : vs' = []
    · subst e2
      cases hv'
      exact J.still W (by rw [List.append_nil] at q; exact q) r1 fun Qr Er h => AutoT.add1 (W.frz _ _ ha) (W.frz _ _ hb) e1 h
    · exact J.newT W (hv.append hv') q fun Qr Er h => by refine P.add_tuple (W.frz _ _ ha) (W.frz _ _ hb) (by simpa using e1) (by simpa using e2) ?_ (by simpa using hz); exact h _ _ s.toks 0 (fun b o e => Heap.get?_push_of_some _ e) (get?_size_none _) (by refine rwP (Heap.get?_push_size _ rfl) ?_; simp [tupO])
theorem J.mulT {Q : CV → Lm → CH → Prop} {a : Addr} {k : Nat} {l : List CV} {vs : List Value} {n : Int} {u : Tok} (W : Wf w c T m σ s) (ha : T a = some (.frz (tupO vs k))) (r1 : VR T (.tup l) (.ref a)) (hv : VX T l vs)
    (q1 : l ≠ []) (q2 : 0 ≤ n) (q3 : n ≤ 1000) (q4 : l.length ≤ 1000) (q5 : Q (.tup (List.replicate n.toNat l).flatten) m σ) : J w c VR (binaryOp .Mult (.ref a) (.int n u)) T s Q X := by
  have hne : vs ≠ [] := fun e => q1 (by have := hv.length; rw [e] at this; simpa using this.symm)
  by_cases e1 : n = 1
  · subst e1
    rw [rep_one] at q5
    exact J.still W q5 r1 fun Qr Er h => mul_tup_raw (W.frz _ _ ha) hne q2 q3 (by refine rwP hv.length ?_; exact q4) (fun _ => h) fun e => absurd rfl e
  · exact J.newT W (hv.foldl_rep n.toNat) q5 fun Qr Er h => mul_tup_raw (W.frz _ _ ha) hne q2 q3 (by refine rwP hv.length ?_; exact q4) (fun e => absurd e e1) fun _ => h _ _ s.toks 0 (fun b o e => Heap.get?_push_of_some _ e) (get?_size_none _) (Heap.get?_push_size _ rfl)
theorem J.bin {Q : CV → Lm → CH → Prop} (no : Option Nat) {op : Operator} {c1 c2 : CV} {v1 v2 : Value} (W : Wf w c T m σ s) (r1 : VR T c1 v1) (r2 : VR T c2 v2) (q : binQ no op c1 c2 m σ Q) : J w c VR (binaryOp op v1 v2) T s Q X := by
  have I : ∀ {i1 i2 i : Int} {v1 v2 : Value}, VR T (.int i1) v1 → VR T (.int i2) v2 → Q (.int i) m σ → (∀ t1 t2 (Qr : Value → Shared → Prop) (Er : Value → Shared → Prop), Qr (.int i s.toks) { s with toks := s.toks + 1 } → wpAny (model c.prog w) c.A (binaryOp op (.int i1 t1) (.int i2 t2)) Qr Er s) → J w c VR (binaryOp op v1 v2) T s Q X :=
    fun r1 r2 q h => by
      obtain ⟨t1, rfl⟩ := r1.int_inv
      obtain ⟨t2, rfl⟩ := r2.int_inv
      exact ⟨fun Qr Er hp hq _ => of (h t1 t2 Qr Er (hq _ _ _ T _ _ q (W.tok _) (.refl T) VR.int))⟩
  induction q with
  | add q => exact I r1 r2 q fun _ _ Qr Er h => PyProof.Rows.add_int h
  | sub q => exact I r1 r2 q fun _ _ Qr Er h => PyProof.Rows.sub_int h
  | mul k q => exact I r1 r2 q fun _ _ Qr Er h => PyProof.Rows.mul_int h (small_mul k)
  | div k1 k2 q => exact I r1 r2 q fun _ _ Qr Er h => floordiv_int k1 h (.inl (small_div k2))
  | mod k q => exact I r1 r2 q fun _ _ Qr Er h => mod_int' k h
  | pow k1 k2 k3 q => exact I r1 r2 q fun _ _ Qr Er h => pow_int k1 (Int.le_trans (Int.mul_le_mul (Int.ofNat_le.mpr (small_bits k3)) k2 k1 (by decide)) (by decide)) h
  | shl k1 k2 k3 q => exact I r1 r2 q fun _ _ Qr Er h => lshift_int_small k1 (by lia) k3 h
  | @addT l l' hz q =>
    obtain ⟨a, k, vs, rfl, ha, hv⟩ := r1.tup_inv
    obtain ⟨b, k', vs', rfl, hb, hv'⟩ := r2.tup_inv
    exact J.addT W ha hb r1 r2 hv hv' hz q
  | @addL l l' hz q =>
    obtain ⟨a, k, vs, rfl, ha, hv⟩ := r1.fl_inv
    obtain ⟨b, k', vs', rfl, hb, hv'⟩ := r2.fl_inv
    have hz : vs.length + vs'.length ≤ sizeLine := by refine rwP hv.length ?_; refine rwP hv'.length ?_; exact hz
    exact J.newL no W (hv.append hv') q fun Qr Er h => by refine P.add_list (W.frz _ _ ha) (W.frz _ _ hb) ?_ (by simpa using hz); exact h _ _ s.toks 0 (fun b o e => Heap.get?_push_of_some _ e) (get?_size_none _) (by refine rwP (Heap.get?_push_size _ rfl) ?_; simp [lstO])
  | @mulT l n q1 q2 q3 q4 q5 =>
    obtain ⟨t2, rfl⟩ := r2.int_inv
    obtain ⟨a, k, vs, rfl, ha, hv⟩ := r1.tup_inv
    exact J.mulT W ha r1 hv q1 q2 q3 q4 q5
  | @mulL l n q1 q2 q3 q4 q5 =>
    obtain ⟨t2, rfl⟩ := r2.int_inv
    obtain ⟨a, k, vs, rfl, ha, hv⟩ := r1.fl_inv
    exact J.newL no W (hv.foldl_rep n.toNat) q5 fun Qr Er h => mul_list_raw (W.frz _ _ ha) q2 q3 (by refine rwP hv.length ?_; exact q4) (h _ _ s.toks 0 (fun b o e => Heap.get?_push_of_some _ e) (get?_size_none _) (Heap.get?_push_size _ rfl))
theorem EV.bin {Q : CV → Lm → CH → Prop} {l r : Expr} {op : Operator} {p : Pos} (h : EV w c l m σ (fun c1 m1 σ1 => EV w c r m1 σ1 (fun c2 m2 σ2 => ∃ no, binQ no op c1 c2 m2 σ2 Q) X) X) : EV w c (.BinOp l op r p) m σ Q X := fun T s W => by
  rw [arm_eval_BinOp]
  refine J.bind (h T s W) fun c1 m1 σ1 T1 s1 v1 q1 W1 x1 r1 => ?_
  refine J.bind (J.holding (q1 T1 s1 W1)) fun c2 m2 σ2 T2 s2 v2 q2 W2 x2 r2 => ?_
  obtain ⟨no, q2⟩ := q2
  exact J.standAt (J.operate (J.bin no W2 (r1.mono x2) r2 q2))
end
end Mine
end
section
namespace Mine
mutual
noncomputable def toD : CV → PyData
  | .bool b => .bool b
  | .int i => .int i
  | .str x => .str x
  | .tup l => .tuple (toDs l)
  | .fl l => .list (toDs l)
  | _ => .none
noncomputable def toDs : List CV → List PyData
  | [] => []
  | c :: l => toD c :: toDs l
end
mutual
noncomputable def okD : CV → Bool
  | .none => true
  | .bool _ => true
  | .int _ => true
  | .str _ => true
  | .tup l => okDs l
  | .fl l => okDs l
  | _ => false
noncomputable def okDs : List CV → Bool
  | [] => true
  | c :: l => okD c && okDs l
end
theorem VX.reads {T : TM} {h : Heap} (hf : ∀ a o, T a = some (.frz o) → h.get? a = some o) {l : List CV} {vs : List Value} (r : VX T l vs) : okDs l = true → ∃ as, PySem.ReadsAll h vs (toDs l) as := by
  induction r with
  | nil => intro _; exact ⟨[], .nil⟩
  | @atom c v l vs a r ih =>
    intro ok
    obtain ⟨o1, o2⟩ := Bool.and_eq_true_iff.mp ok
    obtain ⟨as, ra⟩ := ih o2
    have f : ∀ {as} v', v = v' → PySem.Reads h v' (toD c) as → ∃ as, PySem.ReadsAll h (v :: vs) (toD c :: toDs l) as := fun _ e x => ⟨_, .cons (e ▸ x) ra⟩
    clear ra ih r ok
    cases c with
    | none => exact f _ a .none
    | bool b => exact f _ a (.bool b)
    | int i => exact a.elim fun t e => f _ e (.int i t)
    | str i => exact a.elim fun t e => f _ e (.str i t)
    | tup _ => exact a.elim
    | fl _ => exact a.elim
    | fn _ _ => exact a.elim
    | unb => exact a.elim
    | _ => exact (Bool.false_ne_true o1).elim
  | tup ha _ _ i1 i2 =>
    intro ok
    obtain ⟨o1, o2⟩ := Bool.and_eq_true_iff.mp ok
    exact (i1 o1).elim fun as ra => (i2 o2).elim fun bs rb => ⟨_, .cons (.tuple (hf _ _ ha) rfl rfl ra) rb⟩
  | fl ha _ _ i1 i2 =>
    intro ok
    obtain ⟨o1, o2⟩ := Bool.and_eq_true_iff.mp ok
    exact (i1 o1).elim fun as ra => (i2 o2).elim fun bs rb => ⟨_, .cons (.list (hf _ _ ha) rfl rfl ra) rb⟩
  | fn _ _ _ _ _ _ _ _ _ => exact fun ok => (Bool.false_ne_true (Bool.and_eq_true_iff.mp ok).1).elim
theorem reads_one {h : Heap} {v : Value} {d : PyData} {as : List Addr} (r : PySem.ReadsAll h [v] [d] as) : ∃ as, PySem.Reads h v d as := by
  cases r with
  | cons r _ => exact ⟨_, r⟩
theorem VR.reads {T : TM} {h : Heap} (hf : ∀ a o, T a = some (.frz o) → h.get? a = some o) {c : CV} {v : Value} (r : VR T c v) (ok : okD c = true) : ∃ as, PySem.Reads h v (toD c) as :=
  (VX.reads hf r (Bool.and_eq_true_iff.mpr ⟨ok, rfl⟩)).elim fun _ ra => reads_one ra
noncomputable def res0 (σ : CH) : CV → CV
  | .ref n => match σ n with
    | some (.list l) => .fl l
    | _ => .ref n
  | c => c
noncomputable def res (σ : CH) : CV → CV
  | .tup l => .tup (l.map (res0 σ))
  | .fl l => .fl (l.map (res0 σ))
  | c => res0 σ c
theorem res0_of {σ : CH} {n : Nat} {o : Option CObj} (h : σ n = o) : res0 σ (.ref n) = res0 (fun _ => o) (.ref n) := by subst h; rfl
section
variable {w : World} {os0 : OsState} {pr : Pr} {T : TM} {σ : CH} {s : Shared}
theorem VR.reads0 (W : W0 w os0 pr T σ s) {c : CV} {v : Value} (r : VR T c v) (ok : okD (res0 σ c) = true) : ∃ as, PySem.Reads s.heap v (toD (res0 σ c)) as := by
  cases c with
  | ref n =>
    obtain ⟨a, rfl, ha⟩ := r.ref_inv
    cases hn : σ n with
    | none => exact (Bool.false_ne_true ((congrArg okD (res0_of hn)).symm.trans ok)).elim
    | some o =>
      rw [res0_of hn] at ok ⊢
      cases o with
      | list l =>
        obtain ⟨b, vs, k, hb, ho, hv⟩ := W.own _ _ hn
        have := W.uniq a b _ ha hb; subst this
        exact (VX.reads W.frz hv ok).elim fun as ra => ⟨_, .list ho rfl rfl ra⟩
      | _ => exact (Bool.false_ne_true ok).elim
  | _ => exact VR.reads W.frz r ok
theorem VX.reads0 (W : W0 w os0 pr T σ s) {l : List CV} {vs : List Value} (r : VX T l vs) (ok : okDs (l.map (res0 σ)) = true) : ∃ as, PySem.ReadsAll s.heap vs (toDs (l.map (res0 σ))) as := by
  induction l generalizing vs with
  | nil => cases r.nil_inv; exact ⟨[], .nil⟩
  | cons c l ih =>
    obtain ⟨v, vs', rfl, hv, hr⟩ := r.cons_inv
    obtain ⟨o1, o2⟩ := Bool.and_eq_true_iff.mp ok
    exact (hv.reads0 W o1).elim fun as ra => (ih hr o2).elim fun bs rb => ⟨_, .cons ra rb⟩
theorem VR.readsσ (W : W0 w os0 pr T σ s) {c : CV} {v : Value} (r : VR T c v) (ok : okD (res σ c) = true) : ∃ as, PySem.Reads s.heap v (toD (res σ c)) as := by
  cases c with
  | tup l =>
    obtain ⟨a, k, vs, rfl, ha, hv⟩ := r.tup_inv
    exact (hv.reads0 W ok).elim fun as ra => ⟨_, .tuple (W.frz _ _ ha) rfl rfl ra⟩
  | fl l =>
    obtain ⟨a, k, vs, rfl, ha, hv⟩ := r.fl_inv
    exact (hv.reads0 W ok).elim fun as ra => ⟨_, .list (W.frz _ _ ha) rfl rfl ra⟩
  | _ => exact r.reads0 W ok
end
noncomputable def isInt : CV → Bool
  | .int _ => true
  | _ => false
noncomputable def isNoneQ : CV → Option Bool
  | .none => some true
  | .bool _ => some false
  | .int _ => some false
  | .str _ => some false
  | .tup _ => some false
  | .fl _ => some false
  | .ref _ => some false
  | _ => none
noncomputable def hasInt (i : Int) : List CV → Bool
  | [] => false
  | .int j :: l => j == i || hasInt i l
  | _ :: l => hasInt i l
inductive cmpI (σ : CH) (Q : Bool → Prop) : CmpOp → CV → CV → Prop
  | lt {i j} : Q (decide (i < j)) → cmpI σ Q .Lt (.int i) (.int j)
  | le {i j} : Q (decide (i ≤ j)) → cmpI σ Q .LtE (.int i) (.int j)
  | gt {i j : Int} : Q (decide (j < i)) → cmpI σ Q .Gt (.int i) (.int j)
  | eq {i j} : Q (i == j) → cmpI σ Q .Eq (.int i) (.int j)
  | ne {i j} : Q (i != j) → cmpI σ Q .NotEq (.int i) (.int j)
  | eqS {i j} : Q (i == j) → cmpI σ Q .Eq (.str i) (.str j)
  | neS {i j} : Q (i != j) → cmpI σ Q .NotEq (.str i) (.str j)
  | eqB {i j} : Q (i == j) → cmpI σ Q .Eq (.bool i) (.bool j)
  | neB {i j} : Q (i != j) → cmpI σ Q .NotEq (.bool i) (.bool j)
  | is {a} (b : Bool) : isNoneQ a = some b → Q b → cmpI σ Q .Is a .none
  | isNot {a} (b : Bool) : isNoneQ a = some b → Q (!b) → cmpI σ Q .IsNot a .none
  | isRef {n} : Q true → cmpI σ Q .Is (.ref n) (.ref n)
  | inT {i l} : l.all isInt = true → Q (hasInt i l) → cmpI σ Q .In (.int i) (.tup l)
  | inF {i l} : l.all isInt = true → Q (hasInt i l) → cmpI σ Q .In (.int i) (.fl l)
  | eqD {a b} : res σ a = res σ b → okD (res σ a) = true → SeqAt.shaped (toD (res σ a)) = true → Q true → cmpI σ Q .Eq a b
  | neD {a b} : res σ a = res σ b → okD (res σ a) = true → SeqAt.shaped (toD (res σ a)) = true → Q false → cmpI σ Q .NotEq a b
noncomputable abbrev cmpQ (σ : CH) (op : CmpOp) (a b : CV) (Q : Bool → Prop) : Prop := cmpI σ Q op a b
theorem cmpQ_mono {σ : CH} {op : CmpOp} {c1 c2 : CV} {P P' : Bool → Prop} (hp : ∀ b, P b → P' b) (q : cmpQ σ op c1 c2 P) : cmpQ σ op c1 c2 P' := by
  induction q with
  | lt q => exact .lt (hp _ q)
  | le q => exact .le (hp _ q)
  | gt q => exact .gt (hp _ q)
  | eq q => exact .eq (hp _ q)
  | ne q => exact .ne (hp _ q)
  | eqS q => exact .eqS (hp _ q)
  | neS q => exact .neS (hp _ q)
  | eqB q => exact .eqB (hp _ q)
  | neB q => exact .neB (hp _ q)
  | is b h q => exact .is b h (hp _ q)
  | isNot b h q => exact .isNot b h (hp _ q)
  | isRef q => exact .isRef (hp _ q)
  | inT h q => exact .inT h (hp _ q)
  | inF h q => exact .inF h (hp _ q)
  | eqD a b c q => exact .eqD a b c (hp _ q)
  | neD a b c q => exact .neD a b c (hp _ q)
theorem isNoneQ_is {T : TM} {c : CV} {v : Value} {b : Bool} (r : VR T c v) (h : isNoneQ c = some b) : (v == .none) = b := by
  have f : ∀ {x : Bool}, some x = some b → (v == .none) = x → (v == .none) = b := fun h e => e.trans (Option.some.inj h)
  cases c with
  | none => exact f h (by refine rwP r.none_inv ?_; rfl)
  | bool => exact f h (by refine rwP r.bool_inv ?_; rfl)
  | int => exact f h (by obtain ⟨t, rfl⟩ := r.int_inv; rfl)
  | str => exact f h (by obtain ⟨t, rfl⟩ := r.str_inv; rfl)
  | ref => exact f h (by obtain ⟨a, rfl, _⟩ := r.ref_inv; rfl)
  | tup => exact f h (by obtain ⟨a, _, _, rfl, _⟩ := r.tup_inv; rfl)
  | fl => exact f h (by obtain ⟨a, _, _, rfl, _⟩ := r.fl_inv; rfl)
  | _ => exact nomatch (show none = some b from h)
noncomputable def eInt (i : Int) : Value → Bool
  | .int j _ => j == i
  | _ => false
theorem VX.ints {T : TM} {l : List CV} {vs : List Value} (r : VX T l vs) (ok : l.all isInt = true) (i : Int) : vs.any (eInt i) = hasInt i l ∧ ∀ y ∈ vs, ∃ j t, y = .int j t := by
  induction l generalizing vs with
  | nil => cases r.nil_inv; exact ⟨rfl, nofun⟩
  | cons c l ih =>
    obtain ⟨v, vs', rfl, hv, hr⟩ := r.cons_inv
    rw [List.all_cons, Bool.and_eq_true] at ok
    cases c with
    | int j =>
      obtain ⟨t, rfl⟩ := hv.int_inv
      obtain ⟨h1, h2⟩ := ih hr ok.2
      refine ⟨by refine rwP List.any_cons ?_; refine rwP h1 ?_; rfl, fun y hy => ?_⟩
      rcases List.mem_cons.mp hy with rfl | hy
      · exact ⟨j, t, rfl⟩
      · exact h2 y hy
    | _ => exact (Bool.false_ne_true ok.1).elim
theorem eInt_at {A : Around} {s : Shared} {vs : List Value} (h : ∀ y ∈ vs, ∃ j t, y = .int j t) (i : Int) (u : Tok) : ∀ y ∈ vs.toArray, SeqAt.EqAt A s y (.int i u) (eInt i y) := fun y hy => by
  obtain ⟨j, t, rfl⟩ := h y (by simpa using hy)
  exact SeqAt.EqAt.int_int j t i u
section
variable {w : World} {c : Cx} {T : TM} {s s' : Shared} {m : Lm} {σ : CH} {X : CH → Prop}
theorem J.inSeq {Q : CV → Lm → CH → Prop} {i : Int} {l : List CV} {v1 v2 : Value} (W : Wf w c T m σ s) (r1 : VR T (.int i) v1) (q1 : l.all isInt = true) (q2 : Q (.bool (hasInt i l)) m σ)
    (h : TupInv T l v2 ∨ FlInv T l v2) : J w c VR (compareOp .In v1 v2) T s Q X := by
  obtain ⟨u, rfl⟩ := r1.int_inv
  refine J.still W q2 VR.bool fun Qr Er hh => ?_
  rcases h with ⟨a, k, vs, rfl, ha, hv⟩ | ⟨a, k, vs, rfl, ha, hv⟩
  · obtain ⟨h1, h2⟩ := hv.ints q1 i
    refine SeqAt.in_tupleAt (eInt i) ⟨_, W.frz _ _ ha, rfl, k, rfl⟩ (eInt_at h2 i u) ?_
    refine rwP List.any_toArray ?_; refine rwP h1 ?_; exact hh
  · obtain ⟨h1, h2⟩ := hv.ints q1 i
    refine SeqAt.in_listAt (eInt i) ⟨_, W.frz _ _ ha, rfl, k, rfl⟩ (eInt_at h2 i u) ?_
    refine rwP List.any_toArray ?_; refine rwP h1 ?_; exact hh
theorem W0.same {os0 : OsState} {pr : Pr} (W : W0 w os0 pr T σ s) {c1 c2 : CV} {v1 v2 : Value} (r1 : VR T c1 v1) (r2 : VR T c2 v2) (e : res σ c1 = res σ c2) (ok : okD (res σ c1) = true) : ∃ as bs, PySem.Reads s.heap v1 (toD (res σ c1)) as ∧ PySem.Reads s.heap v2 (toD (res σ c1)) bs := by
  obtain ⟨as, ra⟩ := r1.readsσ W ok
  rw [e] at ok ⊢
  obtain ⟨bs, rb⟩ := r2.readsσ W ok
  exact ⟨as, bs, e ▸ ra, rb⟩
theorem J.cmp {Q : CV → Lm → CH → Prop} {op : CmpOp} {c1 c2 : CV} {v1 v2 : Value} (W : Wf w c T m σ s) (r1 : VR T c1 v1) (r2 : VR T c2 v2) (q : cmpQ σ op c1 c2 (fun b => Q (.bool b) m σ)) : J w c VR (compareOp op v1 v2) T s Q X := by
  have hu : c.A.units + 64 < cLine := by have := W.ok.units; have := W.ok.lvl; refine rwP cLine_is ?_; lia
  have B : ∀ {i j : Int} {b : Bool}, VR T (.int i) v1 → VR T (.int j) v2 → Q (.bool b) m σ → (∀ t u (Qr : Value → Shared → Prop) (Er : Value → Shared → Prop), Qr (.bool b) s → wpAny (model c.prog w) c.A (compareOp op (.int i t) (.int j u)) Qr Er s) → J w c VR (compareOp op v1 v2) T s Q X :=
    fun r1 r2 q h => by
      obtain ⟨t1, rfl⟩ := r1.int_inv
      obtain ⟨t2, rfl⟩ := r2.int_inv
      exact J.still W q VR.bool (h t1 t2)
  have S : ∀ {i j : Str} {b : Bool}, VR T (.str i) v1 → VR T (.str j) v2 → Q (.bool b) m σ → (∀ t u (Qr : Value → Shared → Prop) (Er : Value → Shared → Prop), Qr (.bool b) s → wpAny (model c.prog w) c.A (compareOp op (.str i t) (.str j u)) Qr Er s) → J w c VR (compareOp op v1 v2) T s Q X :=
    fun r1 r2 q h => by
      obtain ⟨t1, rfl⟩ := r1.str_inv
      obtain ⟨t2, rfl⟩ := r2.str_inv
      exact J.still W q VR.bool (h t1 t2)
  induction q with
  | lt q => exact B r1 r2 q fun _ _ Qr Er h => lt_int h
  | le q => exact B r1 r2 q fun _ _ Qr Er h => le_int h
  | gt q => exact B r1 r2 q fun _ _ Qr Er h => gt_int h
  | eq q => exact B r1 r2 q fun _ _ Qr Er h => eq_int h
  | ne q => exact B r1 r2 q fun _ _ Qr Er h => ne_int h
  | eqS q => exact S r1 r2 q fun _ _ Qr Er h => eq_str h
  | neS q => exact S r1 r2 q fun _ _ Qr Er h => ne_str h
  | eqB q =>
    refine rwP r1.bool_inv ?_; refine rwP r2.bool_inv ?_
    exact J.still W q VR.bool fun Qr Er h => eq_bool h
  | neB q =>
    refine rwP r1.bool_inv ?_; refine rwP r2.bool_inv ?_
    exact J.still W q VR.bool fun Qr Er h => ne_bool h
  | is b hb q =>
    refine rwP r2.none_inv ?_
    exact J.still W q VR.bool fun Qr Er h => is_none (isNoneQ_is r1 hb ▸ h)
  | isNot b hb q =>
    refine rwP r2.none_inv ?_
    exact J.still W q VR.bool fun Qr Er h => isnot_none_gen (isNoneQ_is r1 hb ▸ h)
  | isRef q =>
    obtain ⟨a, rfl, ha⟩ := r1.ref_inv; obtain ⟨b, rfl, hb⟩ := r2.ref_inv
    refine rwP (W.uniq a b _ ha hb) ?_
    exact J.still W q VR.bool fun Qr Er h => wpAny_is_ref_self h
  | inT q1 q => exact J.inSeq W r1 q1 q (.inl r2.tup_inv)
  | inF q1 q => exact J.inSeq W r1 q1 q (.inr r2.fl_inv)
  | eqD e ok sh q =>
    obtain ⟨as, bs, ra, rb⟩ := W.toW0.same r1 r2 e ok
    refine J.still W q VR.bool fun Qr Er h => ?_
    refine eq_dataH ra rb sh sh hu ?_
    refine rwP (SeqAt.eqv_refl _ (SeqAt.canLay_of_shaped sh)) ?_; exact h
  | neD e ok sh q =>
    obtain ⟨as, bs, ra, rb⟩ := W.toW0.same r1 r2 e ok
    refine J.still W q VR.bool fun Qr Er h => ?_
    refine ne_dataH ra rb sh sh hu ?_
    refine rwP (SeqAt.eqv_refl _ (SeqAt.canLay_of_shaped sh)) ?_; exact h
end
end Mine
end
section
namespace Mine
section
variable {w : World} {c : Cx} {m : Lm} {σ : CH} {X : CH → Prop} {Q : CV → Lm → CH → Prop}
theorem EV.neg {i : Int} {k : Nat} {p p' : Pos} (q : Q (.int (-i)) m σ) : EV w c (.UnaryOp .USub (.Constant (.int i) k p') p) m σ Q X := fun T s W => by
  rw [arm_eval_UnaryOp]
  refine J.bind (EV.cInt (Q := fun cv m' σ' => cv = .int i ∧ m' = m ∧ σ' = σ) ⟨rfl, rfl, rfl⟩ T s W) fun c1 m1 σ1 T1 s1 v1 q1 W1 x1 r1 => ?_
  obtain ⟨rfl, rfl, rfl⟩ := q1
  obtain ⟨t, rfl⟩ := r1.int_inv
  exact J.standAt (J.holding ⟨fun Qr Er hp hq _ => by refine of (neg_int ?_); exact hq _ _ _ _ _ _ q (W1.tok _) (.refl _) VR.int⟩)
end
noncomputable def BoR : TM → Bool → Bool → Prop := fun _ b a => a = b
noncomputable def TV (w : World) (c : Cx) (e : Expr) (m : Lm) (σ : CH) (Q : Bool → Lm → CH → Prop) (X : CH → Prop) : Prop := ∀ T s, Wf w c T m σ s → J w c BoR (isTrue e c.env (eval e c.env)) T s Q X
noncomputable def TVs (w : World) (c : Cx) (op : BoolOp) (es : List Expr) (m : Lm) (σ : CH) (Q : Bool → Lm → CH → Prop) (X : CH → Prop) : Prop := ∀ T s, Wf w c T m σ s → J w c BoR (allTrue op es c.env) T s Q X
section
variable {w : World} {c : Cx} {T : TM} {s : Shared} {m : Lm} {σ : CH} {X : CH → Prop} {Q : Bool → Lm → CH → Prop}
theorem J.truthy {b : Bool} {v : Value} (W : Wf w c T m σ s) (r : VR T (.bool b) v) (q : Q b m σ) : J w c BoR (PySem.truthy v) T s Q X := by
  refine rwP r.bool_inv ?_
  exact J.still W q rfl fun Qr Er h => wpAny_truthy_bool h
theorem TV.not {e : Expr} {p : Pos} (h : TV w c e m σ (fun b m' σ' => Q (!b) m' σ') X) : TV w c (.UnaryOp .Not e p) m σ Q X := fun T s W => by
  rw [arm_isTrue_UnaryOp]
  refine J.bind (h T s W) fun b m1 σ1 T1 s1 a q1 W1 x1 r1 => ?_
  exact J.pure W1 q1 (by refine rwP r1 ?_; rfl)
theorem TV.bools {op : BoolOp} {es : List Expr} {p : Pos} (h : TVs w c op es m σ Q X) : TV w c (.BoolOp op es p) m σ Q X := fun T s W => by
  rw [arm_isTrue_BoolOp]; exact h T s W
theorem TVs.nil {op : BoolOp} (q : Q (op == .And) m σ) : TVs w c op [] m σ Q X := fun T s W => by
  rw [arm_allTrue_nil]; exact J.pure W q rfl
theorem TVs.and {e : Expr} {es : List Expr} (h : TV w c e m σ (fun b m' σ' => match b with | false => Q false m' σ' | true => TVs w c .And es m' σ' Q X) X) : TVs w c .And (e :: es) m σ Q X := fun T s W => by
  rw [arm_allTrue_cons]
  refine J.bind (h T s W) fun b m1 σ1 T1 s1 a q1 W1 x1 r1 => ?_
  cases (r1)
  cases b
  · exact J.pure W1 q1 rfl
  · exact q1 T1 s1 W1
theorem TVs.or {e : Expr} {es : List Expr} (h : TV w c e m σ (fun b m' σ' => match b with | true => Q true m' σ' | false => TVs w c .Or es m' σ' Q X) X) : TVs w c .Or (e :: es) m σ Q X := fun T s W => by
  rw [arm_allTrue_cons]
  refine J.bind (h T s W) fun b m1 σ1 T1 s1 a q1 W1 x1 r1 => ?_
  cases (r1)
  cases b
  · exact q1 T1 s1 W1
  · exact J.pure W1 q1 rfl
theorem TV.cmp {l r : Expr} {op : CmpOp} {p : Pos} (h : EV w c l m σ (fun c1 m1 σ1 => EV w c r m1 σ1 (fun c2 m2 σ2 => cmpQ σ2 op c1 c2 (fun b => Q b m2 σ2)) X) X)
    (hm : behindInMarks op r = false) : TV w c (.Compare l [op] [r] p) m σ Q X := fun T s W => by
  refine J.eq (isTrue_Compare1 c.env l op r p _) ?_
  refine rwP (markedBehindIn_of_false hm) ?_
  refine J.bind (h T s W) fun c1 m1 σ1 T1 s1 v1 q1 W1 x1 r1 => ?_
  refine J.bind (J.holding (q1 T1 s1 W1)) fun c2 m2 σ2 T2 s2 v2 q2 W2 x2 r2 => ?_
  refine J.standAt ?_
  refine J.bind (J.operate (J.cmp (Q := fun cv m' σ' => ∃ b, cv = .bool b ∧ Q b m' σ') W2 (r1.mono x2) r2 ?_)) fun cv m3 σ3 T3 s3 v3 q3 W3 x3 r3 => ?_
  · exact cmpQ_mono (fun b hb => ⟨b, rfl, hb⟩) q2
  · obtain ⟨b, rfl, q⟩ := q3
    exact J.holding (J.truthy W3 r3 q)
theorem TV.plain {e : Expr} (h : EV w c e m σ (fun cv m' σ' => ∃ b, cv = .bool b ∧ Q b m' σ') X)
    (he : isTrue e c.env (eval e c.env) = (do let v ← eval e c.env; standAt e.pos; PySem.holding [v] (PySem.truthy v))) : TV w c e m σ Q X := fun T s W => by
  refine rwP he ?_
  refine J.bind (h T s W) fun cv m1 σ1 T1 s1 v q1 W1 x1 r1 => ?_
  refine hide fun Ph hPh => ?_
  obtain ⟨b, rfl, q⟩ := q1
  refine hPh ?_
  exact J.standAt (J.holding (J.truthy W1 r1 q))
end
end Mine
end
section
namespace Mine
section
variable {w : World} {c : Cx} {T : TM} {s : Shared} {m : Lm} {σ : CH} {X : CH → Prop}
theorem TV.cmp2 {Q : Bool → Lm → CH → Prop} {l r1 r2 : Expr} {o1 o2 : CmpOp} {p : Pos}
    (h : EV w c l m σ (fun c1 m1 σ1 => EV w c r1 m1 σ1 (fun c2 m2 σ2 => cmpQ σ2 o1 c1 c2 (fun b => match b with | false => Q false m2 σ2 | true => EV w c r2 m2 σ2 (fun c3 m3 σ3 => cmpQ σ3 o2 c2 c3 (fun b => Q b m3 σ3)) X)) X) X)
    (hm : markedEach [o1, o2] [r1, r2] (evalEach [r1, r2] c.env) = [eval r1 c.env, eval r2 c.env]) : TV w c (.Compare l [o1, o2] [r1, r2] p) m σ Q X := fun T s W => by
  rewrite [arm_isTrue_Compare]; refine rwP hm ?_
  refine J.bind (h T s W) fun c1 m1 σ1 T1 s1 v1 q1 W1 x1 k1 => ?_
  refine J.bind (J.holding (q1 T1 s1 W1)) fun c2 m2 σ2 T2 s2 v2 q2 W2 x2 k2 => ?_
  refine J.standAt ?_
  refine J.bind (J.holding (J.cmp (Q := fun cv m' σ' => ∃ b, cv = .bool b ∧ m' = m2 ∧ σ' = σ2 ∧ (match b with | false => Q false m2 σ2 | true => EV w c r2 m2 σ2 (fun c3 m3 σ3 => cmpQ σ3 o2 c2 c3 (fun b => Q b m3 σ3)) X)) W2 (k1.mono x2) k2 (cmpQ_mono (fun b hb => ⟨b, rfl, rfl, rfl, hb⟩) q2))) fun cv m3 σ3 T3 s3 v3 q3 W3 x3 k3 => ?_
  refine hide fun Ph hPh => ?_
  obtain ⟨b, rfl, rfl, rfl, q⟩ := q3
  refine hPh ?_
  refine J.release ?_
  refine J.bind (J.holding (J.truthy (Q := fun b' m' σ' => b' = b ∧ m' = m3 ∧ σ' = σ3) W3 k3 ⟨rfl, rfl, rfl⟩)) fun b4 m4 σ4 T4 s4 a4 q4 W4 x4 k4 => ?_
  obtain ⟨rfl, rfl, rfl⟩ := q4
  cases (k4)
  cases b4
  · exact J.pure W4 q rfl
  · simp only [if_true]
    refine J.bind (J.holding (q T4 s4 W4)) fun c5 m5 σ5 T5 s5 v5 q5 W5 x5 k5 => ?_
    refine J.standAt ?_
    refine J.bind (J.operate (J.cmp (Q := fun cv m' σ' => ∃ b, cv = .bool b ∧ Q b m' σ') W5 (k2.mono (x3.trans (x4.trans x5))) k5 (cmpQ_mono (fun b hb => ⟨b, rfl, hb⟩) q5))) fun cv m6 σ6 T6 s6 v6 q6 W6 x6 k6 => ?_
    obtain ⟨b, rfl, q⟩ := q6
    exact J.holding (J.truthy W6 k6 q)
noncomputable def EVb (w : World) (c : Cx) (p : Pos) (op : BoolOp) (es : List Expr) (m : Lm) (σ : CH) (Q : CV → Lm → CH → Prop) (X : CH → Prop) : Prop := ∀ T s, Wf w c T m σ s → J w c VR (boolOp p op (evalEach es c.env)) T s Q X
theorem EVb.last {Q : CV → Lm → CH → Prop} {op : BoolOp} {e : Expr} {p : Pos} (h : EV w c e m σ Q X) : EVb w c p op [e] m σ Q X := fun T s W => by
  rw [arm_evalEach_cons, arm_evalEach_nil]
  exact h T s W
theorem EVb.and {Q : CV → Lm → CH → Prop} {e e2 : Expr} {es : List Expr} {p : Pos} (h : EV w c e m σ (fun cv m' σ' => ∃ b, cv = .bool b ∧ (match b with | false => Q (.bool false) m' σ' | true => EVb w c p .And (e2 :: es) m' σ' Q X)) X) : EVb w c p .And (e :: e2 :: es) m σ Q X := fun T s W => by
  rw [arm_evalEach_cons, arm_evalEach_cons]
  refine J.bind (h T s W) fun cv m1 σ1 T1 s1 v q1 W1 x1 r1 => ?_
  refine hide fun Ph hPh => ?_
  obtain ⟨b, rfl, q⟩ := q1
  refine hPh ?_
  refine J.standAt (J.bind (J.holding (J.truthy (Q := fun b' m' σ' => b' = b ∧ m' = m1 ∧ σ' = σ1) W1 r1 ⟨rfl, rfl, rfl⟩)) fun b4 m4 σ4 T4 s4 a4 q4 W4 x4 k4 => ?_)
  obtain ⟨rfl, rfl, rfl⟩ := q4
  cases (k4)
  cases b4
  · exact J.pure W4 q (r1.mono x4)
  · have := q T4 s4 W4
    rw [arm_evalEach_cons] at this
    exact this
theorem EVb.or {Q : CV → Lm → CH → Prop} {e e2 : Expr} {es : List Expr} {p : Pos} (h : EV w c e m σ (fun cv m' σ' => ∃ b, cv = .bool b ∧ (match b with | true => Q (.bool true) m' σ' | false => EVb w c p .Or (e2 :: es) m' σ' Q X)) X) : EVb w c p .Or (e :: e2 :: es) m σ Q X := fun T s W => by
  rw [arm_evalEach_cons, arm_evalEach_cons]
  refine J.bind (h T s W) fun cv m1 σ1 T1 s1 v q1 W1 x1 r1 => ?_
  refine hide fun Ph hPh => ?_
  obtain ⟨b, rfl, q⟩ := q1
  refine hPh ?_
  refine J.standAt (J.bind (J.holding (J.truthy (Q := fun b' m' σ' => b' = b ∧ m' = m1 ∧ σ' = σ1) W1 r1 ⟨rfl, rfl, rfl⟩)) fun b4 m4 σ4 T4 s4 a4 q4 W4 x4 k4 => ?_)
  obtain ⟨rfl, rfl, rfl⟩ := q4
  cases (k4)
  cases b4
  · have := q T4 s4 W4
    rw [arm_evalEach_cons] at this
    exact this
  · exact J.pure W4 q (r1.mono x4)
theorem EV.bools {Q : CV → Lm → CH → Prop} {op : BoolOp} {es : List Expr} {p : Pos} (h : EVb w c p op es m σ Q X) : EV w c (.BoolOp op es p) m σ Q X := fun T s W => by
  rw [arm_eval_BoolOp]; exact h T s W
theorem EV.ifexp {Q : CV → Lm → CH → Prop} {t b o : Expr} {p : Pos} (h : TV w c t m σ (fun k m' σ' => match k with | true => EV w c b m' σ' Q X | false => EV w c o m' σ' Q X) X) : EV w c (.IfExp t b o p) m σ Q X := fun T s W => by
  rw [arm_eval_IfExp]
  refine J.bind (h T s W) fun k m1 σ1 T1 s1 a q1 W1 x1 r1 => ?_
  cases (r1)
  cases k
  · exact q1 T1 s1 W1
  · exact q1 T1 s1 W1
end
inductive Fl where
  | next | ret (cv : CV)
noncomputable def FR (T : TM) : Fl → Flow → Prop
  | .next, f => f = .next
  | .ret cv, f => ∃ v, f = .ret v ∧ VR T cv v
noncomputable def XV (w : World) (c : Cx) (st : Stmt) (m : Lm) (σ : CH) (Q : Fl → Lm → CH → Prop) (X : CH → Prop) : Prop := ∀ T s, Wf w c T m σ s → J w c FR (exec st c.env) T s Q X
noncomputable def XVs (w : World) (c : Cx) (sts : List Stmt) (m : Lm) (σ : CH) (Q : Fl → Lm → CH → Prop) (X : CH → Prop) : Prop := ∀ T s, Wf w c T m σ s → J w c FR (execs sts c.env) T s Q X
section
variable {w : World} {c : Cx} {T : TM} {s : Shared} {m : Lm} {σ : CH} {X : CH → Prop} {Q : Fl → Lm → CH → Prop}
theorem XVs.nil (q : Q .next m σ) : XVs w c [] m σ Q X := fun T s W => by
  rw [arm_execs_nil]; exact J.pure W q rfl
theorem XVs.cons {st : Stmt} {sts : List Stmt} (h : XV w c st m σ (fun f m' σ' => match f with | .next => XVs w c sts m' σ' Q X | .ret cv => Q (.ret cv) m' σ') X) : XVs w c (st :: sts) m σ Q X := fun T s W => by
  rw [arm_execs_cons]
  refine J.bind (h T s W) fun f m1 σ1 T1 s1 a q1 W1 x1 r1 => ?_
  induction f with
  | next => cases (r1); exact q1 T1 s1 W1
  | ret cv => obtain ⟨v, rfl, r⟩ := r1; exact J.pure W1 q1 ⟨v, rfl, r⟩
theorem XV.ret {e : Expr} {p : Pos} (h : EV w c e m σ (fun cv m' σ' => Q (.ret cv) m' σ') X) : XV w c (.Return (some e) p) m σ Q X := fun T s W => by
  rw [arm_exec_Return, arm_evalOpt_some]
  refine J.standAt (J.bind (h T s W) fun cv m1 σ1 T1 s1 v q1 W1 x1 r1 => ?_)
  exact J.pure W1 q1 ⟨v, rfl, r1⟩
theorem XV.ite {t : Expr} {b o : List Stmt} {p : Pos} (h : TV w c t m σ (fun k m' σ' => match k with | true => XVs w c b m' σ' Q X | false => XVs w c o m' σ' Q X) X) : XV w c (.If t b o p) m σ Q X := fun T s W => by
  rw [arm_exec_If]
  refine J.standAt (J.bind (h T s W) fun k m1 σ1 T1 s1 a q1 W1 x1 r1 => ?_)
  cases (r1)
  cases k
  · exact q1 T1 s1 W1
  · exact q1 T1 s1 W1
theorem XV.name {e : Expr} {x : Str} {p p' : Pos} (h : EV w c e m σ (fun cv m' σ' => StOk c m' x ∧ Q .next ((x, cv) :: m') σ') X) (hs : swapsWith e (some (.Name x p')) p.line c.env = Pure.pure false) : XV w c (.Assign [.Name x p'] e p) m σ Q X := fun T s W => by
  refine J.eq (exec_Assign_Name c.env x p' e p hs) ?_
  refine J.standAt (J.bind (h T s W) fun cv m1 σ1 T1 s1 v q1 W1 x1 r1 => ?_)
  refine J.standAt ?_
  refine J.bind (J.bindName (Q := fun _ m' σ' => Q .next m' σ') W1 r1 q1.1 q1.2) fun _ m2 σ2 T2 s2 _ q2 W2 x2 _ => ?_
  exact J.pure W2 q2 rfl
theorem XV.expr {e : Expr} {p : Pos} (h : EV w c e m σ (fun _ m' σ' => Q .next m' σ') X) (hi : interactive c.env = false) (hs : swapsWith e none p.line c.env = Pure.pure false) : XV w c (.Expr e p) m σ Q X := fun T s W => by
  refine ⟨fun Qr Er hp hq he => ?_⟩
  refine wpI_Expr_any (hi := hi) (hs := hs) ((h T s W).run _ Er hp (fun cv m' σ' T' s' a q W' x r => ?_) he)
  exact hq _ _ _ _ _ _ q W' x rfl
end
end Mine
end
section
namespace Mine
theorem KR.lookup {T : TM} {es : List (Str × CV)} {kvs : List (Str × Value)} (r : KR T es kvs) {x : Str} {cv : CV} (h : es.lookup x = some cv) : ∃ v, valueAt kvs x = some v ∧ VR T cv v := by
  induction r with
  | nil => injection h
  | @cons y c v es rs hv hr ih =>
    by_cases q : x = y
    · subst q
      rw [lookup_cons_self'] at h; obtain rfl := Option.some.inj h
      exact ⟨v, by simp [valueAt], hv⟩
    · rw [lookup_cons_ne q] at h
      obtain ⟨v', e, r'⟩ := ih h
      refine ⟨v', ?_, r'⟩
      unfold valueAt at e ⊢
      refine rwP List.find?_cons ?_; refine rwP (decide_eq_false (show ¬ y = x from fun z => q z.symm)) ?_
      exact e
inductive itemI (σ : CH) (Q : CV → Prop) : CV → CV → Prop
  | tup {l : List CV} {k : Int} {cv : CV} : 0 ≤ k → k < 2 ^ 63 → l[k.toNat]? = some cv → Q cv → itemI σ Q (.tup l) (.int k)
  | fl {l : List CV} {k : Int} {cv : CV} : 0 ≤ k → k < 2 ^ 63 → l[k.toNat]? = some cv → Q cv → itemI σ Q (.fl l) (.int k)
  | nam {n : Nat} {l : List CV} {k : Int} {cv : CV} : 0 ≤ k → k < 2 ^ 63 → σ n = some (.list l) → l[k.toNat]? = some cv → Q cv → itemI σ Q (.ref n) (.int k)
  | dic {n : Nat} {x : Str} {es : List (Str × CV)} {cv : CV} : σ n = some (.dict es) → es.lookup x = some cv → Q cv → itemI σ Q (.ref n) (.str x)
noncomputable abbrev itemQ (a i : CV) (σ : CH) (Q : CV → Prop) : Prop := itemI σ Q a i
section
variable {w : World} {c : Cx} {T : TM} {s : Shared} {m : Lm} {σ : CH} {X : CH → Prop} {Q : CV → Lm → CH → Prop}
theorem J.itemL {value slice : Expr} {a : Addr} {k : Nat} {i : Int} {t : Tok} {l : List CV} {vs : List Value} {cv : CV} (W : Wf w c T m σ s) (ho : s.heap.get? a = some (lstO vs k)) (hv : VX T l vs) (h0 : 0 ≤ i) (h1 : i < 2 ^ 63) (e : l[i.toNat]? = some cv) (q : Q cv m σ)
    (hs : ∀ o i, subscripted slice false o i = PySem.operate [o, i] (getItem o i)) : J w c VR (subscriptTail value slice (.ref a) (.int i t)) T s Q X := by
  obtain ⟨v, ev, rv⟩ := hv.get e
  refine J.still W q rv fun Qr Er h => ?_
  refine tail_any ⟨_, ho, rfl⟩ F.slot_list_getitem.lookup ?_ (hs _ _)
  exact wpAny_getItem_list ⟨_, ho, rfl, k, rfl⟩ h0 h1 (by simpa using ev) h
theorem J.item {value slice : Expr} {c1 c2 : CV} {o i : Value} (W : Wf w c T m σ s) (r1 : VR T c1 o) (r2 : VR T c2 i) (q : itemQ c1 c2 σ (fun cv => Q cv m σ))
    (hs : ∀ o i, subscripted slice false o i = PySem.operate [o, i] (getItem o i)) : J w c VR (subscriptTail value slice o i) T s Q X := by
  induction q with
  | tup h0 h1 e q =>
    obtain ⟨a, k, vs, rfl, ha, hv⟩ := r1.tup_inv
    obtain ⟨t, rfl⟩ := r2.int_inv
    obtain ⟨v, ev, rv⟩ := hv.get e
    refine J.still W q rv fun Qr Er h => ?_
    refine tail_any ⟨_, W.frz _ _ ha, rfl⟩ F.slot_tuple_getitem.lookup ?_ (hs _ _)
    refine P.getItem_tuple (W.frz _ _ ha) (by lia) h1 (PySem.seqIndex_of h0 ?_) (by simpa using ev) h
    have := (List.getElem?_eq_some_iff.mp ev).1; refine rwP List.size_toArray ?_; lia
  | fl h0 h1 e q =>
    obtain ⟨a, k, vs, rfl, ha, hv⟩ := r1.fl_inv
    obtain ⟨t, rfl⟩ := r2.int_inv
    exact J.itemL W (W.frz _ _ ha) hv h0 h1 e q hs
  | nam h0 h1 en e q =>
    obtain ⟨a, rfl, ha⟩ := r1.ref_inv
    obtain ⟨b, vs, k, hb, ho, hv⟩ := W.own _ _ en
    rw [← W.uniq a b _ ha hb] at ho
    obtain ⟨t, rfl⟩ := r2.int_inv
    exact J.itemL W ho hv h0 h1 e q hs
  | dic en e q =>
    obtain ⟨a, rfl, ha⟩ := r1.ref_inv
    obtain ⟨b, kvs, p, hb, ho, hv⟩ := W.own _ _ en
    rw [← W.uniq a b _ ha hb] at ho
    obtain ⟨t, rfl⟩ := r2.str_inv
    obtain ⟨v, ev, rv⟩ := hv.lookup e
    refine ⟨fun Qr Er hp hq _ => of ?_⟩
    have ho' := DictOf.prog (q := c.prog) ho
    refine tail_any ho'.typeIs F.slot_dict_getitem.lookup ?_ (hs _ _)
    exact wpAny_getItem_of (knd := PySem.strKind c.prog w) (beq_self_eq_true _) ho'.mapOf ev (hq _ _ _ T _ _ q (W.tok _) (.refl T) rv)
theorem EV.sub {value slice : Expr} {p : Pos} (h : EV w c value m σ (fun c1 m1 σ1 => EV w c slice m1 σ1 (fun c2 m2 σ2 => itemQ c1 c2 σ2 (fun cv => Q cv m2 σ2)) X) X)
    (hs : ∀ o i, subscripted slice false o i = PySem.operate [o, i] (getItem o i)) : EV w c (.Subscript value slice p) m σ Q X := fun T s W => by
  rw [arm_eval_Subscript]
  refine J.bind (h T s W) fun c1 m1 σ1 T1 s1 v1 q1 W1 x1 r1 => ?_
  refine J.bind (J.holding (q1 T1 s1 W1)) fun c2 m2 σ2 T2 s2 v2 q2 W2 x2 r2 => ?_
  exact J.standAt (J.item W2 (r1.mono x2) r2 q2 hs)
end
end Mine
end
section
namespace Mine
noncomputable def TM.enter (T : TM) : TM := fun a => match T a with
  | some .loc => some .prot
  | some (.cell _) => some .prot
  | t => t
noncomputable def prIn (pr : Pr) (T : TM) (h : Heap) : Pr := fun a => match T a with
  | some .prot => pr a
  | some .loc => h.get? a
  | some (.cell _) => h.get? a
  | _ => none
theorem enter_frz {T : TM} {a : Addr} {o : Obj} : T.enter a = some (.frz o) ↔ T a = some (.frz o) := by
  unfold TM.enter; split <;> simp_all
theorem enter_nam {T : TM} {a : Addr} {n : Nat} {b : Bool} : T.enter a = some (.nam n b) ↔ T a = some (.nam n b) := by
  unfold TM.enter; split <;> simp_all
theorem enter_loc {T : TM} {a : Addr} : T.enter a ≠ some .loc := by
  unfold TM.enter; split <;> simp_all
theorem enter_cell {T : TM} {a : Addr} {x : Str} : T.enter a ≠ some (.cell x) := by
  unfold TM.enter; split <;> simp_all
theorem enter_none {T : TM} {a : Addr} : T.enter a = none ↔ T a = none := by
  unfold TM.enter; split <;> simp_all
theorem enter_prot {T : TM} {a : Addr} (h : T.enter a = some .prot) : T a = some .prot ∨ T a = some .loc ∨ ∃ x, T a = some (.cell x) := by
  unfold TM.enter at h; split at h <;> simp_all
theorem Ext.enter (T : TM) : Ext T T.enter := ⟨fun _ _ h => enter_frz.mpr h, fun _ _ _ h => enter_nam.mpr h⟩
section
variable {w : World} {c : Cx} {T T2 : TM} {s s' : Shared} {m : Lm} {σ σ' : CH}
theorem Wf.locObj (W : Wf w c T m σ s) : ∃ o, s.heap.get? c.L = some o ∧ ∀ vs, o.data ≠ .fields vs := by
  refine hide fun Ph hPh => ?_
  obtain ⟨mm, ⟨o, es, ep, h, hd, _⟩, _⟩ := W.loc
  refine hPh ?_
  exact ⟨o, h, fun vs q => by rw [hd] at q; injection q⟩
theorem Wf.locD (W : Wf w c T m σ s) : ∃ o, s.heap.get? c.L = some o ∧ isD o = true := by
  refine hide fun Ph hPh => ?_
  obtain ⟨mm, ⟨o, es, ep, h, hd, _⟩, _⟩ := W.loc
  refine hPh ?_
  exact ⟨o, h, by unfold isD; refine rwP hd ?_; rfl⟩
theorem isD_nf {o : Obj} (h : isD o = true) : ∀ vs, o.data ≠ .fields vs := fun vs q => by unfold isD at h; rw [q] at h; injection h
theorem Wf.enter (W : Wf w c T m σ s) (hk : ∀ b o, s.heap.get? b = some o → s'.heap.get? b = some o) (hg : s'.gens = s.gens) (ho : s'.os = s.os) :
    W0 w c.os0 (prIn c.pr T s.heap) T.enter σ s' where
  alive a t h := by
    have : T a ≠ none := fun q => by rw [enter_none.mpr q] at h; injection h
    obtain ⟨t', e⟩ := Option.ne_none_iff_exists'.mp this
    obtain ⟨o, e⟩ := W.alive a t' e
    exact ⟨o, hk _ _ e⟩
  frz a o h := hk _ _ (W.frz a o (enter_frz.mp h))
  uniq a a' n h h' := W.uniq a a' n (enter_nam.mp h) (enter_nam.mp h')
  own n o h := ((W.own n o h).mono (Ext.enter T)).keeps fun a b o _ => hk a o
  nams a n b h := W.nams a n b (enter_nam.mp h)
  top := W.top.mono (Ext.enter T)
  prot a o h := by
    unfold prIn at h
    split at h
    · rename_i e
      obtain ⟨h1, h2, sl, hs, h3⟩ := W.prot a o h
      exact ⟨by unfold TM.enter; refine rwP e ?_; rfl, h2, sl, hs, hk _ _ h3⟩
    · rename_i e
      have := W.onlyL a e; subst this
      obtain ⟨o', h1, h2⟩ := W.locObj
      rw [h] at h1; obtain rfl := Option.some.inj h1
      exact ⟨by unfold TM.enter; refine rwP e ?_; rfl, h2, o.slots, fun _ => rfl, hk _ _ h⟩
    · rename_i x e
      obtain ⟨o', h1, h2⟩ := W.cells a x e
      rw [h] at h1; obtain rfl := Option.some.inj h1
      exact ⟨by unfold TM.enter; refine rwP e ?_; rfl, (fun vs q => by rw [h2] at q; injection q), o.slots, fun _ => rfl, hk _ _ h⟩
    · injection h
  cells a x h := (enter_cell h).elim
  pall a h := by
    unfold prIn
    rcases enter_prot h with q | q | ⟨x, q⟩
    · refine rwP q ?_; exact W.pall a q
    · refine rwP q ?_; obtain ⟨o, e⟩ := W.alive a _ q; exact ⟨o, e⟩
    · refine rwP q ?_; obtain ⟨o, e⟩ := W.alive a _ q; exact ⟨o, e⟩
  gens := hg.trans W.gens
  os := ho.trans W.os
noncomputable def TM.back (T T2 : TM) : TM := fun a => match T a with
  | some .loc => some .loc
  | some (.cell x) => some (.cell x)
  | _ => match T2 a with
    | some .loc => none
    | some (.cell _) => none
    | t => t
theorem back_loc {T T2 : TM} {a : Addr} : T.back T2 a = some .loc ↔ T a = some .loc := by
  unfold TM.back; split <;> (try split) <;> simp_all
theorem back_cell {T T2 : TM} {a : Addr} {x : Str} : T.back T2 a = some (.cell x) ↔ T a = some (.cell x) := by
  unfold TM.back; split <;> (try split) <;> simp_all
theorem back_of {T T2 : TM} {a : Addr} {t : Tag} (h : T.back T2 a = some t) : t = .loc ∨ (∃ x, t = .cell x) ∨ T2 a = some t := by
  unfold TM.back at h; split at h
  · exact .inl (Option.some.inj h).symm
  · exact .inr (.inl ⟨_, (Option.some.inj h).symm⟩)
  · split at h <;> first | injection h; done | exact .inr (.inr h)
theorem back_none {T T2 : TM} {a : Addr} (h : T a = none) (h2 : T2 a = none) : T.back T2 a = none := by
  unfold TM.back; refine rwP h ?_; refine rwP h2 ?_; rfl
theorem Wf.back (W : Wf w c T m σ s) (x : Ext T.enter T2) (W2 : W0 w c.os0 (prIn c.pr T s.heap) T2 σ' s') : Ext T (T.back T2) ∧ Ext T2 (T.back T2) ∧ Wf w c (T.back T2) m σ' s' ∧ ∀ a, T2 a = none → T.back T2 a = none := by
  have hp : ∀ a, (T a = some .loc ∨ ∃ x, T a = some (.cell x)) → ∃ o, s.heap.get? a = some o ∧ T2 a = some .prot ∧ ∃ sl, s'.heap.get? a = some { o with slots := sl } := fun a h => by
    have : ∃ o, prIn c.pr T s.heap a = some o ∧ s.heap.get? a = some o := by
      rcases h with h | ⟨x, h⟩
      · obtain ⟨o, e⟩ := W.alive a _ h; exact ⟨o, by unfold prIn; refine rwP h ?_; exact e, e⟩
      · obtain ⟨o, e⟩ := W.alive a _ h; exact ⟨o, by unfold prIn; refine rwP h ?_; exact e, e⟩
    refine hide fun Ph hPh => ?_
    obtain ⟨o, h1, h2⟩ := this
    obtain ⟨p1, _, sl, _, p2⟩ := W2.prot a o h1
    refine hPh ?_
    exact ⟨o, h2, p1, sl, p2⟩
  have x2 : Ext T2 (T.back T2) := by
    constructor
    · intro a o h
      unfold TM.back; split
      · rename_i e; obtain ⟨_, _, q, _⟩ := hp a (.inl e); rw [h] at q; cases q
      · rename_i e; obtain ⟨_, _, q, _⟩ := hp a (.inr ⟨_, e⟩); rw [h] at q; cases q
      · refine rwP h ?_; rfl
    · intro a n b h
      unfold TM.back; split
      · rename_i e; obtain ⟨_, _, q, _⟩ := hp a (.inl e); rw [h] at q; cases q
      · rename_i e; obtain ⟨_, _, q, _⟩ := hp a (.inr ⟨_, e⟩); rw [h] at q; cases q
      · refine rwP h ?_; rfl
  have x1 : Ext T (T.back T2) := (Ext.enter T).trans (x.trans x2)
  refine ⟨x1, x2, ⟨⟨?_, ?_, ?_, ?_, ?_, W2.top.mono x2, ?_, ?_, ?_, W2.gens, W2.os⟩, W.ok, back_loc.mpr W.locL, ?_, ?_, ?_⟩, fun a h => ?_⟩
  · intro a t h
    rcases back_of h with rfl | ⟨y, rfl⟩ | h
    · obtain ⟨o, _, _, sl, e⟩ := hp a (.inl (back_loc.mp h)); exact ⟨_, e⟩
    · obtain ⟨o, _, _, sl, e⟩ := hp a (.inr ⟨y, back_cell.mp h⟩); exact ⟨_, e⟩
    · exact W2.alive a t h
  · intro a o h
    rcases back_of h with q | ⟨y, q⟩ | h
    · injection q
    · injection q
    · exact W2.frz a o h
  · intro a a' n h h'
    have k : ∀ a, T.back T2 a = some (.nam n true) → T2 a = some (.nam n true) := fun a h => by
      rcases back_of h with q | ⟨y, q⟩ | h
      · injection q
      · injection q
      · exact h
    exact W2.uniq a a' n (k a h) (k a' h')
  · intro n o h; exact (W2.own n o h).mono x2
  · intro a n b h
    rcases back_of h with q | ⟨y, q⟩ | h
    · injection q
    · injection q
    · exact W2.nams a n b h
  · intro a o h
    obtain ⟨h1, h2, _⟩ := W.prot a o h
    obtain ⟨q1, _, q2⟩ := W2.prot a o (by unfold prIn; refine rwP h1 ?_; exact h)
    exact ⟨by unfold TM.back; refine rwP h1 ?_; refine rwP q1 ?_; rfl, h2, q2⟩
  · intro a y h
    obtain ⟨o, h1, h2⟩ := W.cells a y (back_cell.mp h)
    obtain ⟨o', e, _, sl, e'⟩ := hp a (.inr ⟨y, back_cell.mp h⟩)
    rw [h1] at e; obtain rfl := Option.some.inj e
    exact ⟨_, e', h2⟩
  · intro a h
    have h2 : T2 a = some .prot := by
      rcases back_of h with q | ⟨y, q⟩ | h
      · injection q
      · injection q
      · exact h
    obtain ⟨o, e⟩ := W2.pall a h2
    unfold prIn at e
    split at e
    · exact ⟨o, e⟩
    · rename_i q; rw [back_loc.mpr q] at h; cases h
    · rename_i q; rw [back_cell.mpr q] at h; cases h
    · injection e
  · refine hide fun Ph hPh => ?_
    obtain ⟨mm, ⟨o, es, ep, h, r⟩, hb⟩ := W.loc
    obtain ⟨o', e, _, sl, e'⟩ := hp c.L (.inl W.locL)
    refine hPh ?_
    rw [h] at e; obtain rfl := Option.some.inj e
    exact ⟨mm, ⟨_, es, ep, e', r⟩, fun y cv e => (hb y cv e).mono x1 fun a z h => back_cell.mpr h⟩
  · intro a h; exact W.onlyL a (back_loc.mp h)
  · intro a y h; exact W.onlyC a y (back_cell.mp h)
  · unfold TM.back; split
    · rename_i e; obtain ⟨_, _, q, _⟩ := hp a (.inl e); rw [h] at q; injection q
    · rename_i e; obtain ⟨_, _, q, _⟩ := hp a (.inr ⟨_, e⟩); rw [h] at q; injection q
    · refine rwP h ?_; rfl
end
end Mine
end
section
namespace Mine
noncomputable def hidden : Option Tag → Bool
  | some (.frz _) => false
  | some (.nam _ _) => false
  | some (.cell _) => false
  | _ => true
noncomputable def hid (T : TM) (h : Heap) (a : Addr) : Bool := match T a with
  | some .prot => (match h.get? a with
    | some o => isD o
    | none => true)
  | t => hidden t
theorem hid_tag {T : TM} {h : Heap} {a : Addr} (k : hidden (T a) = false) : hid T h a = false := by
  unfold hid
  split
  · rename_i e; rw [e] at k; injection k
  · exact k
theorem hid_true {T : TM} {h : Heap} {a : Addr} (k : hidden (T a) = true) (n : T a ≠ some .prot) : hid T h a = true := by
  unfold hid
  split
  · rename_i e; exact absurd e n
  · exact k
theorem hid_prot {T : TM} {h : Heap} {a : Addr} {o : Obj} (k : T a = some .prot) (e : h.get? a = some o) : hid T h a = isD o := by
  unfold hid; refine rwP k ?_; simp only [e]
noncomputable def grnd (T : TM) (h : Heap) : Heap := hideAll h ((List.range h.objs.size).filter fun a => hid T h a)
theorem grnd_get' {T : TM} {h : Heap} {a : Addr} {o : Obj} (e : h.get? a = some o) (k : hid T h a = false) : (grnd T h).get? a = some o :=
  hideAll_get _ e fun q => by have := (List.mem_filter.mp q).2; rw [k] at this; injection this
theorem grnd_get {T : TM} {h : Heap} {a : Addr} {o : Obj} (e : h.get? a = some o) (k : hidden (T a) = false) : (grnd T h).get? a = some o := grnd_get' e (hid_tag k)
theorem grnd_none {T : TM} {h : Heap} {a : Addr} (k : hid T h a = true) : (grnd T h).get? a = none := by
  cases q : (grnd T h).get? a with
  | none => rfl
  | some o =>
    have e := of_hideAll _ q
    have hm : a ∈ (List.range h.objs.size).filter fun a => hid T h a := List.mem_filter.mpr ⟨List.mem_range.mpr (Heap.lt_size e), k⟩
    have q2 : (hideAll h ((List.range h.objs.size).filter fun a => hid T h a)).get? a = some o := q
    rw [hideAll_none _ hm] at q2; injection q2
theorem grnd_of {T : TM} {h : Heap} {a : Addr} {o : Obj} (e : (grnd T h).get? a = some o) : h.get? a = some o ∧ True := ⟨of_hideAll _ e, trivial⟩
section
variable {w : World} {c : Cx} {T : TM} {s : Shared} {m : Lm} {σ : CH}
theorem Wf.frames (W : Wf w c T m σ s) : s.heap.FunFrames (grnd T s.heap) (c.fenv :: c.outer) := by
  have hd : c.fenv.scope.kind ≠ .module ∧ ∃ L o, c.fenv.frame = some L ∧ (grnd T s.heap).get? L = none ∧ s.heap.get? L = some o ∧ ∀ vs, o.data ≠ .fields vs := by
    cases hc : c.cmp with
    | none =>
      refine rwP (Cx.fenv_none hc) ?_
      obtain ⟨o, h1, h2⟩ := W.locObj
      exact ⟨by show c.sc.kind ≠ .module; refine rwP W.ok.kind ?_; decide, c.L, o, Cx.frame_none hc, grnd_none (hid_true (by refine rwP W.locL ?_; rfl) (by refine rwP W.locL ?_; nofun)), h1, h2⟩
    | some e =>
      have : c.fenv = e := by unfold Cx.fenv; refine rwP hc ?_; rfl
      refine rwP this ?_
      refine hide fun Ph hPh => ?_
      obtain ⟨k, L, o, hf, hp, hd⟩ := W.ok.outc e hc
      obtain ⟨p1, p2, sl, _, p3⟩ := W.prot _ _ hp
      refine hPh ?_
      exact ⟨k, L, _, hf, grnd_none ((hid_prot p1 p3).trans hd), p3, isD_nf hd⟩
  refine ⟨hd.1, hd.2, ?_⟩
  have hout := W.ok.out
  revert hout
  generalize c.outer = l
  induction l with
  | nil => intro _; trivial
  | cons e l ih =>
    intro hout
    obtain ⟨k, L, o, hf, hp, hd⟩ := hout e (.head _)
    obtain ⟨p1, p2, sl, _, p3⟩ := W.prot _ _ hp
    exact ⟨k, ⟨L, _, hf, grnd_none ((hid_prot p1 p3).trans hd), p3, isD_nf hd⟩, ih fun e' he' => hout e' (.tail _ he')⟩
theorem Wf.left (W : Wf w c T m σ s) {h' : Heap} (st : (grnd T s.heap).StaysIn h') (sl : ∀ b o, s.heap.get? b = some o → (∀ vs, o.data ≠ .fields vs) → ∃ sl, h'.get? b = some { o with slots := sl }) : Wf w c T m σ { s with heap := h' } := by
  have kf : ∀ a o, hidden (T a) = false → s.heap.get? a = some o → h'.get? a = some o := fun a o k e => st a o (grnd_get e k)
  refine ⟨⟨?_, ?_, W.uniq, ?_, W.nams, W.top, ?_, ?_, W.pall, W.gens, W.os⟩, W.ok, W.locL, ?_, W.onlyL, W.onlyC⟩
  · intro a t h
    obtain ⟨o, e⟩ := W.alive a t h
    induction t with
    | loc =>
      have := W.onlyL a h; subst this
      obtain ⟨o, h1, h2⟩ := W.locObj
      obtain ⟨x, hx⟩ := sl _ _ h1 h2; exact ⟨_, hx⟩
    | prot =>
      obtain ⟨o', q⟩ := W.pall a h
      obtain ⟨_, h2, sx, _, h3⟩ := W.prot a o' q
      obtain ⟨x, hx⟩ := sl _ _ h3 h2; exact ⟨_, hx⟩
    | _ => exact ⟨o, kf a o (by refine rwP h ?_; rfl) e⟩
  · intro a o h; exact kf a o (by refine rwP h ?_; rfl) (W.frz a o h)
  · intro n o h; exact (W.own n o h).keeps fun a b o h => kf a o (by refine rwP h ?_; rfl)
  · intro a o h
    obtain ⟨h1, h2, sx, hs, h3⟩ := W.prot a o h
    cases hD : isD o with
    | true =>
      obtain ⟨y, hy⟩ := sl _ _ h3 h2
      exact ⟨h1, h2, y, (fun q => by injection q), hy⟩
    | false => exact ⟨h1, h2, sx, (fun _ => hs hD), st a _ (grnd_get' h3 ((hid_prot h1 h3).trans hD))⟩
  · intro a x h
    obtain ⟨o, h1, h2⟩ := W.cells a x h
    exact ⟨o, kf a o (by refine rwP h ?_; rfl) h1, h2⟩
  · refine hide fun Ph hPh => ?_
    obtain ⟨mm, ⟨o, es, ep, h, hd, r⟩, hb⟩ := W.loc
    obtain ⟨y, hy⟩ := sl _ _ h (fun vs q => by rw [hd] at q; injection q)
    refine hPh ?_
    exact ⟨mm, ⟨_, es, ep, hy, hd, r⟩, hb⟩
end
end Mine
end
section
namespace Mine
section
variable {w : World} {c : Cx} {T : TM} {s : Shared} {m : Lm} {σ : CH}
theorem Wf.recNone (W : Wf w c T m σ s) {a : Addr} {o : Obj} {vs : Array Value} (e : s.heap.get? a = some o) (d : o.data = .fields vs) (k : hidden (T a) = true) : T a = none := by
  cases q : T a with
  | none => rfl
  | some t =>
    induction t with
    | loc =>
      have := W.onlyL a q; subst this
      obtain ⟨o', h1, h2⟩ := W.locObj
      rw [e] at h1; obtain rfl := Option.some.inj h1; exact absurd d (h2 vs)
    | prot =>
      obtain ⟨o', h⟩ := W.pall a q
      obtain ⟨_, h2, sl, _, h3⟩ := W.prot a o' h
      rw [e] at h3; obtain rfl := Option.some.inj h3; exact absurd d (h2 vs)
    | _ => rw [q] at k; injection k
theorem Wf.tracedAt (W : Wf w c T m σ s) {h' : Heap} {a : Addr} (W' : Wf w c T m σ { s with heap := h' }) (ha : T a = none) (tr : h'.Traced (grnd T s.heap) a (.ref 63)) : ExcAt T h' none (.ref a) := by
  refine hide fun Ph hPh => ?_
  obtain ⟨oe, vs, tb, ot, ts, he, hc, hd, h1, hn, hne, hT, hdT, h3⟩ := tr
  refine hPh ?_
  refine ⟨a, oe, vs, rfl, ha, he, hc, hd, .inr ⟨tb, ot, ts, .none, h1, ?_, hne, hT, hdT, h3, .inl rfl⟩⟩
  refine W'.recNone hT hdT ?_
  cases q : hidden (T tb) with
  | true => rfl
  | false =>
    cases z : T tb with
    | none => rw [z] at q; injection q
    | some t =>
      obtain ⟨o, ho⟩ := W.alive tb t z
      rw [grnd_get ho q] at hn; injection hn
theorem Wf.leave {M : Model} {E : Value → Shared → Prop} {Q : Unit → Shared → Prop} {e : Value} (W : Wf w c T m σ s) (hcm : c.cmp = none) (x : ExcAt T s.heap (some c.L) e) (h : ∀ h', Wf w c T m σ { s with heap := h' } → ExcAt T h' none e → Q () { s with heap := h' }) : wpAny M c.A (leaving c.env e) Q E s := by
  have hfr := W.ok.frames
  have hff := W.frames
  rw [Cx.fenv_none hcm] at hfr hff
  have hf := Cx.frame_none hcm
  generalize c.env = env at hf hfr hff ⊢
  refine hide fun Ph hPh => ?_
  obtain ⟨a, oe, vs, rfl, ha, he, hc, hd, x⟩ := x
  refine hPh ?_
  have kb : (grnd T s.heap).StaysIn s.heap := fun b o q => (grnd_of q).1
  have hen : (grnd T s.heap).get? a = none := grnd_none (hid_true (by refine rwP ha ?_; rfl) (by refine rwP ha ?_; nofun))
  rcases x with h1 | ⟨tb, ot, ts, fl, h1, ht, hne, hT, hdT, h3, rfl | ⟨b, e1, rfl⟩⟩
  · refine wpAny_leaving_first (base := grnd T s.heap) hfr hff hf he kb hen hd h1 fun h' ⟨x1, x2, x3, x4⟩ => ?_
    have W' := W.left x1 x4
    exact h h' W' (W.tracedAt W' ha (hc ▸ x3))
  · refine wpAny_leaving_next (base := grnd T s.heap) (cls := .ref 63) hfr hff hf ⟨oe, vs, tb, ot, ts, he, hc, hd, h1, grnd_none (hid_true (by refine rwP ht ?_; rfl) (by refine rwP ht ?_; nofun)), hne, hT, hdT, h3⟩ kb hen fun h' ⟨x1, x2, x3, x4⟩ => ?_
    have W' := W.left x1 x4
    exact h h' W' (W.tracedAt W' ha x3)
  · obtain rfl := Option.some.inj e1
    unfold leaving noteFrame
    simp only [hf]
    refine wpAny_bind (wpAny_bind (wpAny_field he hd h1 ?_))
    refine rwP (if_pos (show (Value.ref tb != Value.none) = true from by simp)) ?_
    refine wpAny_bind (wpAny_field hT hdT h3 ?_)
    refine rwP (if_pos (show (rawInt c.L == rawInt c.L) = true from beq_self_eq_true _)) ?_
    refine wpAny_pure ?_
    refine wpAny_bind (wpAny_field he hd h1 ?_)
    refine rwP (if_pos (show (Value.ref tb != Value.none) = true from by simp)) ?_
    refine wpAny_setField hT hdT (Array.getElem?_eq_some_iff.mp h3).1 ?_
    have oth : ∀ b, b ≠ tb → (s.heap.update tb (Obj.mapFields (·.setIfInBounds 3 Value.none))).get? b = s.heap.get? b := fun b hb => Heap.get?_update_other _ _ (Ne.symm hb)
    have W' : Wf w c T m σ { s with heap := s.heap.update tb (Obj.mapFields (·.setIfInBounds 3 Value.none)) } := W.stepK (fun b o hb e => (oth b (fun z => hb (z ▸ ht))).trans e) rfl rfl
    refine h _ W' ⟨a, oe, vs, rfl, ha, (oth a (Ne.symm hne)).trans he, hc, hd, .inr ⟨tb, _, ts.setIfInBounds 3 .none, .none, h1, ht, hne, Heap.get?_update_self _ hT (Obj.isFreed_of_fields (Obj.data_mapFields hdT _)), Obj.data_mapFields hdT _, ?_, .inl rfl⟩⟩
    have hz := (Array.getElem?_eq_some_iff.mp h3).1
    simp [hz]
end
structure JC (w : World) (c : Cx) (f : Value) (vs : List Value) (T : TM) (s : Shared) (Q : CV → Lm → CH → Prop) (X : CH → Prop) : Prop where
  run : ∀ (Qr : Value → Shared → Prop) (Er : Value → Shared → Prop),
    (∀ b m' σ' T' s' a, Q b m' σ' → Wf w c T' m' σ' s' → Ext T T' → VR T' b a → Qr a s') →
    (∀ m' σ' T' s' e, X σ' → Wf w c T' m' σ' s' → Ext T T' → ExcAt T' s'.heap (some c.L) e → Er e s') →
    codeI (model c.prog w) c.A (.call f ⟨vs, []⟩) (fun r s' => match r with | .ok (.ret v) => Qr v s' | .ok _ => False | .error e => Er e s') s
theorem JC.call {w : World} {c : Cx} {f : Value} {vs : List Value} {T : TM} {s : Shared} {Q : CV → Lm → CH → Prop} {X : CH → Prop} (h : JC w c f vs T s Q X) : J w c VR (PySem.call f vs []) T s Q X :=
  ⟨fun Qr Er hp hq he => wpI_call (h.run Qr Er hq he)⟩
noncomputable def CallOk (w : World) (h : Nat) (f : Value) (cs : List CV) (σ : CH) (Q : CV → CH → Prop) (X : CH → Prop) : Prop :=
  ∀ (c : Cx) (T : TM) (m : Lm) (s : Shared) (vs : List Value), c.lv + h ≤ 30 → Wf w c T m σ s → VX T cs vs → JC w c f vs T s (fun cv m' σ' => m' = m ∧ Q cv σ') X
noncomputable def retOf : Fl → CV
  | .next => .none
  | .ret v => v
noncomputable def flowV : Flow → Value
  | .ret v => v
  | _ => .none
theorem FR.ret {T : TM} {f : Fl} {a : Flow} (r : FR T f a) : VR T (retOf f) (flowV a) := by
  induction f with
  | next => subst r; exact VR.none
  | ret cv => obtain ⟨v, rfl, r⟩ := r; exact r
noncomputable def inCx (c : Cx) (T : TM) (s : Shared) (fd : FuncData) (f : Addr) (cl : List (Str × Addr)) : Cx :=
  { prog := c.prog, A := c.A.deeper (envX fd.qualname fd.scope s.heap.objs.size f fd.code cl), nm := fd.qualname, sc := fd.scope, L := s.heap.objs.size, fa := f, cd := fd.code, cl := cl, outer := c.fenv :: c.outer, pr := prIn c.pr T s.heap, os0 := c.os0, lv := c.lv + 1 }
theorem units_deeper (A : Around) (env : Env) : (A.deeper env).units ≤ A.units + 10 := by
  unfold Around.deeper; simp only []; lia
theorem Wf.inOk {w : World} {c : Cx} {T : TM} {s : Shared} {m : Lm} {σ : CH} (W : Wf w c T m σ s) (fd : FuncData) (f : Addr) (cl : List (Str × Addr)) (hk : fd.scope.kind = .function) (hl : c.lv + 1 ≤ 30) : CxOk (inCx c T s fd f cl) where
  frames := Around.frames_deeper W.ok.frames
  out e he := by
    rcases List.mem_cons.mp he with rfl | he
    · cases hc : c.cmp with
      | none =>
        refine rwP (Cx.fenv_none hc) ?_
        obtain ⟨o, h1, h2⟩ := W.locD
        exact ⟨by show c.sc.kind ≠ .module; refine rwP W.ok.kind ?_; decide, c.L, o, Cx.frame_none hc, by show prIn c.pr T s.heap c.L = some o; unfold prIn; refine rwP W.locL ?_; exact h1, h2⟩
      | some e =>
        have : c.fenv = e := by unfold Cx.fenv; refine rwP hc ?_; rfl
        refine rwP this ?_
        refine hide fun Ph hPh => ?_
        obtain ⟨k, L, o, hf, hp, hd⟩ := W.ok.outc e hc
        refine hPh ?_
        exact ⟨k, L, o, hf, by show prIn c.pr T s.heap L = some o; unfold prIn; refine rwP ((W.prot _ _ hp).1) ?_; exact hp, hd⟩
    · refine hide fun Ph hPh => ?_
      obtain ⟨k, L, o, hf, hp, hd⟩ := W.ok.out e he
      refine hPh ?_
      exact ⟨k, L, o, hf, by show prIn c.pr T s.heap L = some o; unfold prIn; refine rwP ((W.prot _ _ hp).1) ?_; exact hp, hd⟩
  outc e he := by injection he
  guards := by show (c.A.deeper _).guards = some []; unfold Around.deeper; exact W.ok.guards
  handled := by show (c.A.deeper _).handled = none; unfold Around.deeper; exact W.ok.handled
  kind := hk
  units := by have := units_deeper c.A (envX fd.qualname fd.scope s.heap.objs.size f fd.code cl); have := W.ok.units; show (c.A.deeper _).units ≤ 100 + 100 * (c.lv + 1); lia
  depth := by have := W.ok.depth; show (c.A.deeper _).depth ≤ 310 + 10 * (c.lv + 1); unfold Around.deeper; simp only []; lia
  lvl := hl
end Mine
end
section
namespace Mine
section
variable {w : World} {c : Cx} {T : TM} {s : Shared} {m : Lm} {σ : CH} {X : CH → Prop} {Q : CV → CH → Prop}
theorem ExcAt.up {T : TM} {T' : TM} {h : Heap} {L : Option Addr} {e : Value} (x : ExcAt T h Option.none e) (hT : ∀ a, T a = none → T' a = none) : ExcAt T' h L e := by
  obtain ⟨a, oe, vs, rfl, ha, he, hc, hd, x⟩ := x
  refine ⟨a, oe, vs, rfl, hT _ ha, he, hc, hd, ?_⟩
  rcases x with h1 | ⟨tb, ot, ts, fl, h1, ht, hne, hT', hdT, h3, q | ⟨b, e1, _⟩⟩
  · exact .inl h1
  · exact .inr ⟨tb, ot, ts, fl, h1, hT _ ht, hne, hT', hdT, h3, .inl q⟩
  · injection e1
theorem Wf.into (W : Wf w c T m σ s) {s1 : Shared} (fd : FuncData) (f : Addr) (cl : List (Str × Addr)) {mm : Str → Option Value} {T1 : TM} {m0 : Lm} (hk : fd.scope.kind = .function) (hl : c.lv + 1 ≤ 30)
    (hkeep : ∀ b o, s.heap.get? b = some o → s1.heap.get? b = some o) (hg : s1.gens = s.gens) (ho : s1.os = s.os) (hns : s1.heap.Ns s.heap.objs.size mm)
    (hx : ∀ a t, T.enter a = some t → T1 a = some t) (hL : T1 s.heap.objs.size = some .loc)
    (hnew : ∀ a t, T1 a = some t → T.enter a = some t ∨ ∃ o, s1.heap.get? a = some o ∧ ((t = .loc ∧ a = s.heap.objs.size) ∨ (∃ x, t = .cell x ∧ o.data = .cell none ∧ cl.lookup x = some a) ∨ t = .frz o))
    (hm : ∀ x cv, m0.lookup x = some cv → Bd T1 (inCx c T s fd f cl) mm x cv) : Wf w (inCx c T s fd f cl) T1 m0 σ s1 where
  toW0 := (W.enter hkeep hg ho).more hx fun a t h => (hnew a t h).elim .inl fun ⟨o, h1, h2⟩ => .inr ⟨o, h1, h2.elim (fun h => .inl h.1) fun h => .inr (h.elim (fun ⟨x, h, d, _⟩ => .inl ⟨x, h, d⟩) .inr)⟩
  ok := W.inOk fd f cl hk hl
  locL := hL
  loc := ⟨mm, hns, hm⟩
  onlyL a h := by
    rcases hnew a _ h with q | ⟨o, _, q | ⟨x, q, _⟩ | q⟩
    · exact (enter_loc q).elim
    · exact q.2
    · injection q
    · injection q
  onlyC a x h := by
    rcases hnew a _ h with q | ⟨o, _, q | ⟨x', q, _, q2⟩ | q⟩
    · exact (enter_cell q).elim
    · cases q.1
    · (injection q with q; subst q); exact q2
    · injection q
theorem J.outOf {Qr : Value → Shared → Prop} {Er : Value → Shared → Prop} (W : Wf w c T m σ s) {s1 : Shared} {fd : FuncData} {f : Addr} {cl : List (Str × Addr)} {T1 : TM} {body : List Stmt}
    (x1 : Ext T.enter T1)
    (hq : ∀ b m' σ' T' s' a, m' = m ∧ Q b σ' → Wf w c T' m' σ' s' → Ext T T' → VR T' b a → Qr a s')
    (he : ∀ m' σ' T' s' e, X σ' → Wf w c T' m' σ' s' → Ext T T' → ExcAt T' s'.heap (some c.L) e → Er e s')
    (hb : J w (inCx c T s fd f cl) FR (execs body (inCx c T s fd f cl).env) T1 s1 (fun fl _ σ' => Q (retOf fl) σ') X) :
    wpI (model c.prog w) (inCx c T s fd f cl).A (execs body (inCx c T s fd f cl).env) (fun fl s' => Qr (flowV fl) s')
      (fun e s' => PySem.wpAny (model c.prog w) (inCx c T s fd f cl).A (leaving (inCx c T s fd f cl).env e) (fun _ s'' => Er e s'') (fun e' s'' => Er e' s'') s') s1 := by
  refine hb.run _ _ .leaving (fun fl m2 σ2 T2 s2 a q W2 x2 r => ?_) fun m2 σ2 T2 s2 e q W2 x2 ex => ?_
  · refine hide fun Ph hPh => ?_
    obtain ⟨y1, y2, Wb, _⟩ := W.back (x1.trans x2) W2.toW0
    refine hPh ?_
    exact hq _ _ _ _ _ _ ⟨rfl, q⟩ Wb y1 (r.ret.mono y2)
  · refine W2.leave rfl ex fun h' W3 ex3 => ?_
    obtain ⟨y1, y2, Wb, hn⟩ := W.back (x1.trans x2) W3.toW0
    exact he m σ2 _ _ e q Wb y1 (ex3.up hn)
theorem J.callDef {f : Addr} {o : Obj} {fd : FuncData} {body : List Stmt} {vs : List Value} {binds : List (Str × Value)} {m0 : Lm} (W : Wf w c T m σ s) (hl : c.lv + 1 ≤ 30)
    (ho : s.heap.get? f = some o) (hd : o.data = .func fd) (hg : fd.globals = mainGlobals) (hbi : fd.builtins = builtinsNs) (hb : fd.body = .stmts body) (hcr : s.heap.CodeRec fd.code fd.qualname)
    (hbind : BindsTo s fd ⟨vs, []⟩ binds) (hcell : ∀ x ∈ fd.scope.names, x.2 ≠ .cell) (hloc : ∀ x ∈ binds, fd.scope.names.lookup x.1 = some .local)
    (hm : ∀ T', Ext T T' → ∀ x cv, m0.lookup x = some cv → Bd T' (inCx c T s fd f fd.closure) (fun x => binds.reverse.lookup x) x cv)
    (hbody : XVs w (inCx c T s fd f fd.closure) body m0 σ (fun fl _ σ' => Q (retOf fl) σ') X)
    (hk : fd.scope.kind = .function) (hco : fd.scope.isCoroutine = false) (hgen : fd.scope.isGenerator = false) :
    JC w c (.ref f) vs T s (fun cv m' σ' => m' = m ∧ Q cv σ') X := by
  refine ⟨fun Qr Er hq he => ?_⟩
  obtain ⟨p, lo, mg, mb, TT, XX⟩ := Topped.ns W.toW0
  have henv : callEnv fd s.heap.objs.size f = (inCx c T s fd f fd.closure).env := by unfold callEnv newEnv inCx; simp only []; refine rwP hg ?_; refine rwP hbi ?_; rfl
  refine codeI_call_function (by have := W.ok.depth; have := W.ok.lvl; have : recursionLimit = 1000 := rfl; lia) ho hd hco hgen hb hcr (of (hbind _ _ _ _ ?_))
  refine of (wpAny_newFunctionEnv hcell hloc (fun h₀ hns hsb₀ => ⟨TT.nolimit.fresh _ hsb₀, codeI_func ?_⟩) hk)
  have hkk : ∀ b o, s.heap.get? b = some o → h₀.get? b = some o := fun b o e => hsb₀.extBut b o (Nat.ne_of_lt (Heap.lt_size e)) (Heap.get?_push_of_some _ e)
  show wpI _ (c.A.deeper (callEnv fd s.heap.objs.size f)) (execs body (callEnv fd s.heap.objs.size f)) _ (fun e s' => PySem.wpAny _ (c.A.deeper (callEnv fd s.heap.objs.size f)) (leaving (callEnv fd s.heap.objs.size f) e) _ _ s') _
  refine rwP henv ?_
  have hfr : T.enter s.heap.objs.size = none := enter_none.mpr W.fresh
  obtain ⟨oL, hoL⟩ : ∃ oL, h₀.get? s.heap.objs.size = some oL := by obtain ⟨o, _, _, h, _⟩ := hns; exact ⟨o, h⟩
  have W1 : Wf w (inCx c T s fd f fd.closure) (T.enter.put s.heap.objs.size .loc) m0 σ { s with heap := h₀, toks := s.toks + binds.length } := by
    refine W.into fd f fd.closure hk hl hkk rfl rfl hns (fun a t h => (TM.put_ne _ _ (by rintro rfl; rw [hfr] at h; injection h)).trans h) (TM.put_self ..) (fun a t h => ?_) (hm _ ((Ext.enter T).trans (Ext.put hfr)))
    by_cases q : a = s.heap.objs.size
    · subst q; rw [TM.put_self] at h; obtain rfl := Option.some.inj h; exact .inr ⟨oL, hoL, .inl ⟨rfl, rfl⟩⟩
    · rw [TM.put_ne _ _ q] at h; exact .inl h
  refine wpI_mono (J.outOf (s1 := { s with heap := h₀, toks := s.toks + binds.length }) W (Ext.put hfr) hq he (hbody _ _ W1)) (fun fl s' h => ?_) fun e s' h => h
  cases fl <;> exact h
end
end Mine
end
section
namespace Mine
section
variable {w : World} {c : Cx} {T : TM} {s : Shared} {m : Lm} {σ : CH} {X : CH → Prop} {Q : CV → CH → Prop}
noncomputable def cellTags (T : TM) (L : Addr) (cl : List (Str × Addr)) (cm : Str → Option Value) (h : Heap) : TM := fun a =>
  if a = L then some .loc else match cl.find? (fun p => p.2 == a) with
    | some p => (match cm p.1 with
        | none => some (.cell p.1)
        | some _ => (h.get? a).map .frz)
    | none => T a
theorem find_cell {cl : List (Str × Addr)} {a : Addr} {x : Str} (hap : cl.Pairwise fun x y => x.2 ≠ y.2) (h : (x, a) ∈ cl) : cl.find? (fun p => p.2 == a) = some (x, a) := by
  cases q : cl.find? (fun p => p.2 == a) with
  | none =>
    have := List.find?_eq_none.mp q (x, a) h
    simp at this
  | some p =>
    have h1 := List.mem_of_find?_eq_some q
    have h2 := List.find?_some q
    obtain ⟨y, b⟩ := p
    have h2 : b = a := by simpa using h2
    subst h2
    have := name_of_addr hap h h1
    subst this; rfl
theorem J.callCells {f : Addr} {o : Obj} {fd : FuncData} {body : List Stmt} {vs : List Value} {binds : List (Str × Value)} {m0 : Lm} (W : Wf w c T m σ s) (hl : c.lv + 1 ≤ 30)
    (ho : s.heap.get? f = some o) (hd : o.data = .func fd) (hg : fd.globals = mainGlobals) (hbi : fd.builtins = builtinsNs) (hcl : fd.closure = []) (hb : fd.body = .stmts body) (hcr : s.heap.CodeRec fd.code fd.qualname)
    (hbind : BindsTo s fd ⟨vs, []⟩ binds)
    (hkind : ∀ n, ∀ x ∈ binds, fd.scope.names.lookup x.1 = some .local ∨ (fd.scope.names.lookup x.1 = some .cell ∧ ((cellsFrom n fd.scope.names []).lookup x.1).isSome = true))
    (hnd : ((cellsFrom 0 fd.scope.names []).map (·.1)).Nodup)
    (hm : ∀ T', Ext T T' → ∀ x cv, m0.lookup x = some cv → (fd.scope.names.lookup x = some .local ∧ ∃ v, bindL (fun x => fd.scope.names.lookup x) binds (fun _ => Option.none) x = some v ∧ VR T' cv v) ∨
      (fd.scope.names.lookup x = some .cell ∧ (∀ n, ((cellsFrom n fd.scope.names []).lookup x).isSome = true) ∧ ((∃ v, bindC (fun x => fd.scope.names.lookup x) binds (fun _ => Option.none) x = some v ∧ VR T' cv v) ∨ (bindC (fun x => fd.scope.names.lookup x) binds (fun _ => Option.none) x = Option.none ∧ cv = .unb))))
    (hbody : XVs w (inCx c T s fd f (cellsFrom (s.heap.objs.size + 1) fd.scope.names [])) body m0 σ (fun fl _ σ' => Q (retOf fl) σ') X)
    (hk : fd.scope.kind = .function) (hco : fd.scope.isCoroutine = false) (hgen : fd.scope.isGenerator = false) :
    JC w c (.ref f) vs T s (fun cv m' σ' => m' = m ∧ Q cv σ') X := by
  refine ⟨fun Qr Er hq he => ?_⟩
  obtain ⟨p, lo, mg, mb, TT, XX⟩ := Topped.ns W.toW0
  refine (codeI_call_function (by have := W.ok.depth; have := W.ok.lvl; have : recursionLimit = 1000 := rfl; lia) ho hd hco hgen hb hcr (of (hbind _ _ _ _ ?_)))
  refine rwP hcl ?_
  refine of (wpAny_newFunctionEnv_cells hk (hkind _) fun env henv s1 x => ?_)
  have henv2 : env = (inCx c T s fd f (cellsFrom (s.heap.objs.size + 1) fd.scope.names [])).env := by refine rwP henv ?_; unfold newEnv inCx; simp only []; refine rwP hg ?_; refine rwP hbi ?_; rfl
  subst henv2
  refine ⟨TT.nolimit.keeps x.toInCall.keep, codeI_func ?_⟩
  obtain ⟨h₁, tk, rfl, _⟩ := x.done
  generalize hcs : cellsFrom (s.heap.objs.size + 1) fd.scope.names [] = cl at *
  have hnd' : (cl.map (·.1)).Nodup := by refine rwB hcs ?_; exact cellsFrom_names fd.scope.names 0 (s.heap.objs.size + 1) [] [] rfl ▸ hnd
  have hcell : ∀ n a, (n, a) ∈ cl → h₁.IsCell a (bindC (fun x => fd.scope.names.lookup x) binds (fun _ => Option.none) n) := fun n a hm => x.cell n a (lookup_of_mem_nodup hnd' hm)
  have habove : ∀ n a, (n, a) ∈ cl → s.heap.objs.size < a := fun n a hm => x.above n a hm
  have hap : cl.Pairwise fun x y => x.2 ≠ y.2 := x.apart
  have hfr : ∀ a, s.heap.objs.size ≤ a → T.enter a = none := fun a ha => enter_none.mpr (W.toW0.fresh' (Heap.get?_none_of_le ha))
  obtain ⟨oL, hoL⟩ : ∃ oL, h₁.get? s.heap.objs.size = some oL := by obtain ⟨o, _, _, h, _⟩ := x.toInCall.ns; exact ⟨o, h⟩
  generalize hcm : bindC (fun x => fd.scope.names.lookup x) binds (fun _ => Option.none) = cm at *
  have hold : ∀ a t, T.enter a = some t → a ≠ s.heap.objs.size ∧ cl.find? (fun p => p.2 == a) = none := fun a t h => by
    refine ⟨(by rintro rfl; rw [hfr _ (Nat.le_refl _)] at h; injection h), List.find?_eq_none.mpr fun p hp q => ?_⟩
    have q : p.2 = a := by simpa using q
    have := habove p.1 p.2 hp
    rw [q] at this
    rw [hfr a (Nat.le_of_lt this)] at h; injection h
  have hsub : ∀ a t, T.enter a = some t → cellTags T.enter s.heap.objs.size cl cm h₁ a = some t := fun a t h => by
    obtain ⟨h1, h2⟩ := hold a t h
    unfold cellTags; refine rwP (if_neg h1) ?_; refine rwP h2 ?_; exact h
  have xe : Ext T (cellTags T.enter s.heap.objs.size cl cm h₁) := (Ext.enter T).trans ⟨fun a o h => hsub a _ h, fun a n b h => hsub a _ h⟩
  have W1 : Wf w (inCx c T s fd f cl) (cellTags T.enter s.heap.objs.size cl cm h₁) m0 σ { s with heap := h₁, toks := tk } := by
    refine W.into fd f cl hk hl x.toInCall.keep rfl rfl x.toInCall.ns hsub (by unfold cellTags; refine rwP (if_pos rfl) ?_; rfl) (fun a t h => ?_) (fun y cv e => ?_)
    · unfold cellTags at h
      by_cases q : a = s.heap.objs.size
      · subst q; rw [if_pos rfl] at h; obtain rfl := Option.some.inj h; exact .inr ⟨oL, hoL, .inl ⟨rfl, rfl⟩⟩
      · rw [if_neg q] at h
        split at h
        · rename_i p hp
          have h1 := List.mem_of_find?_eq_some hp
          have h2 : p.2 = a := by simpa using List.find?_some hp
          subst h2
          obtain ⟨oc, g1, g2⟩ := hcell p.1 p.2 h1
          split at h
          · rename_i hn
            obtain rfl := Option.some.inj h
            exact .inr ⟨oc, g1, .inr (.inl ⟨_, rfl, by refine rwP g2 ?_; refine rwP hn ?_; rfl, lookup_of_mem_nodup hnd' h1⟩)⟩
          · refine rwP (show ({ s with heap := h₁, toks := tk } : Shared).heap.get? p.2 = h₁.get? p.2 from rfl) ?_
            rw [g1] at h; obtain rfl := Option.some.inj h
            exact .inr ⟨oc, g1, .inr (.inr rfl)⟩
        · exact .inl h
    · rcases hm _ xe y cv e with ⟨k, v, e1, r⟩ | ⟨k, hs, h2⟩
      · exact .inl ⟨k, v, e1, r⟩
      · have hs := hs (s.heap.objs.size + 1)
        rw [hcs] at hs
        obtain ⟨a, ha⟩ := Option.isSome_iff_exists.mp hs
        have hmem := PySem.mem_of_lookup ha
        obtain ⟨oc, g1, g2⟩ := hcell y a hmem
        have hne : a ≠ s.heap.objs.size := Nat.ne_of_gt (habove y a hmem)
        have hf := find_cell hap hmem
        rcases h2 with ⟨v, e1, r⟩ | ⟨e1, r⟩
        · refine .inr (.inl ⟨.inl k, a, ha, oc, v, ?_, by refine rwP g2 ?_; refine rwP e1 ?_; rfl, r⟩)
          unfold cellTags; refine rwP (if_neg hne) ?_; refine rwP hf ?_; simp only [e1]; refine rwP g1 ?_; rfl
        · refine .inr (.inr ⟨k, r, a, ha, ?_⟩)
          unfold cellTags; refine rwP (if_neg hne) ?_; refine rwP hf ?_; simp only [e1]
  refine wpI_mono (J.outOf (s1 := { s with heap := h₁, toks := tk }) W ⟨fun a o h => hsub a _ h, fun a n b h => hsub a _ h⟩ hq he (hbody _ _ W1)) (fun fl s' h => ?_) fun e s' h => h
  cases fl <;> exact h
end
end Mine
end
section
namespace Mine
theorem CellsAt.get {T : TM} {cl : List (Str × Addr)} {xs : List Str} {vs : List Value} (h : CellsAt T cl xs vs) : ∀ {l : List CV}, VX T l vs → ∀ {x : Str} {cv : CV}, (xs.zip l).lookup x = some cv → ∃ a, cl.lookup x = some a ∧ ∃ o v, T a = some (.frz o) ∧ o.data = .cell (some v) ∧ VR T cv v := by
  induction h with
  | nil => intro l r x cv e; simp at e
  | @cons y a o v cl xs vs h1 h2 h3 ih =>
    intro l r x cv e
    cases l with
    | nil => cases r
    | cons c l =>
      obtain ⟨v', vs', e1, hv, hr⟩ := VX.cons_inv (l := l) r
      cases (e1)
      rw [List.zip_cons_cons] at e
      by_cases q : x = y
      · subst q
        rw [lookup_cons_self'] at e; obtain rfl := Option.some.inj e
        exact ⟨a, by refine rwP List.lookup_cons ?_; rw [beq_self_eq_true], o, v, h1, h2, hv⟩
      · rw [lookup_cons_ne q] at e
        obtain ⟨a', h⟩ := ih hr e
        exact ⟨a', by refine rwP List.lookup_cons ?_; refine rwP (beq_false_of_ne q) ?_; exact h.1, h.2⟩
section
variable {w : World} {c : Cx} {T : TM} {s : Shared} {m : Lm} {σ : CH} {X : CH → Prop} {Q : CV → CH → Prop}
theorem J.outOfE {Qr : Value → Shared → Prop} {Er : Value → Shared → Prop} (W : Wf w c T m σ s) {s1 : Shared} {fd : FuncData} {f : Addr} {cl : List (Str × Addr)} {T1 : TM} {body : Expr}
    (x1 : Ext T.enter T1)
    (hq : ∀ b m' σ' T' s' a, m' = m ∧ Q b σ' → Wf w c T' m' σ' s' → Ext T T' → VR T' b a → Qr a s')
    (he : ∀ m' σ' T' s' e, X σ' → Wf w c T' m' σ' s' → Ext T T' → ExcAt T' s'.heap (some c.L) e → Er e s')
    (hb : J w (inCx c T s fd f cl) VR (eval body (inCx c T s fd f cl).env) T1 s1 (fun cv _ σ' => Q cv σ') X) :
    wpI (model c.prog w) (inCx c T s fd f cl).A (eval body (inCx c T s fd f cl).env) (fun v s' => Qr v s')
      (fun e s' => wpAny (model c.prog w) (inCx c T s fd f cl).A (leaving (inCx c T s fd f cl).env e) (fun _ s'' => Er e s'') (fun e' s'' => Er e' s'') s') s1 := by
  refine hb.run _ _ .leaving (fun fl m2 σ2 T2 s2 a q W2 x2 r => ?_) fun m2 σ2 T2 s2 e q W2 x2 ex => ?_
  · refine hide fun Ph hPh => ?_
    obtain ⟨y1, y2, Wb, _⟩ := W.back (x1.trans x2) W2.toW0
    refine hPh ?_
    exact hq _ _ _ _ _ _ ⟨rfl, q⟩ Wb y1 (r.mono y2)
  · refine W2.leave rfl ex fun h' W3 ex3 => ?_
    obtain ⟨y1, y2, Wb, hn⟩ := W.back (x1.trans x2) W3.toW0
    exact he m σ2 _ _ e q Wb y1 (ex3.up hn)
theorem J.callLam {d : FnD} {caps : List CV} {v : Value} {body : Expr} (W : Wf w c T m σ s) (hl : c.lv + 1 ≤ 30) (r : VR T (.fn d caps) v) (hb : d.body = .expr body)
    (hbind : ∀ clos pm doc ct c', bindArgs (fnObj d clos pm doc ct c') ⟨[], []⟩ = Pure.pure []) (hcell : ∀ x ∈ d.scope.names, x.2 ≠ .cell)
    (hfree : ∀ x ∈ d.caps, d.scope.names.lookup x = some .free ∧ (x == ("__classdict__" : Str)) = false)
    (hbody : ∀ c', c'.lv = c.lv + 1 → c'.sc = d.scope → EV w c' body (d.caps.zip caps) σ (fun cv _ σ' => Q cv σ') X)
    (hk : d.scope.kind = .function) (hco : d.scope.isCoroutine = false) (hgen : d.scope.isGenerator = false) :
    J w c VR (PySem.call v [] []) T s (fun cv m' σ' => m' = m ∧ Q cv σ') X := by
  obtain ⟨f, c', oc, fs, tq, clos, pm, doc, ct, vs, rfl, hf, hc, hfs, hq1, hcl, hv⟩ := r.fn_inv
  refine ⟨fun Qr Er hp hq he => ?_⟩
  obtain ⟨p, lo, mg, mb, TT, XX⟩ := Topped.ns W.toW0
  have hcr : s.heap.CodeRec (.ref c') d.qual := ⟨c', oc, fs, tq, rfl, W.frz _ _ hc, hfs, hq1⟩
  generalize hfd : fnObj d clos pm doc ct c' = fd at *
  have e1 : fd.scope = d.scope := by refine rwB hfd ?_; rfl
  have e2 : fd.qualname = d.qual := by refine rwB hfd ?_; rfl
  have e3 : fd.code = .ref c' := by refine rwB hfd ?_; rfl
  have e4 : fd.closure = clos := by refine rwB hfd ?_; rfl
  have e5 : fd.globals = mainGlobals := by refine rwB hfd ?_; rfl
  have e6 : fd.builtins = builtinsNs := by refine rwB hfd ?_; rfl
  have e7 : fd.body = .expr body := by refine rwB hfd ?_; exact hb
  refine wpI_call (codeI_callE (body := body) (by have := W.ok.depth; have := W.ok.lvl; have : recursionLimit = 1000 := rfl; lia) (W.frz _ _ hf) rfl (e1 ▸ hco) (e1 ▸ hgen) e7 (by refine rwP e3 ?_; refine rwP e2 ?_; exact hcr) ?_)
  refine rwB hfd ?_; rewrite [hbind]; refine rwP hfd ?_
  refine wpI_pure (of (wpAny_newFunctionEnv (e1 ▸ hcell) nofun (fun h₁ hns hsb => ⟨TT.nolimit.fresh _ hsb, ?_⟩) (e1 ▸ hk)))
  have hkk : ∀ b o, s.heap.get? b = some o → h₁.get? b = some o := fun b o e => hsb.extBut b o (Nat.ne_of_lt (Heap.lt_size e)) (Heap.get?_push_of_some _ e)
  have henv : newEnv fd.scope s.heap.objs.size fd.globals fd.closure (fd.qualname ++ ".<locals>.") (some f) fd.code Option.none fd.builtins = (inCx c T s fd f fd.closure).env := by unfold newEnv inCx; simp only []; refine rwP e5 ?_; refine rwP e6 ?_; rfl
  refine rwP henv ?_
  refine codeI_expr ?_
  have hfr : T.enter s.heap.objs.size = none := enter_none.mpr W.fresh
  obtain ⟨oL, hoL⟩ : ∃ oL, h₁.get? s.heap.objs.size = some oL := by obtain ⟨o, _, _, h, _⟩ := hns; exact ⟨o, h⟩
  have xe : Ext T (T.enter.put s.heap.objs.size .loc) := (Ext.enter T).trans (Ext.put hfr)
  have W1 : Wf w (inCx c T s fd f fd.closure) (T.enter.put s.heap.objs.size .loc) (d.caps.zip caps) σ { s with heap := h₁, toks := s.toks + ([] : List (Str × Value)).length } := by
    refine W.into fd f fd.closure (e1 ▸ hk) hl hkk rfl rfl hns (fun a t h => (TM.put_ne _ _ (by rintro rfl; rw [hfr] at h; injection h)).trans h) (TM.put_self ..) (fun a t h => ?_) (fun x cv e => ?_)
    · by_cases q : a = s.heap.objs.size
      · subst q; rw [TM.put_self] at h; obtain rfl := Option.some.inj h; exact .inr ⟨oL, hoL, .inl ⟨rfl, rfl⟩⟩
      · rw [TM.put_ne _ _ q] at h; exact .inl h
    · refine hide fun Ph hPh => ?_
      obtain ⟨a, g1, o, v, g2, g3, g4⟩ := (hcl.mono xe).get (hv.mono xe) e
      refine hPh ?_
      have hm : x ∈ d.caps := by
        have := PySem.mem_of_lookup e
        exact (List.of_mem_zip this).1
      obtain ⟨k1, k2⟩ := hfree x hm
      refine .inr (.inl ⟨.inr ⟨?_, k2⟩, a, ?_, o, v, g2, g3, g4⟩)
      · show fd.scope.names.lookup x = some .free
        refine rwP e1 ?_; exact k1
      · show fd.closure.lookup x = some a
        refine rwP e4 ?_; exact g1
  exact J.outOfE (s1 := { s with heap := h₁, toks := s.toks + ([] : List (Str × Value)).length }) W (Ext.put hfr) hq he ((hbody (inCx c T s fd f fd.closure) rfl e1) _ _ W1)
theorem J.callIn {d : FnD} {caps cs : List CV} {v : Value} {vs : List Value} {names : List Str} {body : List Stmt} (W : Wf w c T m σ s) (hl : c.lv + 1 ≤ 30) (r : VR T (.fn d caps) v) (ra : VX T cs vs) (hb : d.body = .stmts body)
    (hbind : ∀ clos pm doc ct c', bindArgs (fnObj d clos pm doc ct c') ⟨vs, []⟩ = Pure.pure (names.zip vs)) (hcell : ∀ x ∈ d.scope.names, x.2 ≠ .cell)
    (hfree : ∀ x ∈ d.caps, d.scope.names.lookup x = some .free ∧ (x == ("__classdict__" : Str)) = false)
    (hloc : ∀ x ∈ names, d.scope.names.lookup x = some .local) (hlen : names.length = 1)
    (hbody : ∀ c', c'.lv = c.lv + 1 → c'.sc = d.scope → XVs w c' body (names.zip cs ++ d.caps.zip caps) σ (fun fl _ σ' => Q (retOf fl) σ') X)
    (hk : d.scope.kind = .function) (hco : d.scope.isCoroutine = false) (hgen : d.scope.isGenerator = false) :
    J w c VR (PySem.call v vs []) T s (fun cv m' σ' => m' = m ∧ Q cv σ') X := by
  obtain ⟨f, c', oc, fs, tq, clos, pm, doc, ct, vals, rfl, hf, hc, hfs, hq1, hcl, hv⟩ := r.fn_inv
  have hcr : s.heap.CodeRec (.ref c') d.qual := ⟨c', oc, fs, tq, rfl, W.frz _ _ hc, hfs, hq1⟩
  refine JC.call ?_
  refine J.callDef (fd := fnObj d clos pm doc ct c') (body := body) (m0 := names.zip cs ++ d.caps.zip caps) W hl (W.frz _ _ hf) rfl rfl rfl hb hcr (.of_eq (hbind _ _ _ _ _)) hcell (fun x hx => hloc _ (List.of_mem_zip (a := x.1) (b := x.2) hx).1) (fun T' xe x cv e => ?_) (hbody _ rfl rfl) hk hco hgen
  match names, hlen with
  | [y], _ =>
    cases cs with
    | nil =>
      cases ra.nil_inv
      refine hide fun Ph hPh => ?_
      obtain ⟨a, g1, o, v, g2, g3, g4⟩ := (hcl.mono xe).get (hv.mono xe) (by simpa using e)
      obtain ⟨k1, k2⟩ := hfree x (List.of_mem_zip (PySem.mem_of_lookup (by simpa using e : (d.caps.zip caps).lookup x = some cv))).1
      refine hPh ?_
      exact .inr (.inl ⟨.inr ⟨k1, k2⟩, a, g1, o, v, g2, g3, g4⟩)
    | cons c0 cs =>
      obtain ⟨v0, vs', rfl, hv0, hr⟩ := ra.cons_inv
      simp only [List.zip_cons_cons, List.zip_nil_left, List.cons_append, List.nil_append] at e ⊢
      by_cases q : x = y
      · subst q
        rw [lookup_cons_self'] at e; obtain rfl := Option.some.inj e
        exact .inl ⟨hloc _ (.head _), v0, by simp, hv0.mono xe⟩
      · rw [lookup_cons_ne q] at e
        refine hide fun Ph hPh => ?_
        obtain ⟨a, g1, o, v, g2, g3, g4⟩ := (hcl.mono xe).get (hv.mono xe) e
        obtain ⟨k1, k2⟩ := hfree x (List.of_mem_zip (PySem.mem_of_lookup e)).1
        refine hPh ?_
        exact .inr (.inl ⟨.inr ⟨k1, k2⟩, a, g1, o, v, g2, g3, g4⟩)
end
end Mine
end
section
namespace Mine
theorem KF_eq (w : World) : KF w = kk.heap_1 w.params := by unfold KF; rfl
theorem zip_get {T : TM} : ∀ {names : List Str} {cs : List CV} {vs : List Value}, VX T cs vs → ∀ {x : Str} {cv : CV}, (names.zip cs).lookup x = some cv → ∃ v, (names.zip vs).lookup x = some v ∧ VR T cv v
  | [], _, _, _, _, _, e => by simp at e
  | _ :: _, [], _, _, _, _, e => by simp at e
  | y :: names, c :: cs, vs, r, x, cv, e => by
    obtain ⟨v, vs', rfl, hv, hr⟩ := VX.cons_inv (l := cs) r
    rw [List.zip_cons_cons] at e ⊢
    by_cases q : x = y
    · subst q
      rw [lookup_cons_self'] at e; obtain rfl := Option.some.inj e
      exact ⟨v, by refine rwP List.lookup_cons ?_; rw [beq_self_eq_true], hv⟩
    · rw [lookup_cons_ne q] at e
      obtain ⟨v', e', hv'⟩ := zip_get hr e
      exact ⟨v', by refine rwP List.lookup_cons ?_; refine rwP (beq_false_of_ne q) ?_; exact e', hv'⟩
theorem lookup_rev : ∀ {names : List Str} {vs : List Value} {x : Str} {v : Value}, names.Nodup → (names.zip vs).lookup x = some v → (names.zip vs).reverse.lookup x = some v
  | [], _, _, _, _, e => by simp at e
  | _ :: _, [], _, _, _, e => by simp at e
  | y :: names, u :: vs, x, v, hn, e => by
    rw [List.nodup_cons] at hn
    rw [List.zip_cons_cons] at e ⊢
    refine rwP List.reverse_cons ?_; refine rwP List.lookup_append ?_
    by_cases q : x = y
    · subst q
      rw [List.lookup_cons, beq_self_eq_true] at e
      have : (names.zip vs).reverse.lookup x = none := by
        cases z : (names.zip vs).reverse.lookup x with
        | none => rfl
        | some u' => exact absurd (List.of_mem_zip (List.mem_reverse.mp (PySem.mem_of_lookup z))).1 hn.1
      refine rwP this ?_; refine rwP List.lookup_cons ?_; rw [beq_self_eq_true]
      simpa using e
    · rw [List.lookup_cons, beq_false_of_ne q] at e
      refine rwP (lookup_rev hn.2 e) ?_; rfl
section
variable {w : World} {h : Nat} {f : Addr} {cs cs' : List CV} {σ : CH} {X : CH → Prop} {Q : CV → CH → Prop} {names : List Str}
  {name qual : Str} {params : Arguments} {body : List Stmt} {scope : Scope} {dV kV doc pm cdv ct oc : Value} {an od : Option Addr} {osl : Array (Option Value)}
theorem CallOk.top' (ho : (kk.heap_1 w.params).lookup f = some ⟨oc, od, .func (fnOf name qual params body scope dV kV doc pm an cdv ct), osl⟩) (hcd : codeIn (kk.heap_1 w.params) cdv qual = true)
    (hbind : ∀ T s vs, (kk.heap_1 w.params).In s.heap → VX T cs vs → ∃ vs', VX T cs' vs' ∧ BindsTo s (fnOf name qual params body scope dV kV doc pm an cdv ct) ⟨vs, []⟩ (names.zip vs'))
    (hcell : ∀ x ∈ scope.names, x.2 ≠ .cell) (hloc : ∀ x ∈ names, scope.names.lookup x = some .local) (hnd : names.Nodup)
    (hbody : ∀ c', c'.lv + h ≤ 30 → c'.sc = scope ∧ c'.nm = qual ∧ c'.cd = cdv ∧ c'.cmp = none → XVs w c' body (names.zip cs') σ (fun fl _ σ' => Q (retOf fl) σ') X)
    (hk : scope.kind = .function) (hco : scope.isCoroutine = false) (hgen : scope.isGenerator = false) : CallOk w (h + 1) (.ref f) cs σ Q X := by
  intro c T m s vs hl W ra
  obtain ⟨p, lo, mg, mb, TT, XX⟩ := Topped.ns W.toW0
  rw [KF_eq] at XX
  obtain ⟨vs', ra', hb⟩ := hbind T s vs XX ra
  refine J.callDef (fd := fnOf name qual params body scope dV kV doc pm an cdv ct) (m0 := names.zip cs') W (by lia) (XX _ _ ho) rfl rfl rfl rfl (codeRec_of XX hcd) hb hcell (fun x hx => hloc _ (List.of_mem_zip (a := x.1) (b := x.2) hx).1) (fun T' xe x cv e => ?_) (hbody _ (by show c.lv + 1 + h ≤ 30; lia) ⟨rfl, rfl, rfl, rfl⟩) hk hco hgen
  obtain ⟨v, e', r⟩ := zip_get (ra'.mono xe) e
  exact .inl ⟨hloc _ (List.of_mem_zip (PySem.mem_of_lookup e)).1, v, lookup_rev hnd e', r⟩
theorem CallOk.top (ho : (kk.heap_1 w.params).lookup f = some ⟨oc, od, .func (fnOf name qual params body scope dV kV doc pm an cdv ct), osl⟩) (hcd : codeIn (kk.heap_1 w.params) cdv qual = true)
    (hbind : ∀ vs, vs.length = names.length → bindArgs (fnOf name qual params body scope dV kV doc pm an cdv ct) ⟨vs, []⟩ = Pure.pure (names.zip vs)) (hlen : cs.length = names.length)
    (hcell : ∀ x ∈ scope.names, x.2 ≠ .cell) (hloc : ∀ x ∈ names, scope.names.lookup x = some .local) (hnd : names.Nodup)
    (hbody : ∀ c', c'.lv + h ≤ 30 → c'.sc = scope ∧ c'.nm = qual ∧ c'.cd = cdv ∧ c'.cmp = none → XVs w c' body (names.zip cs) σ (fun fl _ σ' => Q (retOf fl) σ') X)
    (hk : scope.kind = .function) (hco : scope.isCoroutine = false) (hgen : scope.isGenerator = false) : CallOk w (h + 1) (.ref f) cs σ Q X :=
  CallOk.top' ho hcd (fun T s vs _ ra => ⟨vs, ra, .of_eq (hbind vs (ra.length.trans hlen))⟩) hcell hloc hnd hbody hk hco hgen
theorem CallOk.topC {cn un : List Str} (ho : (kk.heap_1 w.params).lookup f = some ⟨oc, od, .func (fnOf name qual params body scope dV kV doc pm an cdv ct), osl⟩) (hcd : codeIn (kk.heap_1 w.params) cdv qual = true)
    (hbind : ∀ vs, vs.length = names.length → bindArgs (fnOf name qual params body scope dV kV doc pm an cdv ct) ⟨vs, []⟩ = Pure.pure (names.zip vs)) (hlen : cs.length = names.length)
    (hkind : ∀ n, ∀ x ∈ names, scope.names.lookup x = some .local ∨ (scope.names.lookup x = some .cell ∧ ((cellsFrom n scope.names []).lookup x).isSome = true))
    (hun : ∀ n, ∀ x ∈ un, x ∉ names ∧ scope.names.lookup x = some .cell ∧ ((cellsFrom n scope.names []).lookup x).isSome = true)
    (hnc : ((cellsFrom 0 scope.names []).map (·.1)).Nodup) (hnd : names.Nodup)
    (hbody : ∀ c', c'.lv + h ≤ 30 → c'.sc = scope ∧ c'.nm = qual ∧ c'.cd = cdv ∧ c'.cmp = none → XVs w c' body (names.zip cs ++ un.map fun x => (x, CV.unb)) σ (fun fl _ σ' => Q (retOf fl) σ') X)
    (hk : scope.kind = .function) (hco : scope.isCoroutine = false) (hgen : scope.isGenerator = false) : CallOk w (h + 1) (.ref f) cs σ Q X := by
  intro c T m s vs hl W ra
  obtain ⟨p, lo, mg, mb, TT, XX⟩ := Topped.ns W.toW0
  rw [KF_eq] at XX
  have bL : ∀ {l : List (Str × Value)} {m : Str → Option Value} {x : Str}, scope.names.lookup x = some .local → x ∉ l.map (·.1) → bindL (fun x => scope.names.lookup x) l m x = m x := by
    intro l
    induction l with
    | nil => intros; rfl
    | cons p l ih =>
      intro m x k hx
      obtain ⟨y, u⟩ := p
      rw [List.map_cons, List.mem_cons, not_or] at hx
      refine rwP (ih k hx.2) ?_
      split
      · exact if_neg hx.1
      · rfl
  have bL2 : ∀ {l : List (Str × Value)} {m : Str → Option Value} {x : Str} {v : Value}, (l.map (·.1)).Nodup → scope.names.lookup x = some .local → (x, v) ∈ l → bindL (fun x => scope.names.lookup x) l m x = some v := by
    intro l
    induction l with
    | nil => intro _ _ _ _ _ h; cases h
    | cons p l ih =>
      intro m x v hnd k hx
      obtain ⟨y, u⟩ := p
      rw [List.map_cons, List.nodup_cons] at hnd
      rcases List.mem_cons.mp hx with q | q
      · cases (q); refine rwP (bL k hnd.1) ?_; refine rwP (if_pos k) ?_; exact if_pos rfl
      · exact ih hnd.2 k q
  have bC : ∀ {l : List (Str × Value)} {m : Str → Option Value} {x : Str}, x ∉ l.map (·.1) → bindC (fun x => scope.names.lookup x) l m x = m x := by
    intro l
    induction l with
    | nil => intros; rfl
    | cons p l ih =>
      intro m x hx
      obtain ⟨y, u⟩ := p
      rw [List.map_cons, List.mem_cons, not_or] at hx
      refine rwP (ih hx.2) ?_
      split
      · rfl
      · exact if_neg hx.1
  have bC2 : ∀ {l : List (Str × Value)} {m : Str → Option Value} {x : Str} {v : Value}, (l.map (·.1)).Nodup → scope.names.lookup x = some .cell → (x, v) ∈ l → bindC (fun x => scope.names.lookup x) l m x = some v := by
    intro l
    induction l with
    | nil => intro _ _ _ _ _ h; cases h
    | cons p l ih =>
      intro m x v hnd k hx
      obtain ⟨y, u⟩ := p
      rw [List.map_cons, List.nodup_cons] at hnd
      unfold bindC
      rcases List.mem_cons.mp hx with q | q
      · cases (q); refine rwP (bC hnd.1) ?_; refine rwP (if_neg (by refine rwP k ?_; decide)) ?_; exact if_pos rfl
      · exact ih hnd.2 k q
  have hmap : (names.zip vs).map (·.1) = names := by
    have : vs.length = names.length := ra.length.trans hlen
    exact List.map_fst_zip (by lia)
  refine J.callCells (fd := fnOf name qual params body scope dV kV doc pm an cdv ct) (m0 := names.zip cs ++ un.map fun x => (x, CV.unb)) W (by lia) (XX _ _ ho) rfl rfl rfl rfl rfl (codeRec_of XX hcd) (.of_eq (hbind vs (ra.length.trans hlen))) (fun n x hx => hkind n _ (List.of_mem_zip (a := x.1) (b := x.2) hx).1) hnc (fun T' xe x cv e => ?_) (hbody _ (by show c.lv + 1 + h ≤ 30; lia) ⟨rfl, rfl, rfl, rfl⟩) hk hco hgen
  by_cases hx : x ∈ names
  · have e1 : (names.zip cs).lookup x = some cv := by
      rw [List.lookup_append] at e
      cases q : (names.zip cs).lookup x with
      | none =>
        rw [q] at e
        have e : (un.map fun x => (x, CV.unb)).lookup x = some cv := by simpa using e
        have := PySem.mem_of_lookup e
        refine hide fun Ph hPh => ?_
        obtain ⟨y, hy, he⟩ := List.mem_map.mp this
        refine hPh ?_
        (injection he with he; subst he)
        exact absurd hx (hun 0 _ hy).1
      | some v => rw [q] at e; simpa using e
    obtain ⟨v, e', r⟩ := zip_get (ra.mono xe) e1
    have hm := PySem.mem_of_lookup e'
    have nd : ((names.zip vs).map (·.1)).Nodup := by refine rwP hmap ?_; exact hnd
    rcases hkind 0 x hx with k | ⟨k, _⟩
    · exact .inl ⟨k, v, bL2 nd k hm, r⟩
    · refine .inr ⟨k, fun n => (hkind n x hx).elim (fun q => by rw [k] at q; cases q) fun q => q.2, .inl ⟨v, bC2 nd k hm, r⟩⟩
  · have e2 : x ∈ un ∧ cv = .unb := by
      rw [List.lookup_append] at e
      cases q : (names.zip cs).lookup x with
      | some v => exact absurd (List.of_mem_zip (PySem.mem_of_lookup q)).1 hx
      | none =>
        rw [q] at e
        have e : (un.map fun x => (x, CV.unb)).lookup x = some cv := by simpa using e
        obtain ⟨y, hy, he⟩ := List.mem_map.mp (PySem.mem_of_lookup e)
        cases (he); exact ⟨hy, rfl⟩
    obtain ⟨h1, rfl⟩ := e2
    exact .inr ⟨(hun 0 x h1).2.1, fun n => (hun n x h1).2.2, .inr ⟨bC (by refine rwP hmap ?_; exact hx), rfl⟩⟩
end
end Mine
end
section
namespace Mine
noncomputable def KeepsF (M : Model) (h : Heap) (f : Value) : Prop := ∃ k, (k = Keeper.frame ∨ k = Keeper.machine ∨ k = Keeper.boundFrame) ∧ Looks M h (keeperOf f) k
theorem KeepsF.builtin {M : Model} {h : Heap} {id : String} : KeepsF M h (.builtin id) := ⟨.machine, .inr (.inl rfl), .now⟩
theorem KeepsF.type {M : Model} {h : Heap} {id : String} : KeepsF M h (.type id) := ⟨.machine, .inr (.inl rfl), .now⟩
theorem KeepsF.func {M : Model} {h : Heap} {f : Addr} {o : Obj} {fd : FuncData} (ho : h.get? f = some o) (hd : o.data = .func fd) : KeepsF M h (.ref f) := by
  refine ⟨.frame, .inl rfl, ?_⟩
  refine (Looks.ld (part := none) ho).andThen ?_
  simp only [hd]
  exact .now
noncomputable def CallV (w : World) (c : Cx) (f : CV) (l : List CV) (m : Lm) (σ : CH) (Q : CV → Lm → CH → Prop) (X : CH → Prop) : Prop :=
  ∀ T s fv vs, Wf w c T m σ s → VR T f fv → VX T l vs → KeepsF (model c.prog w) s.heap fv ∧ J w c VR (PySem.call fv vs []) T s Q X
section
variable {w : World} {c : Cx} {m : Lm} {σ : CH} {X : CH → Prop} {Q : CV → Lm → CH → Prop}
theorem CallV.ok {h : Nat} {f : Value} {l : List CV} (hk : keepIn (kk.heap_1 w.params) f = true) (hl : c.lv + h ≤ 30) (hc : CallOk w h f l σ (fun cv σ' => Q cv m σ') X) : CallV w c (.top f) l m σ Q X := fun T s fv vs W rf ra => by
  obtain ⟨p, lo, mg, mb, TT, XX⟩ := Topped.ns W.toW0
  rw [KF_eq] at XX
  refine rwP rf.top_inv ?_
  exact ⟨keeps_K hk _ XX, (hc c T m s vs hl W ra).call.mono (fun b m' σ' q => by obtain ⟨rfl, q⟩ := q; exact q) fun _ h => h⟩
theorem CallV.lam {d : FnD} {caps : List CV} {body : Expr} (hl : c.lv + 1 ≤ 30) (hb : d.body = .expr body)
    (hbind : ∀ clos pm doc ct c', bindArgs (fnObj d clos pm doc ct c') ⟨[], []⟩ = Pure.pure []) (hcell : ∀ x ∈ d.scope.names, x.2 ≠ .cell)
    (hfree : ∀ x ∈ d.caps, d.scope.names.lookup x = some .free ∧ (x == ("__classdict__" : Str)) = false)
    (hbody : ∀ c', c'.lv = c.lv + 1 → c'.sc = d.scope → EV w c' body (d.caps.zip caps) σ (fun cv _ σ' => Q cv m σ') X)
    (hk : d.scope.kind = .function) (hco : d.scope.isCoroutine = false) (hgen : d.scope.isGenerator = false) : CallV w c (.fn d caps) [] m σ Q X := fun T s fv vs W rf ra => by
  cases ra.nil_inv
  refine ⟨?_, (J.callLam (Q := fun cv σ' => Q cv m σ') W hl rf hb hbind hcell hfree hbody hk hco hgen).mono (fun b m' σ' q => by obtain ⟨rfl, q⟩ := q; exact q) fun _ h => h⟩
  obtain ⟨f, c', oc, fs, tq, clos, pm, doc, ct, vs, rfl, hf, _⟩ := rf.fn_inv
  exact .func (W.frz _ _ hf) rfl
theorem CallV.defIn {d : FnD} {caps cs : List CV} {y : Str} {cv0 : CV} {body : List Stmt} (hl : c.lv + 1 ≤ 30) (hb : d.body = .stmts body)
    (hbind : ∀ clos pm doc ct c' v, bindArgs (fnObj d clos pm doc ct c') ⟨[v], []⟩ = Pure.pure [(y, v)]) (hcell : ∀ x ∈ d.scope.names, x.2 ≠ .cell)
    (hfree : ∀ x ∈ d.caps, d.scope.names.lookup x = some .free ∧ (x == ("__classdict__" : Str)) = false) (hloc : d.scope.names.lookup y = some .local)
    (hbody : ∀ c', c'.lv = c.lv + 1 → c'.sc = d.scope → XVs w c' body ((y, cv0) :: d.caps.zip caps) σ (fun fl _ σ' => Q (retOf fl) m σ') X)
    (hk : d.scope.kind = .function) (hco : d.scope.isCoroutine = false) (hgen : d.scope.isGenerator = false) : CallV w c (.fn d caps) [cv0] m σ Q X := fun T s fv vs W rf ra => by
  obtain ⟨v, vs', rfl, hv, hr⟩ := ra.cons_inv
  cases hr.nil_inv
  refine ⟨?_, (J.callIn (Q := fun cv σ' => Q cv m σ') (names := [y]) W hl rf ra hb (fun clos pm doc ct c' => hbind _ _ _ _ _ v) hcell hfree (fun x hx => by cases List.mem_singleton.mp hx; exact hloc) rfl hbody hk hco hgen).mono (fun b m' σ' q => by obtain ⟨rfl, q⟩ := q; exact q) fun _ h => h⟩
  obtain ⟨f, c', oc, fs, tq, clos, pm, doc, ct, vs, rfl, hf, _⟩ := rf.fn_inv
  exact .func (W.frz _ _ hf) rfl
theorem CallV.prim {f : Value} {l : List CV} (hk : ∀ M h, KeepsF M h f) (h : ∀ T s vs, Wf w c T m σ s → VX T l vs → J w c VR (PySem.call f vs []) T s Q X) : CallV w c (.top f) l m σ Q X := fun T s fv vs W rf ra => by
  refine rwP rf.top_inv ?_; exact ⟨hk _ _, h T s vs W ra⟩
theorem J.callWith {pos : Pos} {f : CV} {fv : Value} {first : List Value} {l0 : List CV} {args : List Expr} {T : TM} {s : Shared} (W : Wf w c T m σ s) (rf : VR T f fv) (r0 : VX T l0 first)
    (h : EVs w c pos args m σ (fun l m2 σ2 => CallV w c f (l0 ++ l) m2 σ2 Q X) X) (hplain : ((backTo pos (starEach args c.env)).any (·.1)) = false) : J w c VR (PySem.callWith pos fv first (backTo pos (starEach args c.env)) []) T s Q X := by
  refine ⟨fun Qr Er hp hq he => ?_⟩
  refine callWith_of (P := fun h => KeepsF (model c.prog w) h fv) (by refine rwP hplain ?_; rfl) (fun h k => k) (evalArgs_plain0 hplain ?_)
  refine (h T s W).run _ Er hp (fun l m2 σ2 T2 s2 vs q W2 x2 r2 => ?_) he
  obtain ⟨k, j⟩ := q T2 s2 fv (first ++ vs) W2 (rf.mono x2) ((r0.mono x2).append r2)
  exact ⟨k, j.run Qr Er hp (fun b m3 σ3 T3 s3 a q3 W3 x3 r3 => hq b m3 σ3 T3 s3 a q3 W3 (x2.trans x3) r3) fun m3 σ3 T3 s3 e q3 W3 x3 r3 => he m3 σ3 T3 s3 e q3 W3 (x2.trans x3) r3⟩
theorem EV.call {id : Str} {p pos : Pos} {args : List Expr} (h : EV w c (.Name id p) m σ (fun f m1 σ1 => EVs w c pos args m1 σ1 (fun l m2 σ2 => CallV w c f l m2 σ2 Q X) X) X)
    (hplain : ((backTo pos (starEach args c.env)).any (·.1)) = false) : EV w c (.Call (.Name id p) args [] pos) m σ Q X := fun T s W => by
  rw [arm_eval_Call_Name']
  refine J.bind (h T s W) fun f m1 σ1 T1 s1 fv q1 W1 x1 r1 => ?_
  exact J.callWith (l0 := []) W1 r1 .nil q1 hplain
noncomputable def MethV (w : World) (c : Cx) (o : CV) (name : Str) (m : Lm) (σ : CH) (Q : CV → List CV → Prop) : Prop :=
  ∀ T s ov (pl : Sem Bool), Wf w c T m σ s → VR T o ov → ∃ f l fv vs, Q f l ∧ VR T f fv ∧ VX T l vs ∧ ∀ (Qr : Value × List Value → Shared → Prop) (Er : Value → Shared → Prop), (∀ t, Qr (fv, vs) { s with toks := t }) → wpAny (model c.prog w) c.A (getMethod ov name pl) Qr Er s
theorem EV.meth {o : Expr} {name : Str} {apos pos : Pos} {args : List Expr} {pl : Sem Bool}
    (h : EV w c o m σ (fun ov m1 σ1 => MethV w c ov name m1 σ1 fun f l0 => EVs w c pos args m1 σ1 (fun l m2 σ2 => CallV w c f (l0 ++ l) m2 σ2 Q X) X) X)
    (he : eval (.Call (.Attribute o name apos) args [] pos) c.env = (do
      let ov ← eval o c.env
      standAt apos.atName
      let (f, first) ← PySem.holding [ov] (getMethod ov name pl)
      PySem.callWith pos f first (backTo pos (starEach args c.env)) (backToKw pos (keywordEach [] c.env))))
    (hplain : ((backTo pos (starEach args c.env)).any (·.1)) = false) : EV w c (.Call (.Attribute o name apos) args [] pos) m σ Q X := fun T s W => by
  refine rwP he ?_
  refine J.bind (h T s W) fun ov m1 σ1 T1 s1 v q1 W1 x1 r1 => ?_
  refine J.standAt ?_
  refine hide fun Ph hPh => ?_
  obtain ⟨f, l0, fv, vs, q, rf, r0, hg⟩ := q1 T1 s1 v pl W1 r1
  refine hPh ?_
  refine J.bind (R := fun _ (b : Unit) (a : Value × List Value) => a = (fv, vs)) (Q1 := fun _ m' σ' => m' = m1 ∧ σ' = σ1) (J.holding ⟨fun Qr Er _ hq _ => of (hg Qr Er fun t => hq () m1 σ1 T1 _ (fv, vs) ⟨rfl, rfl⟩ (W1.tok t) (.refl _) rfl)⟩) fun b m2 σ2 T2 s2 a q2 W2 x2 r2 => ?_
  obtain ⟨rfl, rfl⟩ := q2
  subst r2
  exact J.callWith W2 (rf.mono x2) (r0.mono x2) q hplain
end
end Mine
end
section
namespace Mine
section
variable {w : World} {c : Cx} {T : TM} {s : Shared} {m : Lm} {σ : CH} {X : CH → Prop}
theorem Wf.write (W : Wf w c T m σ s) {n : Nat} {o : CObj} {h' : Heap} {tk : Nat} {d : Addr} {od : Obj} (hd : ∃ b, T d = some (.nam n b)) (hk : ∀ a ob, a ≠ d → s.heap.get? a = some ob → h'.get? a = some ob) (hod : h'.get? d = some od)
    (hn : Own w T n o h') : Wf w c T m (σ.set n o) { s with heap := h', toks := tk } where
  toW0 := by
    obtain ⟨b, hd⟩ := hd
    refine W.toW0.write (n := n) (fun a ob h1 h2 e => hk a ob (fun q => h2 b (q ▸ hd)) e) (fun a b' h => ?_) hn rfl rfl
    by_cases q : a = d
    · subst q; exact ⟨od, hod⟩
    · obtain ⟨ob, e⟩ := W.alive a _ h; exact ⟨ob, hk a ob q e⟩
  ok := W.ok
  locL := W.locL
  loc := by
    refine hide fun Ph hPh => ?_
    obtain ⟨mm, ⟨o, es, ep, h, r⟩, hb⟩ := W.loc
    refine hPh ?_
    exact ⟨mm, ⟨o, es, ep, hk _ _ (fun q => by obtain ⟨b, hd⟩ := hd; rw [← q, W.locL] at hd; cases hd) h, r⟩, hb⟩
  onlyL := W.onlyL
  onlyC := W.onlyC
theorem Wf.setList (W : Wf w c T m σ s) {n : Nat} {a : Addr} {vs vs' : List Value} {k : Nat} {l' : List CV} (ha : T a = some (.nam n true)) (ho : s.heap.get? a = some (lstO vs k)) {f : Array Value → Array Value}
    (hf : f vs.toArray = vs'.toArray) (r : VX T l' vs') {tk : Nat} : Wf w c T m (σ.set n (.list l')) { s with heap := s.heap.update a (Obj.mapSeq f), toks := tk } := by
  have h1 := (PySem.IsL.update (h := s.heap) (l := a) (items := vs.toArray) (n := k) ho f)
  rw [hf] at h1
  exact W.write (d := a) ⟨true, ha⟩ (fun b ob hb e => (Heap.get?_update_other _ _ (Ne.symm hb)).trans e) h1 ⟨a, vs', _, ha, h1, r⟩
inductive ListAt (T : TM) (s : Shared) (n : Nat) (l : List CV) (v : Value) : Prop
  | mk (a : Addr) (vs : List Value) (k : Nat) : v = .ref a → T a = some (.nam n true) → s.heap.get? a = some (lstO vs k) → VX T l vs → ListAt T s n l v
theorem Wf.listAt (W : Wf w c T m σ s) {n : Nat} {l : List CV} {v : Value} (r : VR T (.ref n) v) (h : σ n = some (.list l)) : ListAt T s n l v := by
  obtain ⟨a, rfl, ha⟩ := r.ref_inv
  obtain ⟨b, vs, k, hb, ho, hv⟩ := W.own _ _ h
  have := W.uniq a b _ ha hb; subst this
  exact ⟨a, vs, k, rfl, ha, ho, hv⟩
theorem MethV.list {n : Nat} {l : List CV} {name : Str} {id : String} {Q : CV → List CV → Prop} (h : σ n = some (.list l)) (slot : Slot "list" name id) (hty : typeOf (.builtin id) = Pure.pure (.type "method_descriptor")) (q : Q (.top (.builtin id)) [.ref n]) : MethV w c (.ref n) name m σ Q := fun T s ov pl W r => by
  obtain ⟨a, vs, k, rfl, ha, ho, hv⟩ := W.listAt r h
  refine ⟨_, _, _, [.ref a], q, VR.top, .cons (VR.ref ha) .nil, fun Qr Er h => ?_⟩
  exact getMethod_builtin ⟨_, ho, rfl⟩ PySem.F.plainAttrs_list slot hty (fun a' e => by (injection e with e; subst e); exact ⟨_, ho, rfl⟩) (h s.toks)
theorem CallV.append {Q : CV → Lm → CH → Prop} {n : Nat} {l : List CV} {cv : CV} (h : σ n = some (.list l)) (hz : l.length ≤ sizeLine) (q : Q .none m (σ.set n (.list (l ++ [cv])))) : CallV w c (.top (.builtin "list.append")) [.ref n, cv] m σ Q X :=
  .prim (fun _ _ => .builtin) fun T s vs W ra => by
    obtain ⟨v1, vs', rfl, r1, ra⟩ := ra.cons_inv
    obtain ⟨v2, vs'', rfl, r2, ra⟩ := ra.cons_inv
    cases ra.nil_inv
    obtain ⟨a, vs, k, rfl, ha, ho, hv⟩ := W.listAt r1 h
    refine ⟨fun Qr Er hp hq _ => of <| ?_⟩
    refine call_meets F.slot_list_append ⟨_, ho, rfl⟩ F.entry_list_append (F.args_list_append_2 _ _) (PySem.list_append a vs.toArray k v2 (by refine rwP List.size_toArray ?_; refine rwP hv.length ?_; exact hz)) ⟨ho, ?_⟩
    have z := hq .none m _ T _ .none q (W.setList (tk := s.toks) (f := fun x => x.push v2) ha ho (vs' := vs ++ [v2]) (by simp) (hv.append (.cons r2 .nil))) (.refl _) VR.none
    exact z
theorem CallV.clear {Q : CV → Lm → CH → Prop} {n : Nat} {l : List CV} (h : σ n = some (.list l)) (hz : l.length ≤ sizeLine) (q : Q .none m (σ.set n (.list []))) : CallV w c (.top (.builtin "list.clear")) [.ref n] m σ Q X :=
  .prim (fun _ _ => .builtin) fun T s vs W ra => by
    obtain ⟨v1, vs', rfl, r1, ra⟩ := ra.cons_inv
    cases ra.nil_inv
    obtain ⟨a, vs, k, rfl, ha, ho, hv⟩ := W.listAt r1 h
    refine ⟨fun Qr Er hp hq _ => of <| ?_⟩
    refine call_meets F.slot_list_clear ⟨_, ho, rfl⟩ F.entry_list_clear (F.args_list_clear_1 _) (AutoSeq1.list_clear_list_0 a vs.toArray k (by refine rwP List.size_toArray ?_; refine rwP hv.length ?_; exact hz)) ⟨ho, ?_⟩
    have z := hq .none m _ T _ .none q (W.setList (tk := s.toks) (f := fun _ => #[]) ha ho (vs' := []) (by simp) .nil) (.refl _) VR.none
    exact z
theorem CallV.extend {Q : CV → Lm → CH → Prop} {n : Nat} {l l2 : List CV} (h : σ n = some (.list l)) (hz : l.length ≤ 1000) (hz2 : l2.length ≤ 1000) (q : Q .none m (σ.set n (.list (l ++ l2)))) : CallV w c (.top (.builtin "list.extend")) [.ref n, .fl l2] m σ Q X :=
  .prim (fun _ _ => .builtin) fun T s vs W ra => by
    obtain ⟨v1, vs', rfl, r1, ra⟩ := ra.cons_inv
    obtain ⟨v2, vs'', rfl, r2, ra⟩ := ra.cons_inv
    cases ra.nil_inv
    obtain ⟨a, vs, k, rfl, ha, ho, hv⟩ := W.listAt r1 h
    obtain ⟨b, k2, vs2, rfl, hb, hv2⟩ := r2.fl_inv
    refine ⟨fun Qr Er hp hq _ => of <| ?_⟩
    have z1 : vs.toArray.size ≤ 1000 := by refine rwP List.size_toArray ?_; refine rwP hv.length ?_; exact hz
    have z2 : vs2.toArray.size ≤ 1000 := by refine rwP List.size_toArray ?_; refine rwP hv2.length ?_; exact hz2
    refine call_meets F.slot_list_extend ⟨_, ho, rfl⟩ F.entry_list_extend (F.args_list_extend_2 _ _) (AutoSeq1.list_extend_list_list_0 a vs.toArray k b vs2.toArray k2 ?_ (by refine rwP sizeLine_eq ?_; lia) (by refine rwP sizeLine_eq ?_; lia)) ⟨ho, W.frz _ _ hb, ?_⟩
    · unfold Builtin.List.listTooLong
      refine rwP (decide_eq_false (by refine rwP sizeLine_eq ?_; lia)) ?_
      simp
    · have z := hq .none m _ T _ .none q (W.setList (tk := s.toks) (f := fun x => x ++ vs2.toArray) ha ho (vs' := vs ++ vs2) (by simp) (hv.append hv2)) (.refl _) VR.none
      exact z
end
end Mine
end
section
namespace Mine
noncomputable def AV (w : World) (c : Cx) (t : Expr) (cv : CV) (m : Lm) (σ : CH) (Q : Lm → CH → Prop) (X : CH → Prop) : Prop := ∀ T s v, Wf w c T m σ s → VR T cv v → J w c UR (assign t c.env v) T s (fun _ m' σ' => Q m' σ') X
noncomputable def storedC (es : List (Str × CV)) (k : Str) (v : CV) : List (Str × CV) :=
  if es.any (fun kv => kv.1 = k) then es.map (fun kv => if kv.1 = k then (kv.1, v) else kv) else es ++ [(k, v)]
theorem KR.any {T : TM} {es : List (Str × CV)} {kvs : List (Str × Value)} (r : KR T es kvs) (k : Str) : kvs.any (fun kv => kv.1 = k) = es.any (fun kv => kv.1 = k) := by
  induction r with
  | nil => rfl
  | cons a _ ih => refine rwP List.any_cons ?_; refine rwP List.any_cons ?_; refine rwP ih ?_; rfl
theorem KR.stored {T : TM} {es : List (Str × CV)} {kvs : List (Str × Value)} (r : KR T es kvs) {k : Str} {cv : CV} {v : Value} (h : VR T cv v) : KR T (storedC es k cv) (PySem.stored kvs k v) := by
  unfold storedC PySem.stored
  refine rwP (r.any k) ?_
  split
  · induction r with
    | nil => exact .nil
    | cons a _ ih =>
      rename_i hh
      clear hh
      have key : ∀ {es kvs}, KR T es kvs → KR T (es.map (fun kv => if kv.1 = k then (kv.1, cv) else kv)) (kvs.map (fun kv => if kv.1 = k then (kv.1, v) else kv)) := by
        intro es kvs r
        induction r with
        | nil => exact .nil
        | @cons x cv0 v0 es rs a _ ih =>
          refine rwP List.map_cons ?_; refine rwP List.map_cons ?_
          by_cases q : x = k
          · subst q; simp only [if_true]; exact .cons h ih
          · simp only [if_neg q]; exact .cons a ih
      exact key (.cons a ‹_›)
  · have key : ∀ {es kvs}, KR T es kvs → KR T (es ++ [(k, cv)]) (kvs ++ [(k, v)]) := by
      intro es kvs r
      induction r with
      | nil => exact .cons h .nil
      | cons a _ ih => exact .cons a ih
    exact key r
theorem KR.length {T : TM} {es : List (Str × CV)} {kvs : List (Str × Value)} (r : KR T es kvs) : kvs.length = es.length := by
  induction r with
  | nil => rfl
  | cons a _ ih => refine rwP List.length_cons ?_; refine rwP List.length_cons ?_; refine rwP ih ?_; rfl
noncomputable def setQ (o i v : CV) (σ : CH) (Q : CH → Prop) : Prop := match o, i with
  | .ref n, .int k => ∃ l, σ n = some (.list l) ∧ 0 ≤ k ∧ k < 2 ^ 63 ∧ k.toNat < l.length ∧ Q (σ.set n (.list (l.set k.toNat v)))
  | .ref n, .str x => ∃ es, σ n = some (.dict es) ∧ es.length ≤ 1000 ∧ Q (σ.set n (.dict (storedC es x v)))
  | _, _ => False
section
variable {w : World} {c : Cx} {T : TM} {s : Shared} {m : Lm} {σ : CH} {X : CH → Prop} {Q : Lm → CH → Prop}
theorem J.setItem {co ci cv : CV} {o i v : Value} (W : Wf w c T m σ s) (ro : VR T co o) (ri : VR T ci i) (rv : VR T cv v) (q : setQ co ci cv σ (fun σ' => Q m σ')) : J w c UR (PySem.setItem o i v) T s (fun _ m' σ' => Q m' σ') X := by
  unfold setQ at q
  split at q
  · obtain ⟨l, h, h0, h1, h2, q⟩ := q
    obtain ⟨a, vs, k, rfl, ha, ho, hv⟩ := W.listAt ro h
    obtain ⟨t, rfl⟩ := ri.int_inv
    rename_i n kk
    refine ⟨fun Qr Er hp hq _ => of <| ?_⟩
    have hz : kk < vs.toArray.size := by refine rwP List.size_toArray ?_; refine rwP hv.length ?_; lia
    refine ki_setAt ho h0 h1 hz ?_
    have z := hq () m _ T _ () q (W.setList (tk := s.toks) (f := fun x => x.setIfInBounds kk.toNat v) ha ho (vs' := vs.set kk.toNat v) (by simp) (hv.set rv _)) (.refl _) trivial
    exact z
  · obtain ⟨es, h, hz, q⟩ := q
    obtain ⟨a, rfl, ha⟩ := ro.ref_inv
    obtain ⟨b, kvs, p, hb, ho, hv⟩ := W.own _ _ h
    have := W.uniq a b _ ha hb; subst this
    obtain ⟨t, rfl⟩ := ri.str_inv
    rename_i n x
    refine ⟨fun Qr Er hp hq _ => of <| ?_⟩
    have ho' := DictOf.prog (q := c.prog) ho
    refine wpAny_setItem_pairs (knd := PySem.strKind c.prog w) (k := x) (beq_self_eq_true _) ho' (fun h' hd hs => ?_) (by refine rwP hv.length ?_; refine rwP sizeLine_eq ?_; lia)
    refine hide fun Ph hPh => ?_
    obtain ⟨od, _, _, hod, _⟩ := id hd
    refine hPh ?_
    have z := hq () m _ T _ () q (W.write (tk := s.toks + 1) (o := .dict (storedC es x cv)) (d := a) ⟨true, ha⟩ (fun b ob hb e => (hs.2 b hb).trans e) hod ⟨a, _, c.prog, ha, hd, hv.stored rv⟩) (.refl _) trivial
    exact z
  · exact q.elim
theorem AV.name {x : Str} {p : Pos} {cv : CV} (k : StOk c m x) (q : Q ((x, cv) :: m) σ) : AV w c (.Name x p) cv m σ Q X := fun T s v W r => by
  rw [arm_assign_Name]
  exact J.standAt (J.bindName W r k q)
theorem AV.sub {o i : Expr} {p : Pos} {cv : CV} (h : EV w c o m σ (fun co m1 σ1 => EV w c i m1 σ1 (fun ci m2 σ2 => setQ co ci cv σ2 (fun σ' => Q m2 σ')) X) X) : AV w c (.Subscript o i p) cv m σ Q X := fun T s v W r => by
  rw [arm_assign_Subscript]
  refine J.bind (J.holding (h T s W)) fun co m1 σ1 T1 s1 ov q1 W1 x1 r1 => ?_
  refine J.bind (J.holding (q1 T1 s1 W1)) fun ci m2 σ2 T2 s2 iv q2 W2 x2 r2 => ?_
  refine J.standAt ?_
  refine J.bind (J.holding (J.setItem W2 (r1.mono x2) r2 (r.mono (x1.trans x2)) q2)) fun _ m3 σ3 T3 s3 _ q3 W3 x3 _ => ?_
  refine ⟨fun Qr Er hp hq _ => of <| wpAny_release (hq () m3 σ3 T3 s3 () q3 W3 (.refl _) trivial)⟩
noncomputable def AVs (w : World) (c : Cx) (ts : List Expr) (cs : List CV) (m : Lm) (σ : CH) (Q : Lm → CH → Prop) (X : CH → Prop) : Prop :=
  ∀ T s vs, Wf w c T m σ s → VX T cs vs → J w c UR (assignInOrder ((assignEach ts c.env).map (·.2)) vs) T s (fun _ m' σ' => Q m' σ') X
theorem AVs.nil {cs : List CV} (q : Q m σ) : AVs w c [] cs m σ Q X := fun T s vs W r => by
  rw [arm_assignEach_nil]
  exact J.pure (b := ()) W q trivial
theorem AVs.cons {t : Expr} {ts : List Expr} {cv : CV} {cs : List CV} (h : AV w c t cv m σ (fun m1 σ1 => AVs w c ts cs m1 σ1 Q X) X) (he : assignEach (t :: ts) c.env = (false, assign t c.env) :: assignEach ts c.env) : AVs w c (t :: ts) (cv :: cs) m σ Q X := fun T s vs W r => by
  obtain ⟨v, vs', rfl, hv, hr⟩ := VX.cons_inv (l := cs) r
  refine rwP he ?_
  show J w c UR (do PySem.holding vs' (assign t c.env v); assignInOrder ((assignEach ts c.env).map (·.2)) vs') T s _ X
  refine J.bind (J.holding (h T s v W hv)) fun _ m1 σ1 T1 s1 _ q1 W1 x1 _ => ?_
  exact q1 T1 s1 vs' W1 (hr.mono x1)
theorem J.unpackT {t : Addr} {vs : List Value} {cs : List CV} {k : Nat} {QL : List CV → Lm → CH → Prop} (W : Wf w c T m σ s) (h : T t = some (.frz (tupO vs k))) (r : VX T cs vs) (q : QL cs m σ) : J w c VX (unpackItems (.ref t) cs.length Option.none) T s QL X := by
  refine ⟨fun Qr Er hp hq _ => of <| ?_⟩
  have e : cs.length = vs.toArray.size := by refine rwP List.size_toArray ?_; refine rwP r.length ?_; rfl
  refine rwP e ?_
  refine unpackItems_tuple W.ok.handled ⟨_, W.frz _ _ h, rfl, k, rfl⟩ fun h' he => ?_
  have hk : ∀ b o, s.heap.get? b = some o → h'.get? b = some o := fun b o e => he b o (Nat.ne_of_lt (Heap.lt_size e)) e
  exact hq cs m σ T _ vs q (W.keeps (t := s.toks) hk) (.refl _) r
theorem J.unpackL {t : Addr} {vs : List Value} {cs : List CV} {k : Nat} {QL : List CV → Lm → CH → Prop} (W : Wf w c T m σ s) (h : s.heap.get? t = some (lstO vs k)) (r : VX T cs vs) (q : QL cs m σ) : J w c VX (unpackItems (.ref t) cs.length Option.none) T s QL X := by
  refine ⟨fun Qr Er hp hq _ => of <| ?_⟩
  have e : cs.length = vs.toArray.size := by refine rwP List.size_toArray ?_; refine rwP r.length ?_; rfl
  refine rwP e ?_
  refine kun_itemsOf W.ok.handled ⟨_, h, rfl, k, rfl⟩ fun h' he => ?_
  have hk : ∀ b o, s.heap.get? b = some o → h'.get? b = some o := fun b o e => he b o (Nat.ne_of_lt (Heap.lt_size e)) e
  exact hq cs m σ T _ vs q (W.keeps (t := s.toks) hk) (.refl _) r
noncomputable def itemsOf (σ : CH) (cv : CV) (l : List CV) : Prop := match cv with
  | .tup l' => l = l'
  | .fl l' => l = l'
  | .ref n => σ n = some (.list l)
  | _ => False
theorem J.unpack {cv : CV} {v : Value} {l : List CV} {QL : List CV → Lm → CH → Prop} (W : Wf w c T m σ s) (r : VR T cv v) (h : itemsOf σ cv l) (q : QL l m σ) : J w c VX (unpackItems v l.length Option.none) T s QL X := by
  unfold itemsOf at h
  split at h
  · subst h
    obtain ⟨a, k, vs, rfl, ha, hv⟩ := r.tup_inv
    exact J.unpackT W ha hv q
  · subst h
    obtain ⟨a, k, vs, rfl, ha, hv⟩ := r.fl_inv
    exact J.unpackL W (W.frz _ _ ha) hv q
  · obtain ⟨a, vs, k, rfl, ha, ho, hv⟩ := W.listAt r h
    exact J.unpackL W ho hv q
  · exact h.elim
theorem AV.tup {ts : List Expr} {k : Nat} {p : Pos} {cv : CV} {l : List CV} (hi : itemsOf σ cv l) (hn : ts.length = l.length) (h : AVs w c ts l m σ Q X) (hl : (assignEach ts c.env).length = ts.length := by rfl) (hstar : (assignEach ts c.env).findIdx? (·.1) = Option.none := by rfl) : AV w c (.Tuple ts k p) cv m σ Q X := fun T s v W r => by
  rw [arm_assign_Tuple]
  refine J.standAt ?_
  unfold PySem.unpack
  refine rwP hl ?_; refine rwP hstar ?_; refine rwP hn ?_
  refine J.bind (J.holding (J.unpack (QL := fun l' m' σ' => l' = l ∧ m' = m ∧ σ' = σ) W r hi ⟨rfl, rfl, rfl⟩)) fun l' m1 σ1 T1 s1 vs q1 W1 x1 r1 => ?_
  refine hide fun Ph hPh => ?_
  obtain ⟨rfl, rfl, rfl⟩ := q1
  refine hPh ?_
  exact h T1 s1 vs W1 r1
end
section
variable {w : World} {c : Cx} {m : Lm} {σ : CH} {X : CH → Prop} {Q : Fl → Lm → CH → Prop}
theorem XV.assign {t e : Expr} {p : Pos} (h : EV w c e m σ (fun cv m1 σ1 => AV w c t cv m1 σ1 (fun m2 σ2 => Q .next m2 σ2) X) X)
    (hs : swapsWithSole [t] e p.line c.env = Pure.pure false) (hw : swappedStores [t] e c.env = Pure.pure Option.none) (he : assignEach [t] c.env = [(false, PySem.assign t c.env)]) : XV w c (.Assign [t] e p) m σ Q X := fun T s W => by
  rw [arm_exec_Assign]
  refine J.standAt ?_
  refine rwP hs ?_
  refine J.eq (t' := do let v ← eval e c.env; assignStores c.env v (← swappedStores [t] e c.env) ((assignEach [t] c.env).map (·.2))) rfl ?_
  refine J.bind (h T s W) fun cv m1 σ1 T1 s1 v q1 W1 x1 r1 => ?_
  refine rwP hw ?_; refine rwP he ?_
  refine J.eq (t' := do assignAll v [PySem.assign t c.env]; Pure.pure .next) rfl ?_
  refine J.bind (q1 T1 s1 v W1 r1) fun _ m2 σ2 T2 s2 _ q2 W2 x2 _ => ?_
  exact J.pure W2 q2 rfl
theorem XV.assign2 {t e : Expr} {p : Pos} {x y : Str} (h : EV w c e m σ (fun cv m1 σ1 => ∃ c1 c2, cv = .tup [c1, c2] ∧ StOk c m1 y ∧ StOk c ((y, c2) :: m1) x ∧ Q .next ((x, c1) :: (y, c2) :: m1) σ1) X)
    (hw : swappedStores [t] e c.env = Pure.pure (some [x, y])) (hs : swapsWithSole [t] e p.line c.env = Pure.pure false) : XV w c (.Assign [t] e p) m σ Q X := fun T s W => by
  rw [arm_exec_Assign]
  refine J.standAt ?_
  refine rwP hs ?_
  refine J.eq (t' := do let v ← eval e c.env; assignStores c.env v (← swappedStores [t] e c.env) ((assignEach [t] c.env).map (·.2))) rfl ?_
  refine J.bind (h T s W) fun cv m1 σ1 T1 s1 v q1 W1 x1 r1 => ?_
  refine hide fun Ph hPh => ?_
  obtain ⟨c1, c2, rfl, k1, k2, q⟩ := q1
  refine hPh ?_
  refine rwP hw ?_
  refine J.eq (t' := do rule "assign.swapped-stores"; let items ← unpackItems v 2 Option.none; assignInOrder ([x, y].reverse.map fun n => PySem.bindName c.env n) items.reverse; Pure.pure .next) rfl ?_
  refine ⟨fun Qr Er hp hq he => wpI_bind (of (wpAny_rule ?_))⟩
  refine (J.bind (J.unpack (l := [c1, c2]) (QL := fun l' m' σ' => l' = [c1, c2] ∧ m' = m1 ∧ σ' = σ1) W1 r1 rfl ⟨rfl, rfl, rfl⟩) fun l' m2 σ2 T2 s2 vs q2 W2 x2 r2 => ?_).run Qr Er hp hq he
  refine hide fun Ph hPh => ?_
  obtain ⟨rfl, rfl, rfl⟩ := q2
  obtain ⟨v1, vs', rfl, h1, hr⟩ := r2.cons_inv
  obtain ⟨v2, vs'', rfl, h2, hr2⟩ := hr.cons_inv
  refine hPh ?_
  cases hr2.nil_inv
  refine J.eq (t' := (PySem.holding [v1] (PySem.bindName c.env y v2) >>= fun _ => (PySem.holding [] (PySem.bindName c.env x v1) >>= fun _ => Pure.pure ())) >>= fun _ => Pure.pure Flow.next) rfl ?_
  refine J.bind (R := UR) (Q1 := fun _ m' σ' => m' = (x, c1) :: (y, c2) :: m2 ∧ σ' = σ2) (J.bind (J.holding (J.bindName (Q := fun _ m' σ' => m' = (y, c2) :: m2 ∧ σ' = σ2) W2 h2 k1 ⟨rfl, rfl⟩)) fun _ m3 σ3 T3 s3 _ q3 W3 x3 _ => ?_) fun _ m4 σ4 T4 s4 _ q4 W4 x4 _ => ?_
  · obtain ⟨rfl, rfl⟩ := q3
    refine J.bind (J.holding (J.bindName (Q := fun _ m' σ' => m' = (x, c1) :: (y, c2) :: m2 ∧ σ' = σ3) W3 (h1.mono x3) k2 ⟨rfl, rfl⟩)) fun _ m5 σ5 T5 s5 _ q5 W5 x5 _ => ?_
    exact J.pure (b := ()) W5 q5 trivial
  obtain ⟨rfl, rfl⟩ := q4
  exact J.pure W4 q rfl
end
end Mine
end
section
namespace Mine
theorem ER.getL {P : Params} {T : TM} {es : List (Str × CV)} {rs : List DictEntry} (r : ER P T es rs) (x : Str) : match es.lookup x with
    | some cv => ∃ v, PySem.W.getL x rs = some (some v) ∧ VR T cv v
    | none => PySem.W.getL x rs = some none := by
  have hnr : rs.any (·.refKey) = false := by
    induction r with
    | nil => rfl
    | cons a _ ih => refine rwP List.any_cons ?_; refine rwP ih ?_; rfl
  unfold PySem.W.getL
  refine rwP hnr ?_
  clear hnr
  induction r with
  | nil => rfl
  | @cons y t cv v es rs hv hr ih =>
    refine rwP List.find?_cons ?_
    by_cases q : x = y
    · subst q
      refine rwP lookup_cons_self' ?_
      simp only [Value.isStr, beq_self_eq_true]
      exact ⟨v, rfl, hv⟩
    · refine rwP (lookup_cons_ne q) ?_
      have e : (Value.str y t).isStr x = false := by simp only [Value.isStr]; exact beq_false_of_ne (fun z => q z.symm)
      simp only [e]
      exact ih
theorem ER.put {P : Params} {T : TM} {es : List (Str × CV)} {rs : List DictEntry} (r : ER P T es rs) {x : Str} {cv : CV} {v : Value} (h : VR T cv v) (hnd : (es.map (·.1)).Nodup) (t : Tok) : ER P T (storedC es x cv) (putL x (PyData.keyHash P x) (.str x t) v rs) := by
  unfold storedC
  induction r with
  | nil => exact .cons h .nil
  | @cons y u cv0 v0 es rs a r' ih =>
    rw [List.map_cons, List.nodup_cons] at hnd
    have ih := ih hnd.2
    unfold putL
    by_cases q : y = x
    · subst q
      have e : (Value.str y u).isStr y = true := by simp [Value.isStr]
      simp only [e, if_true, List.any_cons, decide_true, Bool.true_or, List.map_cons]
      refine .cons h ?_
      have : es.map (fun kv => if kv.1 = y then (kv.1, cv) else kv) = es := by
        have key : ∀ l : List (Str × CV), y ∉ l.map (·.1) → l.map (fun kv => if kv.1 = y then (kv.1, cv) else kv) = l := by
          intro l
          induction l with
          | nil => intro _; rfl
          | cons p l ih =>
            intro hn
            rw [List.map_cons, List.mem_cons, not_or] at hn
            refine rwP List.map_cons ?_; refine rwP (ih hn.2) ?_; refine rwP (if_neg (fun z => hn.1 z.symm)) ?_; rfl
        exact key es hnd.1
      refine rwP this ?_; exact r'
    · have e : (Value.str y u).isStr x = false := by simp only [Value.isStr]; exact beq_false_of_ne q
      simp only [e, Bool.false_eq_true, if_false, List.any_cons, decide_eq_false q, Bool.false_or, List.map_cons]
      by_cases z : es.any (fun kv => kv.1 = x) = true
      · rw [if_pos z] at ih ⊢
        refine rwP (if_neg q) ?_
        exact .cons a ih
      · rw [if_neg z] at ih ⊢
        exact .cons a ih
theorem ER.len {P : Params} {T : TM} {es : List (Str × CV)} {rs : List DictEntry} (r : ER P T es rs) : rs.length = es.length := by
  induction r with
  | nil => rfl
  | cons _ _ ih => refine rwP List.length_cons ?_; refine rwP List.length_cons ?_; refine rwP ih ?_; rfl
theorem putL_len (name : Str) (hsh : Int) (key v : Value) : ∀ es : List DictEntry, (putL name hsh key v es).length ≤ es.length + 1
  | [] => by simp [putL]
  | e :: r => by
    unfold putL
    split
    · simp
    · have := putL_len name hsh key v r
      simp only [List.length_cons]; lia
section
variable {w : World} {c : Cx} {T : TM} {s : Shared} {m : Lm} {σ : CH} {X : CH → Prop}
inductive InstAtN (w : World) (T : TM) (s : Shared) (n : Nat) (C : Addr) (es : List (Str × CV)) (v : Value) : Prop
  | mk (a dx : Addr) (rs : List DictEntry) (k : Nat) : v = .ref a → T a = some (.nam n true) → T dx = some (.nam n false) → s.heap.get? a = some ({ cls := .ref C, dict := some dx, data := .plain } : Obj) → s.heap.get? dx = some (dicO rs k) → ER w.params T es rs → InstAt s.heap a ({ cls := .ref C, dict := some dx, data := .plain } : Obj) C (some (dictOf rs k)) → InstAtN w T s n C es v
theorem Wf.instAt (W : Wf w c T m σ s) {n : Nat} {C : Addr} {es : List (Str × CV)} {v : Value} (r : VR T (.ref n) v) (h : σ n = some (.inst C es)) : InstAtN w T s n C es v := by
  obtain ⟨a, rfl, ha⟩ := r.ref_inv
  obtain ⟨b, dx, rs, k, hb, ho, hdx, hd, hr⟩ := W.own _ _ h
  have := W.uniq a b _ ha hb; subst this
  exact ⟨a, dx, rs, k, rfl, ha, hdx, ho, hd, hr, ⟨ho, rfl, rfl, hd⟩⟩
theorem VR.handed {T : TM} {c : CV} {v : Value} (r : VR T c v) (h : ∀ u, c ≠ .top u) : handedIn v = true := by
  cases c with
  | none => refine rwP r.none_inv ?_; rfl
  | bool b => refine rwP r.bool_inv ?_; rfl
  | int i => obtain ⟨t, rfl⟩ := r.int_inv; rfl
  | str i => obtain ⟨t, rfl⟩ := r.str_inv; rfl
  | bytes i => obtain ⟨t, rfl⟩ := r.bytes_inv; rfl
  | top u => exact absurd rfl (h u)
  | ref n => obtain ⟨a, rfl, _⟩ := r.ref_inv; rfl
  | tup l => obtain ⟨a, _, _, rfl, _⟩ := r.tup_inv; rfl
  | fl l => obtain ⟨a, _, _, rfl, _⟩ := r.fl_inv; rfl
  | unb => exact r.unb_inv.elim
  | rng a b => obtain ⟨a, _, _, _, rfl, _⟩ := r.at rfl; rfl
  | fn d l => obtain ⟨a, _, _, _, _, _, _, _, _, _, rfl, _⟩ := r.fn_inv; rfl
theorem MethV.inst {n : Nat} {C f : Addr} {es : List (Str × CV)} {name : Str} {Q : CV → List CV → Prop} (hg : plainGet (kk.heap_1 w.params) C name = true) (hf : findIn (kk.heap_1 w.params) (.ref C) name = some (some (.ref f))) (ht : isFn (kk.heap_1 w.params) (.ref f) = true)
    (h : σ n = some (.inst C es)) (hl : es.lookup name = none) (q : Q (.top (.ref f)) [.ref n]) : MethV w c (.ref n) name m σ Q := fun T s ov pl W r => by
  obtain ⟨a, dx, rs, k, rfl, h1, h2, ho, hd, hr, I⟩ := W.instAt r h
  have hgl := hr.getL name
  rw [hl] at hgl
  obtain ⟨pp, lo, mg, mb, TT, XX⟩ := Topped.ns W.toW0
  rw [KF_eq] at XX
  generalize kk.heap_1 w.params = K at *
  refine ⟨_, _, _, [.ref a], q, VR.top, .cons (VR.ref h1) .nil, fun Qr Er h => ?_⟩
  exact method_fn XX I (plainGet_of hg).1 (plainGet_of hg).2 hf (beq_iff_eq.mp ht) (by show (lookIn name (dictOf rs k)).map _ = _; rewrite [lookIn_dict]; refine rwP hgl ?_; rfl) (h s.toks)
noncomputable def emptyH : Heap := {}
theorem emptyH_get (a : Addr) : emptyH.get? a = none := Heap.get?_none_of_le (Nat.zero_le _)
noncomputable def restOf (h : Heap) (L d : Addr) : List (Addr × Obj) := (List.range h.objs.size).filterMap fun a => if a = L ∨ a = d then none else (h.get? a).map fun o => (a, o)
theorem mem_restOf {h : Heap} {L d a : Addr} {o : Obj} : (a, o) ∈ restOf h L d ↔ a ≠ L ∧ a ≠ d ∧ h.get? a = some o := by
  unfold restOf
  rw [List.mem_filterMap]
  constructor
  · rintro ⟨b, hb, e⟩
    split at e
    · injection e
    · rename_i q
      rw [not_or] at q
      cases z : h.get? b with
      | none => rw [z] at e; injection e
      | some ob => rw [z] at e; cases e; exact ⟨q.1, q.2, z⟩
  · rintro ⟨h1, h2, h3⟩
    exact ⟨a, List.mem_range.mpr (Heap.lt_size h3), by refine rwP (if_neg (by rintro (q | q); exact h1 q; exact h2 q)) ?_; refine rwP h3 ?_; rfl⟩
theorem news_all {h : Heap} {L d : Addr} {od : Obj} (hd : h.get? d = some od) (hne : d ≠ L) : News emptyH L h ([] ++ (d, od) :: restOf h L d) := fun p hp => by
  rcases List.mem_cons.mp hp with rfl | hp
  · exact ⟨hd, hne, emptyH_get _⟩
  · obtain ⟨a, o⟩ := p
    obtain ⟨h1, h2, h3⟩ := mem_restOf.mp hp
    exact ⟨h3, h1, emptyH_get _⟩
noncomputable def StoreOk (w : World) (C : Addr) (name : Str) : Prop := findIn (kk.heap_1 w.params) (.ref C) "__setattr__" = some (some (.builtin "object.__setattr__")) ∧ plainOver (kk.heap_1 w.params) C = true ∧ takerIn (kk.heap_1 w.params) C name = some none ∧ hasDictIn (kk.heap_1 w.params) C = true
theorem AV.attr {Q : Lm → CH → Prop} {o : Expr} {name : Str} {p : Pos} {cv : CV}
    (h : EV w c o m σ (fun co m1 σ1 => ∃ n C es, co = .ref n ∧ σ1 n = some (.inst C es) ∧ StoreOk w C name ∧ es.length ≤ 100 ∧ (es.map (·.1)).Nodup ∧ Q m1 (σ1.set n (.inst C (storedC es name cv)))) X) : AV w c (.Attribute o name p) cv m σ Q X := fun T s v W r => by
  rw [arm_assign_Attribute]
  refine J.bind (J.holding (h T s W)) fun co m1 σ1 T1 s1 ov q1 W1 x1 r1 => ?_
  refine hide fun Ph hPh => ?_
  obtain ⟨n, C, es, rfl, hn', ⟨hs, hpo, ht, hh⟩, hlen, hnd, q⟩ := q1
  obtain ⟨a, dx, rs, k, rfl, h1, h2, ho, hd, hr, I⟩ := W1.instAt r1 hn'
  obtain ⟨pp, lo, mg, mb, TT, XX⟩ := Topped.ns W1.toW0
  refine hPh ?_
  rw [KF_eq] at XX
  generalize kk.heap_1 w.params = K at *
  have hgl := hr.getL name
  have hne : dx ≠ c.L := fun q => by rw [q, W1.locL] at h2; cases h2
  obtain ⟨mm, hns, hb⟩ := W1.loc
  have F : Fr emptyH c.L s1.heap mm := ⟨hns, (fun b o e => by rw [emptyH_get] at e; injection e), Nat.zero_le _⟩
  refine J.standAt ?_
  refine ⟨fun Qr Er hp hq he => wpI_bind (wpI_holding ?_)⟩
  have hN : News emptyH c.L ({ s1 with toks := s1.toks + 1 } : Shared).heap ([] ++ (dx, dictOf rs k) :: restOf s1.heap c.L dx) := news_all hd hne
  have hlook : (lookIn name (dictOf rs k)).isSome = true := by
    rw [lookIn_dict]
    split at hgl
    · obtain ⟨v, hv, _⟩ := hgl; refine rwP hv ?_; rfl
    · refine rwP hgl ?_; rfl
  have hpost : ∀ p ∈ restOf s1.heap c.L dx, p.1 ≠ dx := fun p hp => by obtain ⟨b, ob⟩ := p; exact (mem_restOf.mp hp).2.1
  have hput := putName_dict name (PyData.keyHash w.params name) (.str name (s1.toks + 1)) v rs k
  generalize hes : putL name (PyData.keyHash w.params name) (.str name (s1.toks + 1)) v rs = es' at hput
  generalize putN name rs k = n' at hput
  have hlen' : es'.length ≤ 1000 := by
    have := putL_len name (PyData.keyHash w.params name) (.str name (s1.toks + 1)) v rs
    rw [hr.len, hes] at this; lia
  refine of <| set_plain XX I hs ?_
  refine osa_dict (s := { s1 with toks := s1.toks + 1 }) (pre := []) (post := restOf s1.heap c.L dx) (od := dictOf rs k) (od' := dictOf es' n') (es := es') (n := n') (m := mm) (L := c.L) (h₀ := emptyH) F hN XX I rfl hpo ht hh hlook (fun p hp => absurd hp List.not_mem_nil) hpost hput rfl hlen' ?_
  intro h' F' N'
  refine wpI_release ?_
  have hdx := (N' (dx, dictOf es' n') (.head _)).1
  have keep : ∀ b ob, b ≠ c.L → b ≠ dx → s1.heap.get? b = some ob → h'.get? b = some ob := fun b ob hb hb2 e => (N' (b, ob) (.tail _ (mem_restOf.mpr ⟨hb, hb2, e⟩))).1
  have haL : a ≠ c.L := fun q => by rw [q, W1.locL] at h1; cases h1
  have had : a ≠ dx := fun q => by rw [q, hd] at ho; cases ho
  obtain ⟨oL, hoL⟩ : ∃ oL, h'.get? c.L = some oL := by obtain ⟨o, _, _, h, _⟩ := F'.ns; exact ⟨o, h⟩
  refine hq () m1 _ T1 { s1 with heap := h', toks := s1.toks + 2 } () q ⟨?_, W1.ok, W1.locL, ⟨mm, F'.ns, hb⟩, W1.onlyL, W1.onlyC⟩ (.refl _) trivial
  have hOwn : Own w T1 n (.inst C (storedC es name cv)) h' := ⟨a, dx, es', n', h1, keep a _ haL had ho, h2, hdx, hes ▸ hr.put (r.mono x1) hnd _⟩
  refine ⟨?_, ?_, W1.uniq, ?_, ?_, W1.top, ?_, ?_, W1.pall, W1.gens, W1.os⟩
  · intro b t hb
    obtain ⟨ob, e⟩ := W1.alive b t hb
    by_cases z1 : b = c.L
    · subst z1; exact ⟨oL, hoL⟩
    · by_cases z2 : b = dx
      · subst z2; exact ⟨_, hdx⟩
      · exact ⟨ob, keep b ob z1 z2 e⟩
  · intro b ob hb
    exact keep b ob (fun z => by rw [z, W1.locL] at hb; cases hb) (fun z => by rw [z, h2] at hb; cases hb) (W1.frz b ob hb)
  · intro k' ob hk
    by_cases z : k' = n
    · subst z; rw [CH.set_self] at hk; obtain rfl := Option.some.inj hk; exact hOwn
    · rw [CH.set_ne _ _ z] at hk
      exact (W1.own k' ob hk).keeps fun b bb ob' hb e => keep b ob' (fun y => by rw [y, W1.locL] at hb; cases hb) (fun y => by rw [y, h2] at hb; cases hb; exact z rfl) e
  · intro b k' bb hb
    by_cases z : k' = n
    · subst z; rw [CH.set_self]; exact Option.some_ne_none _
    · refine rwP (CH.set_ne _ _ z) ?_; exact W1.nams b k' bb hb
  · intro b ob hb
    obtain ⟨p1, p2, sl, hs', p3⟩ := W1.prot b ob hb
    exact ⟨p1, p2, sl, hs', keep b _ (fun y => by rw [y, W1.locL] at p1; cases p1) (fun y => by rw [y, h2] at p1; cases p1) p3⟩
  · intro b x hb
    refine hide fun Ph hPh => ?_
    obtain ⟨ob, p1, p2⟩ := W1.cells b x hb
    refine hPh ?_
    exact ⟨ob, keep b _ (fun y => by rw [y, W1.locL] at hb; cases hb) (fun y => by rw [y, h2] at hb; cases hb) p1, p2⟩
end
end Mine
end
section
namespace Mine
open Builtin Builtin.ObjectAttr Builtin.Getset_descriptor
section
variable {prog : Program} {w : World} {A : Around} {K : Frag} {C : Addr} {R : Result → Shared → Prop} {h : Heap} {g : Array GenState} {d : Drawn} {t : Nat} {os : OsState} {E : Value → Shared → Prop}
theorem callAny_made {rest : List Value} {kw : List (Str × Value)} (Y : Makes (model prog w) h C) (Q : Fin → Shared → Prop) (hq : Q (Fin.again (.call (.builtin "type.__call__") ⟨.ref C :: rest, kw⟩)) ⟨h, g, d, t, os⟩) :
    PySem.wpAny (model prog w) A (callAny (.ref C) ⟨rest, kw⟩) Q E ⟨h, g, d, t, os⟩ := by
  refine hide fun Ph hPh => ?_
  obtain ⟨⟨oc, od, cd, sl, hC, e1, e2, e4⟩, made, base, self, top, call, typ⟩ := Y
  refine hPh ?_
  refine nd_load hC ?_
  show PySem.wpAny _ _ (callAny.viaDunder (.ref C) _) _ _ _
  refine PySem.wpAny_bind (call.at ?_)
  dsimp only
  rw [tc_bind]
  exact PySem.wpAny_bind (PySem.wpAny_pure (PySem.wpAny_bind (PySem.wpAny_pure (PySem.wpAny_pure hq))))
theorem codeI_call_builtin_at {id : String} {args : Args} {b : Builtin} {s : Shared} (hq : (Code.builtin id args).quiet = true) (hn : nice (.builtin id args) = true) (hb : entryFor table id = some b)
    (h : PySem.wpAny (model prog w) A.in1 (checkBuiltinCall id args) (fun _ s₁ => wpI (model prog w) (A.under (.builtin id args)) (b args)
      (fun fin s' => match fin with | .done f => R (.ok f) s' | .again c' => c'.quiet = true ∧ nice c' = true ∧ codeI (model prog w) A c' R s') (fun e s' => R (.error e) s') s₁)
      (fun e s' => R (.error e) s') s) : codeI (model prog w) A (.call (.builtin id) args) R s := by
  refine codeI_of_tree ?_
  show wpI _ A.in1 (do checkBuiltinCall id args; again (.builtin id args)) _ _ s
  refine wpI_bind (wpI_mono (of h) (fun _ s₁ h₁ => wpI_pure (And.intro hq ⟨hn, codeI_of_tree ?_⟩)) fun _ _ h' => h')
  show wpI _ _ (match entryFor table id with | some b => b args | none => unsupported ((withoutEnding? id "#data").getD id)) _ _ s₁
  refine rwP hb ?_; exact h₁
theorem make_core {rest : List Value} {kw : List (Str × Value)} {init : Value} (Y : Makes (model prog w) h C) (hi : Looks (model prog w) h (typeLookup (.ref C) "__init__") (some init))
    (hb : ∀ self, Looks (model prog w) h (bindSpecial init self) (init, [self])) (hne : (some init != some (Value.builtin "object.__init__")) = true ∨ (rest = [] ∧ kw = []))
    (hq : codeI (model prog w) (A.under (.builtin "type.__call__" ⟨.ref C :: rest, kw⟩)) (.call init ⟨.ref (h.objs.size + 1) :: rest, kw⟩) (InitBack (h.objs.size + 1) R) ⟨(h.push emptyDict).push (instObj C h.objs.size), g, d, t, os⟩) :
    codeI (model prog w) A (.call (.ref C) ⟨rest, kw⟩) R ⟨h, g, d, t, os⟩ := by
  refine codeI_of_tree ?_
  show wpI _ _ (callAny (.ref C) _) _ _ _
  refine of (callAny_made Y _ ⟨rfl, rfl, ?_⟩)
  have Y' := Y
  refine hide fun Ph hPh => ?_
  obtain ⟨⟨oc, od, cd, sl, hC, e1, e2, e4⟩, made, base, self, top, call, typ⟩ := Y
  refine hPh ?_
  refine codeI_call_builtin_at (Code.quiet_builtin _ (by decide +kernel)) rfl entry_typeCall (check_slot tc_kind tc_split typ (tc_args _ _ _) ?_)
  have hm : Looks (model prog w) h (mroOf (.ref C)) cd.mro := ((Looks.ld (part := none) hC).andThen .now).andThen .now
  show wpI _ _ (mroOf (.ref C) >>= _) _ _ _
  refine wpI_bind (of (hm.at ?_))
  refine rwP (if_neg (by refine rwP e4 ?_; decide)) ?_
  refine wpI_bind (of (made.at ?_))
  refine wpI_bind (wpI_pure ?_)
  refine wpI_bind (wpI_holding (wpI_call (codeOf (new_K Y' hi hne ?_))))
  have k : ∀ b o, h.get? b = some o → ((h.push emptyDict).push (instObj C h.objs.size)).get? b = some o := fun b o e => Heap.get?_push_of_some _ (Heap.get?_push_of_some _ e)
  have hx : ((h.push emptyDict).push (instObj C h.objs.size)).get? (h.objs.size + 1) = some (instObj C h.objs.size) := by heap_get
  have t1 : Looks (model prog w) ((h.push emptyDict).push (instObj C h.objs.size)) (typeOf (.ref (h.objs.size + 1))) (.ref C) := (Looks.ld hx).andThen .now
  have s1 := self.keeps k
  have i1 := hi.keeps k
  have b1 := (hb (.ref (h.objs.size + 1))).keeps k
  refine wpI_bind (of (Looks.at (t := isInstance (.ref (h.objs.size + 1)) (.ref C)) (t1.andThen s1) ?_))
  refine rwP (if_neg (by decide)) ?_
  have sp : Looks (model prog w) ((h.push emptyDict).push (instObj C h.objs.size)) (specialOf (.ref (h.objs.size + 1)) "__init__") (some init) := t1.andThen i1
  refine wpI_bind (wpI_holding ?_)
  unfold callSpecial?
  refine wpI_bind (of (sp.at ?_))
  refine wpI_holding (wpI_bind (of (b1.at ?_)))
  refine wpI_bind (wpI_call (codeI_mono hq fun r s' z => ?_))
  rcases r with e | (v | _ | _ | _) <;> first | exact z | exact z.elim | skip
  obtain ⟨rfl, z⟩ := z
  refine wpI_pure ?_
  dsimp only
  refine rwP (if_neg (by decide)) ?_
  exact of (PySem.wpAny_pure z)
end
section
variable {w : World} {c : Cx} {T : TM} {s : Shared} {m : Lm} {σ : CH} {X : CH → Prop}
theorem Wf.ctx (W : Wf w c T m σ s) {A : Around} {lv : Nat} (ok : CxOk { c with A := A, lv := lv }) : Wf w { c with A := A, lv := lv } T m σ s := ⟨W.toW0, ok, W.locL, W.loc, W.onlyL, W.onlyC⟩
theorem Wf.unctx {A : Around} {lv : Nat} (W : Wf w { c with A := A, lv := lv } T m σ s) (ok : CxOk c) : Wf w c T m σ s := ⟨W.toW0, ok, W.locL, W.loc, W.onlyL, W.onlyC⟩
theorem Wf.under (W : Wf w c T m σ s) (args : Args) (C : Addr) (rest : List Value) (hl : c.lv + 1 ≤ 30) : CxOk { c with A := c.A.under (.builtin "type.__call__" ⟨.ref C :: rest, []⟩), lv := c.lv + 1 } where
  frames := W.ok.frames
  out := W.ok.out
  outc := W.ok.outc
  guards := W.ok.guards
  handled := W.ok.handled
  kind := W.ok.kind
  units := by have := W.ok.units; show (c.A.under _).units ≤ _; rw [units_under_make]; show _ ≤ 100 + 100 * (c.lv + 1); lia
  depth := by have := W.ok.depth; show (c.A.under _).depth ≤ _; rw [depth_under_make]; show _ ≤ 310 + 10 * (c.lv + 1); lia
  lvl := hl
theorem CallOk.cls {C fI : Addr} {n h : Nat} {cs : List CV} {Q : CV → CH → Prop} (hm : makesIn (kk.heap_1 w.params) C = true) (hi : findIn (kk.heap_1 w.params) (.ref C) "__init__" = some (some (.ref fI))) (hf : isFn (kk.heap_1 w.params) (.ref fI) = true) (hn : σ n = none)
    (hI : CallOk w h (.ref fI) (.ref n :: cs) (σ.set n (.inst C [])) (fun cv σ' => cv = .none ∧ Q (.ref n) σ') X) (hX : ∀ σ', X σ' → X σ') : CallOk w (h + 1) (.ref C) cs σ Q X := by
  intro c T m s vs hl W ra
  obtain ⟨pp, lo, mg, mb, TT, XX⟩ := Topped.ns W.toW0
  rw [KF_eq] at XX
  generalize kk.heap_1 w.params = K at *
  refine ⟨fun Qr Er hq he => ?_⟩
  obtain ⟨hh, g, d, t, os⟩ := s
  have hfr : T hh.objs.size = none := W.toW0.fresh
  have hfr2 : T (hh.objs.size + 1) = none := W.toW0.fresh' (Heap.get?_none_of_le (Nat.le_succ _))
  have hkeep : ∀ b o, hh.get? b = some o → ((hh.push emptyDict).push (instObj C hh.objs.size)).get? b = some o := fun b o e => Heap.get?_push_of_some _ (Heap.get?_push_of_some _ e)
  have g1 : ((hh.push emptyDict).push (instObj C hh.objs.size)).get? hh.objs.size = some emptyDict := Heap.get?_push_of_some _ (Heap.get?_push_size _ rfl)
  have g2 : ((hh.push emptyDict).push (instObj C hh.objs.size)).get? (hh.objs.size + 1) = some (instObj C hh.objs.size) := by
    have := Heap.get?_push_size (hh.push emptyDict) (o := instObj C hh.objs.size) rfl
    rwa [Heap.size_push] at this
  have W1 : Wf w c T m σ ⟨(hh.push emptyDict).push (instObj C hh.objs.size), g, d, t, os⟩ := W.keeps (t := t) hkeep
  let T1 : TM := (T.put hh.objs.size (.nam n false)).put (hh.objs.size + 1) (.nam n true)
  have hne : hh.objs.size ≠ hh.objs.size + 1 := by lia
  have e1 : T1 hh.objs.size = some (.nam n false) := (TM.put_ne _ _ hne).trans (TM.put_self ..)
  have e2 : T1 (hh.objs.size + 1) = some (.nam n true) := TM.put_self ..
  have e3 : ∀ a, a ≠ hh.objs.size → a ≠ hh.objs.size + 1 → T1 a = T a := fun a h1 h2 => (TM.put_ne _ _ h2).trans (TM.put_ne _ _ h1)
  have old : ∀ a t, T a = some t → T1 a = some t := fun a t h => by
    refine rwP (e3 a (by rintro rfl; rw [hfr] at h; injection h) (by rintro rfl; rw [hfr2] at h; injection h)) ?_; exact h
  have new : ∀ a t, T1 a = some t → T a = some t ∨ (a = hh.objs.size ∧ t = .nam n false) ∨ (a = hh.objs.size + 1 ∧ t = .nam n true) := fun a t h => by
    by_cases h1 : a = hh.objs.size
    · subst h1; rw [e1] at h; obtain rfl := Option.some.inj h; exact .inr (.inl ⟨rfl, rfl⟩)
    · by_cases h2 : a = hh.objs.size + 1
      · subst h2; rw [e2] at h; obtain rfl := Option.some.inj h; exact .inr (.inr ⟨rfl, rfl⟩)
      · rw [e3 a h1 h2] at h; exact .inl h
  have x1 : Ext T T1 := ⟨fun a o h => old a _ h, fun a k b h => old a _ h⟩
  have nn : ∀ a b, T a ≠ some (.nam n b) := fun a b e => W.nams a n b e hn
  have W0' : W0 w c.os0 c.pr T1 (σ.set n (.inst C [])) ⟨(hh.push emptyDict).push (instObj C hh.objs.size), g, d, t, os⟩ := by
    refine W1.toW0.name x1 (fun a h => old a _ h) (fun a t h => ?_) hn (fun a a' h h' => ?_) ⟨hh.objs.size + 1, hh.objs.size, [], 0, e2, g2, e1, g1, .nil⟩
    · rcases new a t h with h | ⟨rfl, rfl⟩ | ⟨rfl, rfl⟩
      · exact .inl h
      · exact .inr ⟨hfr, false, rfl, _, g1⟩
      · exact .inr ⟨hfr2, true, rfl, _, g2⟩
    · have k : ∀ a, T1 a = some (.nam n true) → a = hh.objs.size + 1 := fun a h => by
        rcases new a _ h with h | ⟨_, h⟩ | ⟨h, _⟩
        · exact absurd h (nn a true)
        · cases h
        · exact h
      refine rwP (k a h) ?_; refine rwP (k a' h') ?_; rfl
  have W2 : Wf w c T1 m (σ.set n (.inst C [])) ⟨(hh.push emptyDict).push (instObj C hh.objs.size), g, d, t, os⟩ := by
    refine ⟨W0', W.ok, old _ _ W.locL, ?_, fun a h => ?_, fun a x h => ?_⟩
    · obtain ⟨mm, hns, hb⟩ := W1.loc
      exact ⟨mm, hns, fun y cv e => (hb y cv e).mono x1 fun a z hz => old a _ hz⟩
    · rcases new a _ h with h | ⟨_, h⟩ | ⟨_, h⟩
      · exact W.onlyL a h
      · injection h
      · injection h
    · rcases new a _ h with h | ⟨_, h⟩ | ⟨_, h⟩
      · exact W.onlyC a x h
      · injection h
      · injection h
  have ok1 := W.under ⟨[], []⟩ C vs (by lia : c.lv + 1 ≤ 30)
  refine make_core (makes_of XX hm) (looks_findIn XX hi) (fun self => bind_fn XX self (beq_iff_eq.mp hf)) (.inl rfl) ?_
  have hc := hI { c with A := c.A.under (.builtin "type.__call__" ⟨.ref C :: vs, []⟩), lv := c.lv + 1 } T1 m _ (.ref (hh.objs.size + 1) :: vs) (by show c.lv + 1 + h ≤ 30; lia) (W2.ctx ok1) (.cons (VR.ref e2) (ra.mono x1))
  refine codeI_mono (hc.run (fun v s' => v = .none ∧ Qr (.ref (hh.objs.size + 1)) s') Er (fun b m' σ' T' s' a q W' x r => ?_) fun m' σ' T' s' e q W' x r => ?_) (fun r s' h => ?_)
  · obtain ⟨rfl, rfl, q⟩ := q
    refine ⟨r.none_inv, hq _ _ _ _ _ _ ⟨rfl, q⟩ (W'.unctx W.ok) (x1.trans x) (VR.ref (x.nam _ _ _ e2))⟩
  · exact he m' σ' T' s' e q (W'.unctx W.ok) (x1.trans x) r
  · rcases r with e | (v | _ | _ | _) <;> first | exact h | exact h.elim
end
end Mine
end
section
namespace Mine
theorem W0.grow {w os0 pr T T' σ s s'} (W : W0 w os0 pr T σ s) {n : Nat} {P : Addr} (x : ∀ a t, T a = some t → T' a = some t) (hnew : ∀ a t, T' a = some t → T a = some t ∨ ∃ o, s'.heap.get? a = some o ∧ t = .frz o)
    (hP : T P = some (.nam n true)) (hk : ∀ a o, a ≠ P → s.heap.get? a = some o → s'.heap.get? a = some o) (hPo : ∃ o, s'.heap.get? P = some o) (hown : ∀ o, σ n = some o → Own w T' n o s'.heap) (hg : s'.gens = s.gens) (ho : s'.os = s.os) : W0 w os0 pr T' σ s' where
  alive a t h := by
    rcases hnew a t h with h | ⟨o, h, _⟩
    · by_cases q : a = P
      · subst q; exact hPo
      · obtain ⟨o, e⟩ := W.alive a t h; exact ⟨o, hk a o q e⟩
    · exact ⟨o, h⟩
  frz a o h := by
    rcases hnew a _ h with h | ⟨o', h, e⟩
    · exact hk a o (fun q => by rw [q, hP] at h; cases h) (W.frz a o h)
    · (injection e with e; subst e); exact h
  uniq a a' k h h' := by
    rcases hnew a _ h with h | ⟨_, _, e⟩
    · rcases hnew a' _ h' with h' | ⟨_, _, e⟩
      · exact W.uniq a a' k h h'
      · injection e
    · injection e
  own k o h := by
    by_cases q : k = n
    · subst q; exact hown o h
    · exact ((W.own k o h).mono ⟨fun a o h => x a _ h, fun a n b h => x a _ h⟩).keeps fun a b ob h => by
        rcases hnew a _ h with h | ⟨_, _, e⟩
        · exact hk a ob (fun z => by rw [z, hP] at h; cases h; exact q rfl)
        · injection e
  nams a k b h := by
    rcases hnew a _ h with h | ⟨_, _, e⟩
    · exact W.nams a k b h
    · injection e
  top := W.top.mono ⟨fun a o h => x a _ h, fun a n b h => x a _ h⟩
  prot a o h := by obtain ⟨h1, h2, sl, hs, h3⟩ := W.prot a o h; exact ⟨x a _ h1, h2, sl, hs, hk a _ (fun q => by rw [q, hP] at h1; cases h1) h3⟩
  cells a y h := by
    rcases hnew a _ h with h | ⟨_, _, e⟩
    · obtain ⟨o, h1, h2⟩ := W.cells a y h; exact ⟨o, hk a o (fun q => by rw [q, hP] at h; cases h) h1, h2⟩
    · injection e
  pall a h := by
    rcases hnew a _ h with h | ⟨_, _, e⟩
    · exact W.pall a h
    · injection e
  gens := hg.trans W.gens
  os := ho.trans W.os
noncomputable def frees (names : List (Str × NameKind)) : List Str := (names.filter (fun p => p.2 == .free)).map (·.1)
theorem closure_of {scope : Scope} {env : Env} {addr : Str → Addr} (h : ∀ x ∈ frees scope.names, env.cells.lookup x = some (addr x)) : closureFor scope env = pure ((frees scope.names).reverse.map fun x => (x, addr x)) := by
  have key : ∀ (names : List (Str × NameKind)) (acc : List (Str × Addr)) (f : Str × NameKind → List (Str × Addr) → Sem (ForInStep (List (Str × Addr)))), (∀ name kind cs, f (name, kind) cs = if kind == .free then (do let a ← cellOf env name; pure (.yield ((name, a) :: cs))) else pure (.yield cs)) → (∀ x ∈ frees names, env.cells.lookup x = some (addr x)) → forIn names acc f = (pure (((frees names).reverse.map fun x => (x, addr x)) ++ acc) : Sem _) := by
    intro names
    induction names with
    | nil => intro acc f hf h; refine rwP List.forIn_nil ?_; rfl
    | cons p r ih =>
      intro acc f hf h
      obtain ⟨y, k⟩ := p
      rw [List.forIn_cons, hf]
      by_cases hk : (k == NameKind.free) = true
      · refine rwP (if_pos hk) ?_
        have e : frees ((y, k) :: r) = y :: frees r := by unfold frees; refine rwP List.filter_cons ?_; refine rwP (if_pos hk) ?_; rfl
        rw [e] at h ⊢
        have : cellOf env y = pure (addr y) := by unfold cellOf; refine rwP (h y (.head _)) ?_; rfl
        refine rwP this ?_
        simp only [pure_bind]
        refine rwP (ih _ f hf (fun x hx => h x (.tail _ hx))) ?_
        simp
      · refine rwP (if_neg hk) ?_
        have e : frees ((y, k) :: r) = frees r := by unfold frees; refine rwP List.filter_cons ?_; refine rwP (if_neg hk) ?_; rfl
        rw [e] at h ⊢
        exact ih _ f hf h
  show (forIn scope.names ([] : List (Str × Addr)) _ >>= fun r => pure r) = _
  refine rwP (key scope.names [] _ (fun name kind cs => by cases hkc : kind == NameKind.free <;> simp [hkc]) h) ?_
  simp
section
variable {w : World} {c : Cx} {T : TM} {s : Shared} {m : Lm} {σ : CH} {X : CH → Prop}
theorem Wf.grow (W : Wf w c T m σ s) {s' : Shared} {T' : TM} {n : Nat} {P : Addr} (x : ∀ a t, T a = some t → T' a = some t) (hnew : ∀ a t, T' a = some t → T a = some t ∨ ∃ o, s'.heap.get? a = some o ∧ t = .frz o)
    (hP : T P = some (.nam n true)) (hk : ∀ a o, a ≠ P → s.heap.get? a = some o → s'.heap.get? a = some o) (hPo : ∃ o, s'.heap.get? P = some o) (hown : ∀ o, σ n = some o → Own w T' n o s'.heap) (hg : s'.gens = s.gens) (ho : s'.os = s.os) : Wf w c T' m σ s' where
  toW0 := W.toW0.grow x hnew hP hk hPo hown hg ho
  ok := W.ok
  locL := x _ _ W.locL
  loc := by
    refine hide fun Ph hPh => ?_
    obtain ⟨mm, ⟨o, es, ep, h, r⟩, hb⟩ := W.loc
    refine hPh ?_
    exact ⟨mm, ⟨o, es, ep, hk _ _ (fun q => by have := W.locL; rw [q, hP] at this; cases this) h, r⟩, fun y cv e => (hb y cv e).mono ⟨fun a o h => x a _ h, fun a n b h => x a _ h⟩ fun a z h => x a _ h⟩
  onlyL a h := by
    rcases hnew a _ h with h | ⟨_, _, e⟩
    · exact W.onlyL a h
    · injection e
  onlyC a y h := by
    rcases hnew a _ h with h | ⟨_, _, e⟩
    · exact W.onlyC a y h
    · injection e
theorem codeAll_mem {h : Heap} : ∀ {l : List (Addr × Addr)}, CodeAll l h → ∀ {q}, q ∈ l → CodeHd h q.1 q.2
  | _ :: _, k, _, .head _ => k.1
  | _ :: _, k, _, .tail _ hm => codeAll_mem k.2 hm
theorem caps_at (W : Wf w c T m σ s) : ∀ {xs : List Str} {caps : List CV}, xs.map (fun x => m.lookup x) = caps.map some → (∀ cv ∈ caps, cv ≠ .unb) → (∀ x ∈ xs, c.sc.names.lookup x ≠ some .local) →
    ∃ vals, CellsAt T (xs.map fun x => (x, (c.cl.lookup x).getD 0)) xs vals ∧ VX T caps vals ∧ ∀ x ∈ xs, c.cl.lookup x = some ((c.cl.lookup x).getD 0)
  | [], [], _, _, _ => ⟨[], .nil, .nil, nofun⟩
  | [], _ :: _, e, _, _ => by injection e
  | _ :: _, [], e, _, _ => by injection e
  | x :: xs, cv :: caps, e, hu, hk => by
    rw [List.map_cons, List.map_cons, List.cons.injEq] at e
    obtain ⟨vals, h1, h2, h3⟩ := caps_at W e.2 (fun cv h => hu cv (.tail _ h)) fun x h => hk x (.tail _ h)
    obtain ⟨mm, hns, hb⟩ := W.loc
    rcases (hb x cv e.1).cases (hu cv (.head _)) with ⟨k, _⟩ | ⟨_, a, ea, o, v, t, d, r⟩
    · exact absurd k (hk x (.head _))
    · refine ⟨v :: vals, ?_, .cons r h2, fun y hy => ?_⟩
      · refine rwP List.map_cons ?_; refine rwP ea ?_; exact .cons t d h1
      · rcases List.mem_cons.mp hy with rfl | hy
        · refine rwP ea ?_; rfl
        · exact h3 y hy
theorem codeAmong_tri {pos : Pos} {cv : Value} : ∀ {trs : List (Int × Int × Addr)}, codeAmong pos (tri trs) = some cv → ∃ t ∈ trs, cv = .ref t.2.2
  | [], e => by injection e
  | t :: trs, e => by
    have e' : codeAmong pos (rawInt t.1 :: rawInt t.2.1 :: .ref t.2.2 :: tri trs) = some cv := e
    rw [codeAmong_tri.step] at e'
    split at e'
    · obtain rfl := Option.some.inj e'; exact ⟨t, .head _, rfl⟩
    · obtain ⟨t', h, r⟩ := codeAmong_tri e'; exact ⟨t', .tail _ h, r⟩
where
  step : ∀ {pos : Pos} {a b : Int} {v : Value} {l : List Value}, codeAmong pos (rawInt a :: rawInt b :: v :: l) = if a == pos.line && b == pos.col then some v else codeAmong pos l := rfl
theorem triples_tri : ∀ (trs : List (Int × Int × Addr)), TriplesOk (tri trs)
  | [] => trivial
  | _ :: trs => triples_tri trs
theorem tri_snoc (trs : List (Int × Int × Addr)) (a b : Int) (c : Addr) : (tri trs).toArray ++ #[rawInt a, rawInt b, .ref c] = (tri (trs ++ [(a, b, c)])).toArray := by
  simp [tri, List.flatMap_append]
theorem J.fun {n : Nat} {P code : Addr} {q : Str} {name : Str} {params : Arguments} {fbody : FuncBody} {scope : Scope} {caps : List CV} {t : Sem Value} {Q : CV → Lm → CH → Prop} {pos : Pos} (W : Wf w c T m σ s)
    (hn : σ n = some (.tab P q)) (hmem : (code, P) ∈ tabsK) (hcd : c.cd = .ref code)
    (hcaps : (frees scope.names).reverse.map (fun x => m.lookup x) = caps.map some) (hu : ∀ cv ∈ caps, cv ≠ .unb) (hk : ∀ x ∈ (frees scope.names).reverse, c.sc.names.lookup x ≠ some .local)
    (qq : Q (.fn ⟨name, q, params, fbody, scope, (frees scope.names).reverse⟩ caps) m σ)
    (hmake : ∀ (mg : Str → Option Value) (ps : Array Value) (clos : List (Str × Addr)) (Qr : Value → Shared → Prop) (Er : Value → Shared → Prop), closureFor scope c.env = Pure.pure clos → s.heap.Ns mainGlobals mg → c.env.code = .ref code → CodeHd s.heap code P → s.heap.get? P = some (tabObj ps) → TriplesOk ps.toList → codeAmong pos ps.toList = none → mainGlobals ≠ P → s.heap.BuiltinsAt mg P →
      (∀ (c' : Addr) (ctv doc : Value) (h' : Heap) (tk : Tok), Heap.ExtBut P s.heap h' → s.heap.objs.size ≤ c' → c' < h'.objs.size → h'.CodeRec (.ref c') q → h'.get? P = some (tabObj (ps ++ #[rawInt pos.line, rawInt pos.col, .ref c'])) →
        Qr (.ref h'.objs.size) { s with heap := h'.push { cls := .type "function", data := .func (fnObj ⟨name, q, params, fbody, scope, (frees scope.names).reverse⟩ clos ((mg "__name__").getD .none) doc ctv c') }, toks := tk }) → wpAny (model c.prog w) c.A t Qr Er s)
    (hhit : ∀ (mg : Str → Option Value) (ps : Array Value) (clos : List (Str × Addr)) (c' : Addr) (Qr : Value → Shared → Prop) (Er : Value → Shared → Prop), closureFor scope c.env = Pure.pure clos → s.heap.Ns mainGlobals mg → c.env.code = .ref code → CodeHd s.heap code P → s.heap.get? P = some (tabObj ps) → TriplesOk ps.toList → codeAmong pos ps.toList = some (.ref c') → s.heap.BuiltinsAt mg P →
      (∀ (ctv doc : Value) (h' : Heap) (tk : Tok), (∀ b o, s.heap.get? b = some o → h'.get? b = some o) → s.heap.objs.size ≤ h'.objs.size →
        Qr (.ref h'.objs.size) { s with heap := h'.push { cls := .type "function", data := .func (fnObj ⟨name, q, params, fbody, scope, (frees scope.names).reverse⟩ clos ((mg "__name__").getD .none) doc ctv c') }, toks := tk }) → wpAny (model c.prog w) c.A t Qr Er s)
    (Qr : Value → Shared → Prop) (Er : Value → Shared → Prop) (hq : ∀ b m' σ' T' s' a, Q b m' σ' → Wf w c T' m' σ' s' → Ext T T' → VR T' b a → Qr a s') : wpAny (model c.prog w) c.A t Qr Er s := by
  refine hide fun Ph hPh => ?_
  obtain ⟨p, lo, me, mg, mb, TT, XX, CC⟩ := Topped.all W.toW0
  obtain ⟨hP, trs, ho, hcodes⟩ := W.own n _ hn
  refine hPh ?_
  generalize hps : (tri trs).toArray = ps at ho
  have htr : TriplesOk ps.toList := by refine rwB hps ?_; exact triples_tri trs
  have C := codeAll_mem CC hmem
  obtain ⟨vals, hca, hva, hlk⟩ := caps_at W hcaps hu hk
  have hcl : closureFor scope c.env = Pure.pure ((frees scope.names).reverse.map fun x => (x, (c.cl.lookup x).getD 0)) := closure_of (env := c.env) (addr := fun x => (c.cl.lookup x).getD 0) fun x hx => hlk x (List.mem_reverse.mpr hx)
  refine hide fun Ph hPh => ?_
  obtain ⟨bm, ob, b1, b2, b3, b4, b5, b6⟩ := TT.bmain
  refine hPh ?_
  have hgP : mainGlobals ≠ P := fun q => by
    refine hide fun Ph hPh => ?_
    obtain ⟨o, es, ep, e, hd, _⟩ := TT.g
    refine hPh ?_
    rw [q, ho] at e; obtain rfl := Option.some.inj e; injection hd
  have hbP : bm ≠ P := fun q => by rw [q, ho] at b3; obtain rfl := Option.some.inj b3; injection b4
  have hbG : bm ≠ mainGlobals := fun q => by
    obtain ⟨o, es, ep, e, hd, _⟩ := TT.g
    rw [q, e] at b3; obtain rfl := Option.some.inj b3; rw [hd] at b6; injection b6
  have hB : s.heap.BuiltinsAt mg P := ⟨bm, ob, b1, b2, hbG, hbP, b3, b4, b5, b6⟩
  cases hc : codeAmong pos ps.toList with
  | none =>
    refine hmake mg ps _ Qr Er hcl TT.g hcd C ho htr hc hgP hB fun c' ctv doc h' tk hx hge hlt hrec htb => ?_
    refine hide fun Ph hPh => ?_
    obtain ⟨c₂, oc, vs, t, e2, hoc, hd, hv⟩ := hrec
    refine hPh ?_
    (injection e2 with e2; subst e2)
    have hfr : T c' = none := W.toW0.fresh' (Heap.get?_none_of_le hge)
    have hfr2 : T h'.objs.size = none := W.toW0.fresh' (Heap.get?_none_of_le (Nat.le_trans hge (Nat.le_of_lt hlt)))
    generalize hfo : ({ cls := .type "function", data := .func (fnObj ⟨name, q, params, fbody, scope, (frees scope.names).reverse⟩ ((frees scope.names).reverse.map fun x => (x, (c.cl.lookup x).getD 0)) ((mg "__name__").getD .none) doc ctv c') } : Obj) = fo
    have hff : fo.isFreed = false := by refine rwB hfo ?_; rfl
    let T' : TM := (T.put c' (.frz oc)).put h'.objs.size (.frz fo)
    have hne : c' ≠ h'.objs.size := Nat.ne_of_lt hlt
    have ec : T' c' = some (.frz oc) := (TM.put_ne _ _ hne).trans (TM.put_self ..)
    have ef : T' h'.objs.size = some (.frz fo) := TM.put_self ..
    have old : ∀ a t, T a = some t → T' a = some t := fun a t h => (TM.put_ne _ _ (by rintro rfl; rw [hfr2] at h; injection h)).trans ((TM.put_ne _ _ (by rintro rfl; rw [hfr] at h; injection h)).trans h)
    have hoc' : (h'.push fo).get? c' = some oc := Heap.get?_push_of_some _ hoc
    have hfo' : (h'.push fo).get? h'.objs.size = some fo := Heap.get?_push_size _ hff
    have new : ∀ a t, T' a = some t → T a = some t ∨ ∃ o, (h'.push fo).get? a = some o ∧ t = .frz o := fun a t h => by
      by_cases z : a = h'.objs.size
      · subst z; rw [ef] at h; obtain rfl := Option.some.inj h; exact .inr ⟨fo, hfo', rfl⟩
      · by_cases z2 : a = c'
        · subst z2; rw [ec] at h; obtain rfl := Option.some.inj h; exact .inr ⟨oc, hoc', rfl⟩
        · rw [show T' a = T a from (TM.put_ne _ _ z).trans (TM.put_ne _ _ z2)] at h; exact .inl h
    have x1 : Ext T T' := ⟨fun a o h => old a _ h, fun a k b h => old a _ h⟩
    have W' : Wf w c T' m σ { s with heap := h'.push fo, toks := tk } := by
      refine W.grow (n := n) (P := P) old new hP (fun a o ha e => Heap.get?_push_of_some _ (hx a o ha e)) ⟨_, Heap.get?_push_of_some _ htb⟩ (fun o ho' => ?_) rfl rfl
      rw [hn] at ho'; obtain rfl := Option.some.inj ho'
      rw [← hps, tri_snoc] at htb
      refine ⟨old _ _ hP, _, Heap.get?_push_of_some _ htb, fun t' ht' => ?_⟩
      rcases List.mem_append.mp ht' with ht' | ht'
      · refine hide fun Ph hPh => ?_
        obtain ⟨oc1, fs1, tq1, r2, r3, r4⟩ := hcodes t' ht'
        refine hPh ?_
        exact ⟨oc1, fs1, tq1, old _ _ r2, r3, r4⟩
      · refine rwP (List.mem_singleton.mp ht') ?_; exact ⟨oc, vs, t, ec, hd, hv⟩
    refine hq _ m σ T' _ _ qq W' x1 ?_
    exact .fn (hfo ▸ ef) ec hd hv (hca.mono x1) (hva.mono x1) .nil
  | some cv =>
    rw [← hps] at hc
    refine hide fun Ph hPh => ?_
    obtain ⟨t', ht', rfl⟩ := codeAmong_tri (by simpa using hc)
    obtain ⟨oc, fs, tq, r2, r3, r4⟩ := hcodes t' ht'
    refine hPh ?_
    have hc : codeAmong pos ps.toList = some (.ref t'.2.2) := by refine rwB hps ?_; exact hc
    generalize t'.2.2 = c' at *
    refine hhit mg ps _ c' Qr Er hcl TT.g hcd C ho htr hc hB fun ctv doc h' tk hx hge => ?_
    have W1 : Wf w c T m σ { s with heap := h', toks := tk } := W.keeps hx
    obtain ⟨x1, W2⟩ := W1.push (o := { cls := .type "function", data := .func (fnObj ⟨name, q, params, fbody, scope, (frees scope.names).reverse⟩ ((frees scope.names).reverse.map fun x => (x, (c.cl.lookup x).getD 0)) ((mg "__name__").getD .none) doc ctv c') }) rfl
    exact hq _ m σ _ _ _ qq W2 x1 (.fn (TM.put_self ..) (x1.frz _ _ r2) r3 r4 (hca.mono x1) (hva.mono x1) .nil)
end
end Mine
end
section
namespace Mine
theorem nestDef_I {M : Model} {A : Around} {E : Value → Shared → Prop} {s : Shared} {name : Str} {params : Arguments} {body : List Stmt} {scope : Scope} {pos : Pos} {Q : Flow → Shared → Prop} {env : Env} (hd0 : params.defaults = []) (hk0 : params.kw_defaults = []) (ha : annTrees params none env = [])
    (h : wpAny M A (makeFunction name (qualnameIn env name name) params (.stmts body) scope env [] [] [] pos pos.line) (fun v s' => wpI M A (storeName env name v) (fun _ s'' => Q .next s'') E s') E s) :
    wpI M A (exec (.FunctionDef name params body [] none [] scope none name pos) env) Q E s := by
  rw [exec_def]
  refine wpI_bind (wpI_standAt (wpI_bind (wpI_holding ?_)))
  rewrite [defaultsOf_eq]; refine rwP hd0 ?_; refine rwP hk0 ?_; refine rwP ha ?_
  refine wpI_bind (wpI_pure ?_)
  refine wpI_bind (wpI_holding (wpI_pure ?_))
  refine wpI_holding (wpI_bind (wpI_pure ?_))
  exact wpI_mono (of h) (fun v s' h' => wpI_bind (wpI_standAt (wpI_bind (by
    refine fun Γ p hΓ n1 n2 => ?_
    rw [Sem.wp_bindName]
    exact wpI_mono h' (fun _ _ h'' => wpI_pure h'') (fun _ _ x => x) Γ p hΓ n1 n2)))) fun _ _ x => x
section
variable {w : World} {c : Cx} {T : TM} {s : Shared} {m : Lm} {σ : CH} {X : CH → Prop}
theorem EV.lambda {n : Nat} {P code : Addr} {q : Str} {params : Arguments} {body : Expr} {scope : Scope} {caps : List CV} {Q : CV → Lm → CH → Prop} {pos : Pos}
    (hn : σ n = some (.tab P q)) (hmem : (code, P) ∈ tabsK) (hcd : c.cd = .ref code) (hqn : c.nm ++ ".<locals>." ++ "<lambda>" = q)
    (hcaps : (frees scope.names).reverse.map (fun x => m.lookup x) = caps.map some) (hu : ∀ cv ∈ caps, cv ≠ .unb) (hk : ∀ x ∈ (frees scope.names).reverse, c.sc.names.lookup x ≠ some .local)
    (qq : Q (.fn ⟨"<lambda>", q, params, .expr body, scope, (frees scope.names).reverse⟩ caps) m σ) (hdef : defaultsOf params c.env = ([], [])) : EV w c (.Lambda params body scope pos) m σ Q X := fun T s W => by
  refine ⟨fun Qr Er hp hq he => of (kla_eval hdef ?_)⟩
  have hqe : c.env.qual ++ "<lambda>" = q := hqn
  refine rwP hqe ?_
  refine J.fun (pos := pos) (name := "<lambda>") (fbody := .expr body) (params := params) W hn hmem hcd hcaps hu hk qq (fun mg ps clos Qr Er hcl hg hcode C hP ht hnf hgP hb h => ?_) (fun mg ps clos c' Qr Er hcl hg hcode C hP ht hf hb h => ?_) Qr Er hq
  · exact kla_makeFunction hcl rfl hg hcode C hP ht hnf hgP hb fun c' ctv h' tk h1 h2 h3 h4 h5 => h c' ctv .none h' tk h1 h2 h3 h4 h5
  · exact kla_makeFunctionHit hcl rfl hg hcode C hP ht hf hb fun ctv h' tk h1 h2 => h ctv .none h' tk h1 h2
theorem XV.defn {n : Nat} {P code : Addr} {q name : Str} {params : Arguments} {body : List Stmt} {scope : Scope} {caps : List CV} {Q : Fl → Lm → CH → Prop} {pos : Pos}
    (hn : σ n = some (.tab P q)) (hmem : (code, P) ∈ tabsK) (hcd : c.cd = .ref code) (hqn : qualnameIn c.env name name = q)
    (hcaps : (frees scope.names).reverse.map (fun x => m.lookup x) = caps.map some) (hu : ∀ cv ∈ caps, cv ≠ .unb) (hk : ∀ x ∈ (frees scope.names).reverse, c.sc.names.lookup x ≠ some .local)
    (hst : StOk c m name) (qq : Q .next ((name, .fn ⟨name, q, params, .stmts body, scope, (frees scope.names).reverse⟩ caps) :: m) σ)
    (hd0 : params.defaults = []) (hk0 : params.kw_defaults = []) (ha : annTrees params none c.env = []) : XV w c (.FunctionDef name params body [] none [] scope none name pos) m σ Q X := fun T s W => by
  refine ⟨fun Qr Er hp hq he => nestDef_I hd0 hk0 ha ?_⟩
  refine rwP hqn ?_
  refine J.fun (Q := fun cv m' σ' => cv = .fn ⟨name, q, params, .stmts body, scope, (frees scope.names).reverse⟩ caps ∧ m' = m ∧ σ' = σ) (pos := pos) (name := name) (fbody := .stmts body) (params := params) W hn hmem hcd hcaps hu hk ⟨rfl, rfl, rfl⟩ (fun mg ps clos Qr Er hcl hg hcode C hP ht hnf hgP hb h => ?_) (fun mg ps clos c' Qr Er hcl hg hcode C hP ht hf hb h => ?_) _ Er (fun b m' σ' T' s' v q W' x r => ?_)
  · exact makeFunction_K hcl rfl hg hcode C hP ht hnf hgP hb fun c' ctv doc h' tk h1 h2 h3 h4 h5 => h c' ctv doc h' tk h1 h2 h3 h4 h5
  · exact makeFunction_hit hcl rfl hg hcode C hP ht hf hb fun ctv doc h' tk h1 h2 => h ctv doc h' tk h1 h2
  · refine hide fun Ph hPh => ?_
    obtain ⟨rfl, rfl, rfl⟩ := q
    refine hPh ?_
    refine (J.store (Q := fun _ m'' σ'' => Q .next m'' σ'') (X := X) W' r hst qq).run _ Er hp (fun b m'' σ'' T'' s'' _ q W'' x2 _ => hq _ _ _ _ _ _ q W'' (x.trans x2) rfl) fun m'' σ'' T'' s'' e q W'' x2 ex => he m'' σ'' T'' s'' e q W'' (x.trans x2) ex
end
end Mine
end
section
namespace Mine
section
variable {w : World} {c : Cx} {T : TM} {s : Shared} {m : Lm} {σ : CH} {X : CH → Prop}
theorem Wf.note {E : Value → Shared → Prop} {Q : Unit → Shared → Prop} {M : Model} {e : Value} (W : Wf w c T m σ s) (hcm : c.cmp = none) (x : ExcAt T s.heap (some c.L) e) (h : ∀ h', Wf w c T m σ { s with heap := h' } → ExcAt T h' none e → Q () { s with heap := h' }) :
    wpAny M c.A (noteFrame e c.env) (fun _ s2 => wpAny M c.A (setFlight e none) Q E s2) E s := by
  refine hide fun Ph hPh => ?_
  obtain ⟨a, oe, vs, rfl, ha, he, hc, hd, x⟩ := x
  refine hPh ?_
  have kb : (grnd T s.heap).StaysIn s.heap := fun b o q => (grnd_of q).1
  have hen : (grnd T s.heap).get? a = none := grnd_none (hid_true (by refine rwP ha ?_; rfl) (by refine rwP ha ?_; nofun))
  have hfr := W.ok.frames
  have hff := W.frames
  have hff' : ∀ s', Wf w c T m σ s' → s'.heap.FunFrames (grnd T s'.heap) (c.env :: c.outer) := fun s' W' => by have := W'.frames; rw [Cx.fenv_none hcm] at this; exact this
  rw [Cx.fenv_none hcm] at hfr hff
  have hf := Cx.frame_none hcm
  generalize c.env = env at hf hfr hff hff' ⊢
  rcases x with h1 | ⟨tb, ot, ts, fl, h1, ht, hne, hT, hdT, h3, rfl | ⟨b, e1, rfl⟩⟩
  · unfold noteFrame
    simp only [hf]
    refine wpAny_bind (wpAny_field he hd h1 ?_)
    refine rwP (if_neg (by decide)) ?_
    refine wpAny_newEntry hfr hff hf he kb hen hd (Array.getElem?_eq_some_iff.mp h1).1 fun h' ⟨x1, x2, x3, x4⟩ => ?_
    have W' := W.left x1 x4
    exact h h' W' (W.tracedAt W' ha (hc ▸ x3))
  · unfold noteFrame
    simp only [hf]
    refine wpAny_bind (wpAny_field he hd h1 ?_)
    refine rwP (if_pos (show (Value.ref tb != Value.none) = true from by simp)) ?_
    refine wpAny_bind (wpAny_field hT hdT h3 ?_)
    refine rwP (if_neg (show ¬ ((Value.none == rawInt c.L) = true) from by simp [rawInt])) ?_
    refine wpAny_bind (wpAny_setField hT hdT (Array.getElem?_eq_some_iff.mp h3).1 ?_)
    have oth : ∀ b, b ≠ tb → (s.heap.update tb (Obj.mapFields (·.setIfInBounds 3 Value.none))).get? b = s.heap.get? b := fun b hb => Heap.get?_update_other _ _ (Ne.symm hb)
    have W0 : Wf w c T m σ { s with heap := s.heap.update tb (Obj.mapFields (·.setIfInBounds 3 Value.none)) } := W.stepK (fun b o hb e => (oth b (fun z => hb (z ▸ ht))).trans e) rfl rfl
    have he' := (oth a (Ne.symm hne)).trans he
    have kb' : (grnd T (s.heap.update tb (Obj.mapFields (·.setIfInBounds 3 Value.none)))).StaysIn (s.heap.update tb (Obj.mapFields (·.setIfInBounds 3 Value.none))) := fun b o q => (grnd_of q).1
    refine wpAny_newEntry (s := { s with heap := s.heap.update tb (Obj.mapFields (·.setIfInBounds 3 Value.none)) }) hfr (hff' _ W0) hf he' kb' (grnd_none (hid_true (by refine rwP ha ?_; rfl) (by refine rwP ha ?_; nofun))) hd (Array.getElem?_eq_some_iff.mp h1).1 fun h' ⟨x1, x2, x3, x4⟩ => ?_
    have W' := W0.left x1 x4
    exact h h' W' (W0.tracedAt W' ha (hc ▸ x3))
  · obtain rfl := Option.some.inj e1
    unfold noteFrame
    simp only [hf]
    refine wpAny_bind (wpAny_field he hd h1 ?_)
    refine rwP (if_pos (show (Value.ref tb != Value.none) = true from by simp)) ?_
    refine wpAny_bind (wpAny_field hT hdT h3 ?_)
    refine rwP (if_pos (show (rawInt c.L == rawInt c.L) = true from beq_self_eq_true _)) ?_
    refine wpAny_pure ?_
    refine wpAny_bind (wpAny_field he hd h1 ?_)
    refine rwP (if_pos (show (Value.ref tb != Value.none) = true from by simp)) ?_
    refine wpAny_setField hT hdT (Array.getElem?_eq_some_iff.mp h3).1 ?_
    have oth : ∀ b, b ≠ tb → (s.heap.update tb (Obj.mapFields (·.setIfInBounds 3 Value.none))).get? b = s.heap.get? b := fun b hb => Heap.get?_update_other _ _ (Ne.symm hb)
    have W' : Wf w c T m σ { s with heap := s.heap.update tb (Obj.mapFields (·.setIfInBounds 3 Value.none)) } := W.stepK (fun b o hb e => (oth b (fun z => hb (z ▸ ht))).trans e) rfl rfl
    refine h _ W' ⟨a, oe, vs, rfl, ha, (oth a (Ne.symm hne)).trans he, hc, hd, .inr ⟨tb, _, ts.setIfInBounds 3 .none, .none, h1, ht, hne, Heap.get?_update_self _ hT (Obj.isFreed_of_fields (Obj.data_mapFields hdT _)), Obj.data_mapFields hdT _, ?_, .inl rfl⟩⟩
    have hz := (Array.getElem?_eq_some_iff.mp h3).1
    simp [hz]
theorem Wf.land {M : Model} {A : Around} {E : Value → Shared → Prop} {Q : Unit → Shared → Prop} {e : Value} (W : Wf w c T m σ s) (x : ExcAt T s.heap none e) (h : ∀ h', Wf w c T m σ { s with heap := h' } → Q () { s with heap := h' }) : wpAny M A (setFlight e none) Q E s := by
  refine hide fun Ph hPh => ?_
  obtain ⟨a, oe, vs, rfl, ha, he, hc, hd, x⟩ := x
  refine hPh ?_
  rcases x with h1 | ⟨tb, ot, ts, fl, h1, ht, hne, hT, hdT, h3, _⟩
  · refine wpAny_bind (wpAny_field he hd h1 ?_)
    refine rwP (if_neg (by decide)) ?_
    exact wpAny_pure (h s.heap W)
  · refine wpAny_bind (wpAny_field he hd h1 ?_)
    refine rwP (if_pos (show (Value.ref tb != Value.none) = true from by simp)) ?_
    refine wpAny_setField hT hdT (Array.getElem?_eq_some_iff.mp h3).1 (h _ ?_)
    exact W.stepK (fun b o hb e => (Heap.get?_update_other _ _ (fun (z : tb = b) => hb (z ▸ ht))).trans e) rfl rfl
theorem XV.tryMis {body : List Stmt} {b t : Str} {np p1 p2 p3 p4 p5 p : Pos} {k1 k2 k3 : Nat} {Q : Fl → Lm → CH → Prop} (hx : nsIn (kk.heap_1 w.params) mainGlobals b = some (some (.ref 63))) (hm : exmOne (kk.heap_1 w.params) (.ref 63) (.ref 63) = some true)
    (hcm : c.cmp = none) (hk : c.sc.names.lookup b = some .globalImplicit) (hd : (b == dbg) = false)
    (h : XVs w c body m σ (fun f m1 σ1 => ∃ cv, f = .ret cv ∧ Q (.ret cv) m1 σ1) (fun σ' => ∀ m', Q (.ret (.tup [.str t, .none])) m' σ')) :
    XV w c (.Try body [.ExceptHandler (some (.Name b np)) none [.Return (some (.Tuple [.Constant (.str t) k1 p1, .Constant .none k2 p2] k3 p3)) p4] p5] [] [] p) m σ Q X := fun T s W => by
  refine ⟨fun Qr Er hp hq he => wpI_Try_except ?_⟩
  refine (h T s W).run _ _ .looking (fun f m1 σ1 T1 s1 a q W1 x1 r1 => ?_) (fun m1 σ1 T1 s1 e q W1 x1 ex => ?_)
  · obtain ⟨cv, rfl, q⟩ := q
    obtain ⟨v, rfl, r⟩ := r1
    exact hq _ _ _ _ _ _ q W1 x1 ⟨v, rfl, r⟩
  · refine W1.note hcm ex fun h' W2 ex2 => ?_
    refine hide fun Ph hPh => ?_
    obtain ⟨a, oe, vs, rfl, ha, hoe, hcl, hdat, x⟩ := id ex2
    obtain ⟨pp, lo, mg, mb, TT, XX⟩ := Topped.ns W2.toW0
    refine hPh ?_
    rw [KF_eq] at XX
    generalize kk.heap_1 w.params = K at *
    refine wpAny_handleBy_cons (codeAny_handlers_test ?_) (by intro q; injection q)
    refine Name_function_global (env := c.env) W2.ok.kind hk (loadGlobal_global (env := c.env) TT.g (mg_of XX TT.g hx) ?_) hd
    refine (exm_one XX (.andThen (Looks.ld (part := some headPart) hoe) ?_) hm).here ?_
    · show Looks _ _ (pure oe.cls) _
      refine rwP hcl ?_; exact .now
    · refine codeAny_handlers_suite ?_
      refine W2.land ex2 fun h3 W3 => ?_
      rw [arm_execs_cons]
      refine wpAny_bind ?_
      rw [arm_exec_Return, arm_evalOpt_some]
      refine wpAny_bind (wpAny_standAt ?_)
      refine wpAny_bind (wpAny_Tuple ?_)
      have hst : starEach [.Constant (.str t) k1 p1, .Constant .none k2 p2] c.env = [(false, eval (.Constant (.str t) k1 p1) c.env), (false, eval (.Constant .none k2 p2) c.env)] := rfl
      refine rwP hst ?_
      show wpAny _ _ (spliced ((false, eval (.Constant (.str t) k1 p1) c.env) :: [(false, eval (.Constant .none k2 p2) c.env)])) _ _ _
      refine wpAny_bind (Constant_str (wpAny_bind (wpAny_pure (wpAny_bind (wpAny_holding ?_)))))
      refine wpAny_bind (wpAny_of_eq (a := Value.none) rfl (wpAny_bind (wpAny_pure (wpAny_bind (wpAny_holding (wpAny_pure (wpAny_pure ?_)))))))
      refine wpAny_pure ⟨by refine rwP sizeLine_eq ?_; show 2 ≤ _; lia, ?_⟩
      have W4 := W3.tok (s1.toks + 1)
      obtain ⟨x5, W5⟩ := W4.push (o := tupO [.str t s1.toks, .none] 0) rfl
      refine wpAny_pure (wpAny_pure ?_)
      exact hq _ m1 σ1 _ _ _ (q m1) W5 (x1.trans x5) ⟨_, rfl, VR.tup (TM.put_self ..) (.cons VR.str (.cons VR.none .nil))⟩
end
end Mine
end
section
namespace Mine
section
variable {prog : Program} {w : World} {A : Around} {E : Value → Shared → Prop} {s : Shared}
theorem tupNextOf {it t : Addr} {i : Nat} {items : Array Value} {x : Value} {Q : Value → Shared → Prop} (hit : IsTupIter s.heap it t i) (ht : IsTup s.heap t items) (hx : items[i]? = some x)
    (hQ : ∀ h', IsTupIter h' it t (i + 1) → Heap.SameBut it s.heap h' → Q x { s with heap := h' }) : wpAny (model prog w) A (Builtin.SmallTypes.nextOf (.ref it)) Q E s := by
  refine hide fun Ph hPh => ?_
  obtain ⟨o, ho, hc, hd⟩ := id hit
  obtain ⟨ol, hol, _, nl, hdl⟩ := ht
  refine hPh ?_
  refine wpAny_bind (wpAny_callSpecial?_slot (name := Str.ofString "__next__") hit.typeIs slot_tupleiter_next (wpAny_call_entry slot_tupleiter_next hit.typeIs entry_tupleiter_next ?_ (args_tupleiter_next _)))
  show wpAny _ _ (field (.ref it) 0 >>= _) _ _ s
  refine wpAny_bind (wpAny_field ho hd (x := .ref t) rfl ?_)
  show wpAny _ _ (if (Value.ref t == Value.none) = true then _ else _) _ _ s
  refine rwP (if_neg (show ¬ ((Value.ref t == Value.none) = true) from Bool.false_ne_true)) ?_
  show wpAny _ _ (field (.ref it) 1 >>= _) _ _ s
  refine wpAny_bind (wpAny_field ho hd (x := .int i 0) rfl (wpAny_bind (wpAny_seqItems hol hdl ?_)))
  simp only [Int.toNat_natCast, hx]
  refine wpAny_bind (wpAny_setField ho hd (by simp) (wpAny_pure ⟨x, rfl, wpAny_pure (hQ _ ⟨_, Heap.get?_update_self _ ho (Obj.isFreed_of_fields (Obj.data_mapFields hd _)), (Obj.cls_mapFields ..).trans hc, ?_⟩ (Heap.SameBut.update ..))⟩))
  rw [Obj.data_mapFields hd]; simp [rawInt]
noncomputable def Stops (A : Around) (E : Value → Shared → Prop) (s : Shared) (it : Addr) : Prop := ∀ h' e, Heap.ExtBut it s.heap h' → (∃ o, h'.get? it = some o) → (∃ o, h'.get? e = some o ∧ o.cls = .type "StopIteration") → E (.ref e) { s with heap := h' }
theorem tupStop {it t : Addr} {i : Nat} {items : Array Value} {Q : Value → Shared → Prop} (hh : A.handled = none) (hit : IsTupIter s.heap it t i) (ht : IsTup s.heap t items) (hx : items[i]? = none) (hE : Stops A E s it) :
    wpAny (model prog w) A (call (.builtin "tuple_iterator.__next__") [.ref it] []) Q E s := by
  refine hide fun Ph hPh => ?_
  obtain ⟨o, ho, hc, hd⟩ := id hit
  obtain ⟨ol, hol, _, nl, hdl⟩ := ht
  refine hPh ?_
  refine wpAny_call_entry slot_tupleiter_next hit.typeIs entry_tupleiter_next ?_ (args_tupleiter_next _)
  show wpAny _ _ (field (.ref it) 0 >>= _) _ _ s
  refine wpAny_bind (wpAny_field ho hd (x := .ref t) rfl ?_)
  show wpAny _ _ (if (Value.ref t == Value.none) = true then _ else _) _ _ s
  refine rwP (if_neg (show ¬ ((Value.ref t == Value.none) = true) from Bool.false_ne_true)) ?_
  show wpAny _ _ (field (.ref it) 1 >>= _) _ _ s
  refine wpAny_bind (wpAny_field ho hd (x := .int i 0) rfl (wpAny_bind (wpAny_seqItems hol hdl ?_)))
  simp only [Int.toNat_natCast, hx]
  refine wpAny_bind (wpAny_rule (wpAny_bind (wpAny_setField ho hd (by simp) ?_)))
  show wpAny _ _ (newExc (.type "StopIteration") [] >>= _) _ _ _
  refine wpAny_bind ?_
  refine wpAny_bind (wpAny_newObj_type ?_ (by size_fits))
  refine wpAny_bind (m := firstArgMember _ _) (wpAny_of_eq (a := Value.none) (by first | rfl | (simp only [firstArgMember]; rfl)) ?_)
  refine wpAny_newObj_type ?_ (by size_fits)
  dsimp only [raiseNew]
  refine wpAny_bind (wpAny_handled ?_)
  first | refine rwP (show A.in1.handled = none from hh) ?_ | rw [hh]
  exact wpAny_bind (wpAny_pure (wpAny_throw (hE _ _ (((Heap.SameBut.update ..).extBut.push _).push _) ⟨_, Heap.get?_push_of_some _ (Heap.get?_push_of_some _ (Heap.get?_update_self _ ho (Obj.isFreed_of_fields (Obj.data_mapFields hd _))))⟩ ⟨_, Heap.get?_push_size _ rfl, rfl⟩)))
theorem lstStop {it t : Addr} {i : Nat} {items : Array Value} {Q : Value → Shared → Prop} (hh : A.handled = none) (hit : s.heap.IsListIter it t i) (ht : s.heap.IsList t items) (hx : items[i]? = none) (hE : Stops A E s it) :
    wpAny (model prog w) A (call (.builtin "list_iterator.__next__") [.ref it] []) Q E s := by
  refine hide fun Ph hPh => ?_
  obtain ⟨o, ho, hc, hd⟩ := id hit
  obtain ⟨ol, hol, _, nl, hdl⟩ := ht
  refine hPh ?_
  refine wpAny_call_entry slot_listiter_next hit.typeIs entry_listiter_next ?_ (args_listiter_next _)
  show wpAny _ _ (field (.ref it) 0 >>= _) _ _ s
  refine wpAny_bind (wpAny_field ho hd (x := .ref t) rfl ?_)
  show wpAny _ _ (if (Value.ref t == Value.none) = true then _ else _) _ _ s
  refine rwP (if_neg (show ¬ ((Value.ref t == Value.none) = true) from Bool.false_ne_true)) ?_
  show wpAny _ _ (field (.ref it) 1 >>= _) _ _ s
  refine wpAny_bind (wpAny_field ho hd (x := .int i 0) rfl (wpAny_bind (wpAny_seqItems hol hdl ?_)))
  simp only [Int.toNat_natCast, hx]
  refine wpAny_bind (wpAny_rule (wpAny_bind (wpAny_setField ho hd (by simp) ?_)))
  show wpAny _ _ (newExc (.type "StopIteration") [] >>= _) _ _ _
  refine wpAny_bind ?_
  refine wpAny_bind (wpAny_newObj_type ?_ (by size_fits))
  refine wpAny_bind (m := firstArgMember _ _) (wpAny_of_eq (a := Value.none) (by first | rfl | (simp only [firstArgMember]; rfl)) ?_)
  refine wpAny_newObj_type ?_ (by size_fits)
  dsimp only [raiseNew]
  refine wpAny_bind (wpAny_handled ?_)
  first | refine rwP (show A.in1.handled = none from hh) ?_ | rw [hh]
  exact wpAny_bind (wpAny_pure (wpAny_throw (hE _ _ (((Heap.SameBut.update ..).extBut.push _).push _) ⟨_, Heap.get?_push_of_some _ (Heap.get?_push_of_some _ (Heap.get?_update_self _ ho (Obj.isFreed_of_fields (Obj.data_mapFields hd _))))⟩ ⟨_, Heap.get?_push_size _ rfl, rfl⟩)))
theorem rngStop {it : Addr} {x left : Int} {Q : Value → Shared → Prop} (hh : A.handled = none) (hit : IsRangeIter s.heap it x left 1) (hleft : left ≤ 0) (hE : Stops A E s it) :
    wpAny (model prog w) A (call (.builtin "range_iterator.__next__") [.ref it] []) Q E s := by
  have hT : s.TypeIs (.ref it) "range_iterator" := ⟨_, hit, rfl⟩
  refine wpAny_call_entry F.slot_range_iterator_next hT F.entry_range_iterator_next ?_ (F.args_range_iterator_next_1 _)
  show wpAny _ _ (field (.ref it) 0 >>= _) _ _ s
  refine wpAny_bind (wpAny_field hit rfl (x := rawInt x) rfl ?_)
  show wpAny _ _ (field (.ref it) 1 >>= _) _ _ s
  refine wpAny_bind (wpAny_field hit rfl (x := rawInt left) rfl ?_)
  show wpAny _ _ (field (.ref it) 2 >>= _) _ _ s
  refine wpAny_bind (wpAny_field hit rfl (x := rawInt 1) rfl ?_)
  show wpAny _ _ (if left ≤ 0 then _ else _) _ _ s
  refine rwP (if_pos hleft) ?_
  refine wpAny_bind (wpAny_rule (wpAny_bind ?_))
  show wpAny _ _ (newExc (.type "StopIteration") [] >>= _) _ _ _
  refine wpAny_bind ?_
  refine wpAny_bind (wpAny_newObj_type ?_ (by size_fits))
  refine wpAny_bind (m := firstArgMember _ _) (wpAny_of_eq (a := Value.none) (by first | rfl | (simp only [firstArgMember]; rfl)) ?_)
  refine wpAny_newObj_type ?_ (by size_fits)
  dsimp only [raiseNew]
  refine wpAny_bind (wpAny_handled ?_)
  first | refine rwP (show A.in1.handled = none from hh) ?_ | rw [hh]
  exact wpAny_bind (wpAny_pure (wpAny_throw (hE _ _ (((Heap.ExtBut.refl it s.heap).push _).push _) ⟨_, Heap.get?_push_of_some _ (Heap.get?_push_of_some _ hit)⟩ ⟨_, Heap.get?_push_size _ rfl, rfl⟩)))
theorem pyNextStop {it : Addr} {T id : String} {Q : Option Value → Shared → Prop} (hT : s.TypeIs (.ref it) T) (sl : Slot T "__next__" id)
    (hc : ∀ (Q' : Value → Shared → Prop) (E' : Value → Shared → Prop), Stops A E' s it → wpAny (model prog w) A (call (.builtin id) [.ref it] []) Q' E' s)
    (hQ : ∀ h', Heap.ExtBut it s.heap h' → (∃ o, h'.get? it = some o) → Q none { s with heap := h' }) : wpAny (model prog w) A (pyNext (.ref it)) Q E s := by
  refine wpAny_bind (wpAny_attempt (wpAny_callSpecial?_slot (name := Str.ofString "__next__") hT sl (hc _ _ fun h' e h1 h2 h3 => ?_)))
  obtain ⟨o, ho, hcl⟩ := h3
  refine wpAny_bind (wpAny_isInstance (T := "StopIteration") (b := true) ⟨o, ho, hcl⟩ isSubtype_stop ?_)
  exact wpAny_pure (hQ h' h1 h2)
theorem tupNextEnd {it t : Addr} {i : Nat} {items : Array Value} {Q : Value → Shared → Prop} (hh : A.handled = none) (hit : IsTupIter s.heap it t i) (ht : IsTup s.heap t items) (hx : items[i]? = none)
    (hE : Stops A E s it) : wpAny (model prog w) A (Builtin.SmallTypes.nextOf (.ref it)) Q E s := by
  exact wpAny_bind (wpAny_callSpecial?_slot (name := Str.ofString "__next__") hit.typeIs slot_tupleiter_next (tupStop hh hit ht hx hE))
theorem IsTupIter.eb {h h' : Heap} {a b t : Addr} {i : Nat} (x : IsTupIter h a t i) (hs : Heap.ExtBut b h h') (hab : a ≠ b) : IsTupIter h' a t i := by obtain ⟨o, ho, r⟩ := x; exact ⟨o, hs a o hab ho, r⟩
theorem mixNext {z TI TO i1 i2 l1 l2 : Addr} {k1 k2 : Nat} {xs ys : Array Value} {x y a b : Value} {Q : Option Value → Shared → Prop} (D : ZipApart z TI TO i1 i2 l1 l2)
    (hz : IsZip s.heap z TI TO .none) (hTI : IsPair s.heap TI (.ref i1) (.ref i2)) (hTO : IsPair s.heap TO a b)
    (h1 : IsTupIter s.heap i1 l1 k1) (h2 : s.heap.IsListIter i2 l2 k2) (hl1 : IsTup s.heap l1 xs) (hl2 : s.heap.IsList l2 ys) (hx : xs[k1]? = some x) (hy : ys[k2]? = some y)
    (hQ : ∀ h', IsZip h' z TI TO (rawInt s.heap.objs.size) → IsPair h' TO x y → IsTupIter h' i1 l1 (k1 + 1) → h'.IsListIter i2 l2 (k2 + 1) → IsPair h' s.heap.objs.size x y →
      (∀ c o, c ≠ z → c ≠ TO → c ≠ i1 → c ≠ i2 → s.heap.get? c = some o → h'.get? c = some o) → Q (some (.ref s.heap.objs.size)) { s with heap := h' }) :
    wpAny (model prog w) A (pyNext (.ref z)) Q E s := by
  have hT : s.TypeIs (.ref z) "zip" := ⟨_, hz, rfl⟩
  refine wpAny_bind (wpAny_attempt (wpAny_callSpecial?_slot (name := Str.ofString "__next__") hT F.slot_zip_next (wpAny_call_entry F.slot_zip_next hT F.entry_zip_next ?_ (F.args_zip_next_1 _))))
  show wpAny _ _ (field (.ref z) 2 >>= _) _ _ _
  refine wpAny_bind (wpAny_field hz rfl (x := .bool false) rfl ?_)
  show wpAny _ _ (field (.ref z) 3 >>= _) _ _ _
  refine wpAny_bind (wpAny_field hz rfl (x := .ref TI) rfl (wpAny_bind (wpAny_seqItems hTI rfl ?_)))
  show wpAny _ _ (Builtin.SmallTypes.ownedTupleIsFree (.ref z) >>= _) _ _ _
  refine wpAny_bind ?_
  refine wpAny_bind (wpAny_field hz rfl (x := .none) rfl (wpAny_pure ?_))
  refine wpAny_bind (wpAny_rule (wpAny_bind (wpAny_field hz rfl (x := .ref TO) rfl (wpAny_bind (wpAny_setField_rec hz (by simp) fun h₁ hz₁ hs₁ => ?_)))))
  replace hz₁ : IsZip h₁ z TI TO .ellipsis := hz₁
  refine wpAny_bind ?_
  simp only [List.zipIdx_cons, List.zipIdx_nil, List.forIn_cons, List.forIn_nil]
  refine wpAny_bind (wpAny_bind (wpAny_onRaise ?_))
  show wpAny _ _ (Builtin.SmallTypes.nextOf (.ref i1) >>= _) _ _ _
  refine wpAny_bind (tupNextOf (IsTupIter.eb h1 hs₁.extBut D.i1z) (hl1.extBut hs₁.extBut D.l1z) hx fun h₂ h1₂ hs₂ => wpAny_pure ?_)
  have hTO₂ : IsPair h₂ TO a b := hs₂.extBut _ _ D.TOi1 (hs₁.extBut _ _ D.TOz hTO)
  refine wpAny_bind (wpAny_seqItems hTO₂ rfl (wpAny_bind (wpAny_updateSeq_pair hTO₂ fun h₃ hTO₃ hs₃ => ?_)))
  replace hTO₃ : IsPair h₃ TO x b := hTO₃
  refine wpAny_bind (wpAny_letGo (wpAny_pure ?_))
  refine wpAny_bind (wpAny_bind (wpAny_onRaise ?_))
  show wpAny _ _ (Builtin.SmallTypes.nextOf (.ref i2) >>= _) _ _ _
  refine wpAny_bind (wpAny_nextOf_list_item (((h2.extBut hs₁.extBut D.i2z).extBut hs₂.extBut D.i12.symm).extBut hs₃.extBut D.TOi2.symm)
    (((hl2.extBut hs₁.extBut D.l2z).extBut hs₂.extBut D.l2i1).extBut hs₃.extBut D.l2TO) hy fun h₄ h2₄ hs₄ => wpAny_pure ?_)
  have hTO₄ : IsPair h₄ TO x b := hs₄.extBut _ _ D.TOi2 hTO₃
  refine wpAny_bind (wpAny_seqItems hTO₄ rfl (wpAny_bind (wpAny_updateSeq_pair hTO₄ fun h₅ hTO₅ hs₅ => ?_)))
  replace hTO₅ : IsPair h₅ TO x y := hTO₅
  refine wpAny_bind (wpAny_letGo (wpAny_pure (wpAny_pure ?_)))
  refine wpAny_bind (wpAny_seqItems hTO₅ rfl (wpAny_bind (wpAny_newTuple ?_)))
  have hsz : h₅.objs.size = s.heap.objs.size := by refine rwP hs₅.1 ?_; refine rwP hs₄.1 ?_; refine rwP hs₃.1 ?_; refine rwP hs₂.1 ?_; refine rwP hs₁.1 ?_; rfl
  have hz₅ : IsZip h₅ z TI TO .ellipsis := hs₅.extBut _ _ D.TOz.symm (hs₄.extBut _ _ D.i2z.symm (hs₃.extBut _ _ D.TOz.symm (hs₂.extBut _ _ D.i1z.symm hz₁)))
  have hk₅ : ∀ c o, c ≠ z → c ≠ TO → c ≠ i1 → c ≠ i2 → s.heap.get? c = some o → h₅.get? c = some o := fun c o c1 c2 c3 c4 e =>
    hs₅.extBut _ _ c2 (hs₄.extBut _ _ c4 (hs₃.extBut _ _ c2 (hs₂.extBut _ _ c3 (hs₁.extBut _ _ c1 e))))
  have h1₅ : IsTupIter h₅ i1 l1 (k1 + 1) := IsTupIter.eb (IsTupIter.eb (IsTupIter.eb h1₂ hs₃.extBut D.TOi1.symm) hs₄.extBut D.i12) hs₅.extBut D.TOi1.symm
  have h2₅ : h₅.IsListIter i2 l2 (k2 + 1) := h2₄.extBut hs₅.extBut D.TOi2.symm
  have hzlt : z < h₅.objs.size := Heap.lt_size hz₅
  show wpAny _ _ (Builtin.SmallTypes.ownedTupleHandOut (.ref z) (.ref h₅.objs.size) >>= _) _ _ _
  refine wpAny_bind ?_
  have hz₆ : IsZip (h₅.push { cls := .type "tuple", data := .seq #[x, y] }) z TI TO .ellipsis := Heap.get?_push_of_some _ hz₅
  refine wpAny_bind (wpAny_setField_rec hz₆ (by simp) fun h₇ hz₇ hs₇ => ?_)
  replace hz₇ : IsZip h₇ z TI TO (rawInt h₅.objs.size) := hz₇
  refine wpAny_setField_rec hz₇ (by simp) fun h₈ hz₈ hs₈ => ?_
  replace hz₈ : IsZip h₈ z TI TO (rawInt h₅.objs.size) := hz₈
  have up : ∀ c o, c ≠ z → h₅.get? c = some o → h₈.get? c = some o := fun c o c1 e => hs₈.extBut _ _ c1 (hs₇.extBut _ _ c1 (Heap.get?_push_of_some _ e))
  have hT₈ : IsPair h₈ h₅.objs.size x y := hs₈.extBut _ _ (Nat.ne_of_gt hzlt) (hs₇.extBut _ _ (Nat.ne_of_gt hzlt) (Heap.get?_push_size _ rfl))
  rw [hsz] at hz₈ hT₈
  refine wpAny_pure ⟨_, rfl, ?_⟩
  refine wpAny_pure ?_
  show Q (some (.ref h₅.objs.size)) _
  refine rwP hsz ?_
  refine hide fun Ph hPh => ?_
  obtain ⟨o1, g1, r1⟩ := h1₅
  refine hPh ?_
  exact hQ h₈ hz₈ (up _ _ D.TOz hTO₅) ⟨o1, up _ _ D.i1z g1, r1⟩ (h2₅.at fun o e => up _ o D.i2z e) hT₈ fun c o c1 c2 c3 c4 e => up c o c1 (hk₅ c o c1 c2 c3 c4 e)
theorem mixEnd {z TI TO i1 i2 l1 l2 : Addr} {k1 k2 : Nat} {xs ys : Array Value} {a b : Value} {Q : Option Value → Shared → Prop} (hh : A.handled = none) (D : ZipApart z TI TO i1 i2 l1 l2)
    (hz : IsZip s.heap z TI TO .none) (hTI : IsPair s.heap TI (.ref i1) (.ref i2)) (hTO : IsPair s.heap TO a b)
    (h1 : IsTupIter s.heap i1 l1 k1) (hl1 : IsTup s.heap l1 xs) (hend : xs[k1]? = none)
    (hQ : ∀ h', (∃ o, h'.get? z = some o) → (∀ c o, c ≠ z → c ≠ i1 → s.heap.get? c = some o → h'.get? c = some o) → (∃ o, h'.get? i1 = some o) → Q none { s with heap := h' }) : wpAny (model prog w) A (pyNext (.ref z)) Q E s := by
  have hT : s.TypeIs (.ref z) "zip" := ⟨_, hz, rfl⟩
  refine wpAny_bind (wpAny_attempt (wpAny_callSpecial?_slot (name := Str.ofString "__next__") hT F.slot_zip_next (wpAny_call_entry F.slot_zip_next hT F.entry_zip_next ?_ (F.args_zip_next_1 _))))
  show wpAny _ _ (field (.ref z) 2 >>= _) _ _ _
  refine wpAny_bind (wpAny_field hz rfl (x := .bool false) rfl ?_)
  show wpAny _ _ (field (.ref z) 3 >>= _) _ _ _
  refine wpAny_bind (wpAny_field hz rfl (x := .ref TI) rfl (wpAny_bind (wpAny_seqItems hTI rfl ?_)))
  show wpAny _ _ (Builtin.SmallTypes.ownedTupleIsFree (.ref z) >>= _) _ _ _
  refine wpAny_bind ?_
  refine wpAny_bind (wpAny_field hz rfl (x := .none) rfl (wpAny_pure ?_))
  refine wpAny_bind (wpAny_rule (wpAny_bind (wpAny_field hz rfl (x := .ref TO) rfl (wpAny_bind (wpAny_setField_rec hz (by simp) fun h₁ hz₁ hs₁ => ?_)))))
  replace hz₁ : IsZip h₁ z TI TO .ellipsis := hz₁
  refine wpAny_bind ?_
  refine wpAny_bind (wpAny_bind (wpAny_onRaise ?_))
  show wpAny _ _ (Builtin.SmallTypes.nextOf (.ref i1) >>= _) _ _ _
  refine wpAny_bind (tupNextEnd hh (IsTupIter.eb h1 hs₁.extBut D.i1z) (hl1.extBut hs₁.extBut D.l1z) hend fun h₂ e hs₂ hal he => ?_)
  obtain ⟨oe, hoe, hce⟩ := he
  have hz₂ : IsZip h₂ z TI TO .ellipsis := hs₂ _ _ D.i1z.symm hz₁
  have hez : e ≠ z := fun x => by subst x; rw [hz₂] at hoe; obtain rfl := Option.some.inj hoe; simp at hce
  refine wpAny_setField_rec hz₂ (by simp) fun h₃ hz₃ hs₃ => ?_
  refine wpAny_bind (wpAny_isInstance (T := "StopIteration") (b := true) ⟨oe, hs₃.extBut _ _ hez hoe, hce⟩ isSubtype_stop (wpAny_pure ?_))
  obtain ⟨oi, hoi⟩ := hal
  exact hQ h₃ ⟨_, hz₃⟩ (fun c o c1 c3 x => hs₃.extBut _ _ c1 (hs₂ _ _ c3 (hs₁.extBut _ _ c1 x))) ⟨oi, hs₃.extBut _ _ D.i1z hoi⟩
end
end Mine
end
section
namespace Mine
noncomputable abbrev zm1 (h : Heap) (l1 : Addr) : Heap := h.push { cls := .type "tuple_iterator", data := .fields #[.ref l1, .int 0 0] }
noncomputable abbrev zm2 (h : Heap) (l1 l2 : Addr) : Heap := (zm1 h l1).push { cls := .type "list_iterator", data := .fields #[.ref l2, .int 0 0] }
noncomputable abbrev zm3 (h : Heap) (l1 l2 : Addr) : Heap := (zm2 h l1 l2).push { cls := .type "tuple", data := .seq #[.ref h.objs.size, .ref (zm1 h l1).objs.size] }
noncomputable abbrev zm4 (h : Heap) (l1 l2 : Addr) : Heap := (zm3 h l1 l2).push { cls := .type "tuple", data := .seq #[.none, .none] }
noncomputable abbrev zm5 (h : Heap) (l1 l2 : Addr) : Heap := (zm4 h l1 l2).push { cls := .type "zip", data := .fields #[.none, .bool false, .bool false, .ref (zm2 h l1 l2).objs.size, .ref (zm3 h l1 l2).objs.size] }
theorem mixNew (l1 l2 : Addr) (xs ys : Array Value) :
    Meets (Builtin.«zip.__new__» ⟨[.type "zip", .ref l1, .ref l2], []⟩) (fun _ R s => IsTup s.heap l1 xs ∧ s.heap.IsList l2 ys ∧
      R (.ok (.ret (.ref (zm4 s.heap l1 l2).objs.size))) { s with heap := zm5 s.heap l1 l2 }) :=
  .of_wp fun prog w A R s h => by
    obtain ⟨hp, g, d, tk, os⟩ := s; obtain ⟨hl1, hl2, h⟩ := h
    have hsub := sub_zip
    have hL1 : IsTup (Shared.heap ⟨hp, g, d, tk, os⟩) l1 xs := hl1
    have hL2 : Heap.IsList (Shared.heap ⟨hp.push { cls := .type "tuple_iterator", data := .fields #[.ref l1, .int 0 0] }, g, d, tk, os⟩) l2 ys := Heap.IsList.push hl2 _
    wp_walk using iter_tuple hL1, wpAny_pyIter_list hL2
    exact ⟨_, rfl, h⟩
section
variable {w : World} {c : Cx} {T : TM} {s : Shared} {m : Lm} {σ : CH} {X : CH → Prop}
theorem Wf.nameMany (W : Wf w c T m σ s) {n : Nat} {o : CObj} (tags : Addr → Option Bool) (hn : σ n = none) (h1 : ∀ a b, tags a = some b → T a = none ∧ ∃ ob, s.heap.get? a = some ob) (h2 : ∀ a a', tags a = some true → tags a' = some true → a = a')
    (ho : ∀ T', Ext T T' → (∀ a b, tags a = some b → T' a = some (.nam n b)) → Own w T' n o s.heap) : ∃ T', Ext T T' ∧ (∀ a b, tags a = some b → T' a = some (.nam n b)) ∧ Wf w c T' m (σ.set n o) s := by
  let T' : TM := fun a => match tags a with
    | some b => some (.nam n b)
    | none => T a
  have e1 : ∀ a b, tags a = some b → T' a = some (.nam n b) := fun a b h => by show (match tags a with | some b => _ | none => _) = _; refine rwP h ?_; rfl
  have e2 : ∀ a, tags a = none → T' a = T a := fun a h => by show (match tags a with | some b => _ | none => _) = _; refine rwP h ?_; rfl
  have old : ∀ a t, T a = some t → T' a = some t := fun a t h => by
    cases q : tags a with
    | none => refine rwP (e2 a q) ?_; exact h
    | some b => rw [(h1 a b q).1] at h; injection h
  have new : ∀ a t, T' a = some t → T a = some t ∨ ∃ b, tags a = some b ∧ t = .nam n b := fun a t h => by
    cases q : tags a with
    | none => rw [e2 a q] at h; exact .inl h
    | some b => rw [e1 a b q] at h; obtain rfl := Option.some.inj h; exact .inr ⟨b, rfl, rfl⟩
  have x1 : Ext T T' := ⟨fun a o h => old a _ h, fun a k b h => old a _ h⟩
  refine ⟨T', x1, e1, ⟨?_, W.ok, old _ _ W.locL, ?_, fun a h => ?_, fun a x h => ?_⟩⟩
  · refine W.toW0.name x1 (fun a h => old a _ h) (fun a t h => ?_) hn (fun a a' h h' => ?_) (ho T' x1 e1)
    · rcases new a t h with h' | ⟨b, h', e'⟩
      · exact .inl h'
      · exact .inr ⟨(h1 a b h').1, b, e', (h1 a b h').2⟩
    · have k : ∀ a, T' a = some (.nam n true) → tags a = some true := fun a h => by
        rcases new a _ h with h | ⟨b, h, e⟩
        · exact absurd hn (W.nams a n true h)
        · cases e; exact h
      exact h2 a a' (k a h) (k a' h')
  · obtain ⟨mm, hns, hb⟩ := W.loc
    exact ⟨mm, hns, fun y cv e => (hb y cv e).mono x1 fun a z hz => old a _ hz⟩
  · rcases new a _ h with h | ⟨b, _, e⟩
    · exact W.onlyL a h
    · injection e
  · rcases new a _ h with h | ⟨b, _, e⟩
    · exact W.onlyC a x h
    · injection e
theorem four_cases {a N : Nat} (h1 : N ≤ a) (h2 : a < N + 4) : a = N ∨ a = N + 1 ∨ a = N + 2 ∨ a = N + 3 := by lia
theorem zip_new {n : Nat} {l1 : List CV} {a1 a2 : Addr} {k1 : Nat} {vs1 : List Value} {ys : Array Value} {o : CObj} {Qr Er : Value → Shared → Prop} (W : Wf w c T m σ s) (g1 : T a1 = some (.frz (tupO vs1 k1))) (v1 : VX T l1 vs1) (t2 : s.heap.IsList a2 ys) (hn : σ n = none)
    (own : ∀ T' d h', Ext T T' → d.a2 = a2 → ZipH T' n l1 0 d h' → Own w T' n o h')
    (hq : ∀ T' s' a, Wf w c T' m (σ.set n o) s' → Ext T T' → VR T' (.ref n) (.ref a) → Qr (.ref a) s') : wpAny (model c.prog w) c.A (PySem.call (.type "zip") [.ref a1, .ref a2] []) Qr Er s := by
  have t1 : IsTup s.heap a1 vs1.toArray := ⟨_, W.frz _ _ g1, rfl, k1, rfl⟩
  refine callType_new F.called_zip (by decide) (F.typeCall_zip_2 _ _) (F.newCall_zip_2 _ _) (fun obj => F.args_object_init_3 obj _ _) F.entry_zip_new (mixNew a1 a2 vs1.toArray ys) ⟨t1, t2, ?_⟩
  have z1 : (zm1 s.heap a1).objs.size = s.heap.objs.size + 1 := Heap.size_push ..
  have z2 : (zm2 s.heap a1 a2).objs.size = s.heap.objs.size + 2 := by rewrite [Heap.size_push]; refine rwP z1 ?_; rfl
  have z3 : (zm3 s.heap a1 a2).objs.size = s.heap.objs.size + 3 := by rewrite [Heap.size_push]; refine rwP z2 ?_; rfl
  have z4 : (zm4 s.heap a1 a2).objs.size = s.heap.objs.size + 4 := by rewrite [Heap.size_push]; refine rwP z3 ?_; rfl
  have e5 : (zm5 s.heap a1 a2).get? (zm4 s.heap a1 a2).objs.size = some _ := Heap.get?_push_size _ rfl
  have e4 : (zm5 s.heap a1 a2).get? (zm3 s.heap a1 a2).objs.size = some _ := Heap.get?_push_of_some _ (Heap.get?_push_size _ rfl)
  have e3 : (zm5 s.heap a1 a2).get? (zm2 s.heap a1 a2).objs.size = some _ := Heap.get?_push_of_some _ (Heap.get?_push_of_some _ (Heap.get?_push_size _ rfl))
  have e2 : (zm5 s.heap a1 a2).get? (zm1 s.heap a1).objs.size = some _ := Heap.get?_push_of_some _ (Heap.get?_push_of_some _ (Heap.get?_push_of_some _ (Heap.get?_push_size _ rfl)))
  have e1 : (zm5 s.heap a1 a2).get? s.heap.objs.size = some _ := Heap.get?_push_of_some _ (Heap.get?_push_of_some _ (Heap.get?_push_of_some _ (Heap.get?_push_of_some _ (Heap.get?_push_size _ rfl))))
  have hkeep : ∀ b o, s.heap.get? b = some o → (zm5 s.heap a1 a2).get? b = some o := fun b o e => Heap.get?_push_of_some _ (Heap.get?_push_of_some _ (Heap.get?_push_of_some _ (Heap.get?_push_of_some _ (Heap.get?_push_of_some _ e))))
  rw [z4] at e5 ⊢
  rw [z2, z3] at e5
  rw [z3] at e4
  rw [z2, z1] at e3
  rw [z1] at e2
  have W1 : Wf w c T m σ { s with heap := zm5 s.heap a1 a2 } := W.keeps (t := s.toks) hkeep
  have lt1 : a1 < s.heap.objs.size := t1.elim fun o h => Heap.lt_size h.1
  have lt2 : a2 < s.heap.objs.size := t2.elim fun o h => Heap.lt_size h.1
  have fr : ∀ a, s.heap.objs.size ≤ a → T a = none := fun a ha => W.toW0.fresh' (Heap.get?_none_of_le ha)
  clear hkeep z1 z2 z3 z4 t1 t2 W
  generalize zm5 s.heap a1 a2 = hN at *
  generalize s.heap.objs.size = N at *
  have D : ZipApart (N + 4) (N + 2) (N + 3) N (N + 1) a1 a2 := zipApart_new lt1 lt2
  obtain ⟨T', x', ht, W'⟩ := W1.nameMany (n := n) (o := o) (fun a => if a = N + 4 then some true else if N ≤ a ∧ a < N + 4 then some false else none) hn (fun a b h => by
      split at h
      · rename_i e; subst e; exact ⟨fr _ (Nat.le_add_right _ _), _, e5⟩
      · split at h
        · rename_i e
          refine ⟨fr _ e.1, ?_⟩
          rcases four_cases e.1 e.2 with rfl | rfl | rfl | rfl
          · exact ⟨_, e1⟩
          · exact ⟨_, e2⟩
          · exact ⟨_, e3⟩
          · exact ⟨_, e4⟩
        · injection h) (fun a a' h h' => by
      have k : ∀ a, (if a = N + 4 then some true else if N ≤ a ∧ a < N + 4 then some false else (none : Option Bool)) = some true → a = N + 4 := fun a h => by
        split at h
        · assumption
        · split at h <;> (first | (injection h; done) | cases h)
      refine rwP (k a h) ?_; refine rwP (k a' h') ?_; rfl) (fun T' x' ht => by
      have f : ∀ i, i < 4 → T' (N + i) = some (.nam n false) := fun i h2 => ht _ false (by refine rwP (if_neg (Nat.ne_of_lt (Nat.add_lt_add_left h2 N))) ?_; refine rwP (if_pos ⟨Nat.le_add_right _ _, Nat.add_lt_add_left h2 N⟩) ?_; rfl)
      exact own T' ⟨N + 4, N + 2, N + 3, N, N + 1, a1, a2, vs1, k1, .none, .none⟩ hN x' rfl ⟨ht _ _ (if_pos rfl), f 2 (by decide), f 3 (by decide), f 0 (by decide), f 1 (by decide), D, e5, e3, e4, ⟨_, e1, rfl, rfl⟩, ⟨_, e2, rfl, rfl⟩, x'.frz _ _ g1, v1.mono x'⟩)
  exact ⟨⟨_, e5, rfl⟩, hq T' { s with heap := hN } (N + 4) W' x' (VR.ref (ht _ _ (if_pos rfl)))⟩
theorem CallV.zip {n : Nat} {l1 l2 : List CV} {Q : CV → Lm → CH → Prop} (hn : σ n = none) (q : Q (.ref n) m (σ.set n (.zit l1 l2 0))) : CallV w c (.top (.type "zip")) [.tup l1, .fl l2] m σ Q X :=
  .prim (fun _ _ => .type) fun T s vs W ra => by
    obtain ⟨u1, vs', rfl, r1, ra⟩ := ra.cons_inv
    obtain ⟨u2, vs'', rfl, r2, ra⟩ := ra.cons_inv
    cases ra.nil_inv
    obtain ⟨a1, k1, vs1, rfl, g1, v1⟩ := r1.tup_inv
    obtain ⟨a2, k2, vs2, rfl, g2, v2⟩ := r2.fl_inv
    exact ⟨fun Qr Er hp hq _ => of <| zip_new (o := .zit l1 l2 0) W g1 v1 ⟨_, W.frz _ _ g2, rfl, k2, rfl⟩ hn (fun T' d h' x e Z => ⟨d, vs2, k2, Z, e ▸ x.frz _ _ g2, v2.mono x⟩) fun T' s' a W' x' r => hq (.ref n) m _ T' s' (.ref a) q W' x' r⟩
theorem CallV.zipN {n j : Nat} {l1 l2 : List CV} {Q : CV → Lm → CH → Prop} (hj : σ j = some (.list l2)) (hn : σ n = none) (q : Q (.ref n) m (σ.set n (.nzit l1 j 0))) : CallV w c (.top (.type "zip")) [.tup l1, .ref j] m σ Q X :=
  .prim (fun _ _ => .type) fun T s vs W ra => by
    obtain ⟨u1, vs', rfl, r1, ra⟩ := ra.cons_inv
    obtain ⟨u2, vs'', rfl, r2, ra⟩ := ra.cons_inv
    cases ra.nil_inv
    obtain ⟨a1, k1, vs1, rfl, g1, v1⟩ := r1.tup_inv
    obtain ⟨a2, vs2, k2, rfl, g2, ho2, v2⟩ := W.listAt r2 hj
    exact ⟨fun Qr Er hp hq _ => of <| zip_new (o := .nzit l1 j 0) W g1 v1 ⟨_, ho2, rfl, k2, rfl⟩ hn (fun T' d h' x e Z => ⟨d, Z, e ▸ x.nam _ _ _ g2⟩) fun T' s' a W' x' r => hq (.ref n) m _ T' s' (.ref a) q W' x' r⟩
end
end Mine
end
section
namespace Mine
noncomputable def Src (w : World) (tg : Expr) (n : Nat) (C : CH → Prop) : List CV → CObj → Prop
  | [], o => ∀ (c : Cx) (σ : CH) (T : TM) (m : Lm) (s : Shared) (v : Value), σ n = some o → C σ → Wf w c T m σ s → VR T (.ref n) v → ∀ (Qr : Option Value → Shared → Prop) (Er : Value → Shared → Prop),
      (∀ s', Wf w c T m (σ.set n .junk) s' → Qr none s') → wpAny (model c.prog w) c.A (pyNext v) Qr Er s
  | x :: l, o => ∃ o', Src w tg n C l o' ∧ ∀ (c : Cx) (σ : CH) (T : TM) (m : Lm) (s : Shared) (v : Value), σ n = some o → C σ → Wf w c T m σ s → VR T (.ref n) v → ∀ (Qr : Option Value → Shared → Prop) (Er : Value → Shared → Prop),
      (∀ u s1, (∀ (K : Shared → Prop) (Er : Value → Shared → Prop), (∀ T' s', Wf w c T' m (σ.set n o') s' → Ext T T' → VR T' x u → K s') → wpAny (model c.prog w) c.A (letOwnedTupleGo tg v u) (fun _ s' => K s') Er s1) → Qr (some u) s1) → wpAny (model c.prog w) c.A (pyNext v) Qr Er s
section
variable {w : World} {c : Cx} {T : TM} {s : Shared} {m : Lm} {σ : CH} {X : CH → Prop}
theorem Wf.writeS (W : Wf w c T m σ s) {n : Nat} {o : CObj} {h' : Heap} {tk : Nat} (hk : ∀ a ob, (∀ b, T a ≠ some (.nam n b)) → s.heap.get? a = some ob → T a ≠ none → h'.get? a = some ob) (hal : ∀ a b, T a = some (.nam n b) → ∃ ob, h'.get? a = some ob)
    (hn : Own w T n o h') : Wf w c T m (σ.set n o) { s with heap := h', toks := tk } where
  toW0 := W.toW0.write (n := n) (fun a ob h1 h2 e => hk a ob h2 e h1) hal hn rfl rfl
  ok := W.ok
  locL := W.locL
  loc := by
    refine hide fun Ph hPh => ?_
    obtain ⟨mm, ⟨o, es, ep, h, r⟩, hb⟩ := W.loc
    refine hPh ?_
    exact ⟨mm, ⟨o, es, ep, hk _ _ (fun b q => by rw [W.locL] at q; cases q) h (by refine rwP W.locL ?_; exact Option.some_ne_none _), r⟩, hb⟩
  onlyL := W.onlyL
  onlyC := W.onlyC
noncomputable def upL : Int → Nat → List CV
  | _, 0 => []
  | x, k + 1 => .int x :: upL (x + 1) k
theorem src_rit {tg : Expr} {n : Nat} (ht : ∀ v u, letOwnedTupleGo tg v u = pure ()) : ∀ (k : Nat) (x : Int), Src w tg n (fun _ => True) (upL x k) (.rit x k)
  | 0, x => fun c σ T m s v hn _ W r Qr Er hq => by
    obtain ⟨a, rfl, ha⟩ := r.ref_inv
    obtain ⟨it, h1, h2⟩ := W.own _ _ hn
    have := W.uniq a it n ha h1; subst this
    refine pyNextStop ⟨_, h2, rfl⟩ F.slot_range_iterator_next (fun Q' E' hS => rngStop W.ok.handled h2 (by simp) hS) fun h' he ⟨ob, hob⟩ => hq _ ?_
    exact W.write (tk := s.toks) (d := a) ⟨true, ha⟩ (fun b o hb e => he b o hb e) hob trivial
  | k + 1, x => ⟨.rit (x + 1) k, src_rit ht k (x + 1), fun c σ T m s v hn _ W r Qr Er hq => by
    obtain ⟨a, rfl, ha⟩ := r.ref_inv
    obtain ⟨it, h1, h2⟩ := W.own _ _ hn
    have := W.uniq a it n ha h1; subst this
    refine wpAny_pyNext_range_item h2 (by lia) fun h' hi hs => hq _ _ fun K Er hK => ?_
    rw [ht]
    have e : ((k + 1 : Nat) : Int) - 1 = k := by lia
    rw [e] at hi
    exact wpAny_pure (hK T _ (W.write (tk := s.toks + 1) (d := a) ⟨true, ha⟩ (fun b o hb e => (hs.2 b hb).trans e) hi ⟨a, ha, hi⟩) (.refl T) VR.int)⟩
theorem src_tit {tg : Expr} {n : Nat} (ht : ∀ v u, letOwnedTupleGo tg v u = pure ()) (l : List CV) : ∀ (r : List CV) (k : Nat), l.drop k = r → Src w tg n (fun _ => True) r (.tit l k)
  | [], k, hr => fun c σ T m s v hn _ W r Qr Er hq => by
    obtain ⟨a, rfl, ha⟩ := r.ref_inv
    obtain ⟨it, t, vs, kk, h1, h2, h3, h4⟩ := W.own _ _ hn
    have := W.uniq a it n ha h1; subst this
    have hx : vs.toArray[k]? = none := by
      have : l.length ≤ k := by have := congrArg List.length hr; simp at this; lia
      simp [h4.length, this]
    refine pyNextStop h2.typeIs slot_tupleiter_next (fun Q' E' hS => tupStop W.ok.handled h2 ⟨_, W.frz _ _ h3, rfl, kk, rfl⟩ hx hS) fun h' he ⟨ob, hob⟩ => hq _ ?_
    exact W.write (tk := s.toks) (d := a) ⟨true, ha⟩ (fun b o hb e => he b o hb e) hob trivial
  | x :: r, k, hr => ⟨.tit l (k + 1), src_tit ht l r (k + 1) (by have := congrArg List.tail hr; simpa using this), fun c σ T m s v hn _ W rr Qr Er hq => by
    obtain ⟨a, rfl, ha⟩ := rr.ref_inv
    obtain ⟨it, t, vs, kk, h1, h2, h3, h4⟩ := W.own _ _ hn
    have := W.uniq a it n ha h1; subst this
    have hx : l[k]? = some x := by
      have := congrArg List.head? hr
      simpa [List.head?_drop] using this
    obtain ⟨u, eu, ru⟩ := h4.get hx
    refine next_tuple_item h2 ⟨_, W.frz _ _ h3, rfl, kk, rfl⟩ (x := u) (by simpa using eu) fun h' hi hs => hq _ _ fun K Er hK => ?_
    rw [ht]
    refine hide fun Ph hPh => ?_
    obtain ⟨oi, hoi, hri⟩ := id hi
    refine hPh ?_
    exact wpAny_pure (hK T _ (W.write (tk := s.toks) (d := a) ⟨true, ha⟩ (fun b o hb e => (hs.2 b hb).trans e) hoi ⟨a, t, vs, kk, ha, hi, h3, h4⟩) (.refl T) ru)⟩
theorem src_lit {tg : Expr} {n : Nat} (ht : ∀ v u, letOwnedTupleGo tg v u = pure ()) (l : List CV) : ∀ (r : List CV) (k : Nat), l.drop k = r → Src w tg n (fun _ => True) r (.lit l k)
  | [], k, hr => fun c σ T m s v hn _ W r Qr Er hq => by
    obtain ⟨a, rfl, ha⟩ := r.ref_inv
    obtain ⟨it, t, vs, kk, h1, h2, h3, h4⟩ := W.own _ _ hn
    have := W.uniq a it n ha h1; subst this
    have hx : vs.toArray[k]? = none := by
      have : l.length ≤ k := by have := congrArg List.length hr; simp at this; lia
      simp [h4.length, this]
    refine pyNextStop h2.typeIs slot_listiter_next (fun Q' E' hS => lstStop W.ok.handled h2 ⟨_, W.frz _ _ h3, rfl, kk, rfl⟩ hx hS) fun h' he ⟨ob, hob⟩ => hq _ ?_
    exact W.write (tk := s.toks) (d := a) ⟨true, ha⟩ (fun b o hb e => he b o hb e) hob trivial
  | x :: r, k, hr => ⟨.lit l (k + 1), src_lit ht l r (k + 1) (by have := congrArg List.tail hr; simpa using this), fun c σ T m s v hn _ W rr Qr Er hq => by
    obtain ⟨a, rfl, ha⟩ := rr.ref_inv
    obtain ⟨it, t, vs, kk, h1, h2, h3, h4⟩ := W.own _ _ hn
    have := W.uniq a it n ha h1; subst this
    have hx : l[k]? = some x := by
      have := congrArg List.head? hr
      simpa [List.head?_drop] using this
    obtain ⟨u, eu, ru⟩ := h4.get hx
    refine wpAny_pyNext_list_item h2 ⟨_, W.frz _ _ h3, rfl, kk, rfl⟩ (x := u) (by simpa using eu) fun h' hi hs => hq _ _ fun K Er hK => ?_
    rw [ht]
    refine hide fun Ph hPh => ?_
    obtain ⟨oi, hoi, hri⟩ := id hi
    refine hPh ?_
    exact wpAny_pure (hK T _ (W.write (tk := s.toks) (d := a) ⟨true, ha⟩ (fun b o hb e => (hs.2 b hb).trans e) hoi ⟨a, t, vs, kk, ha, hi, h3, h4⟩) (.refl T) ru)⟩
theorem src_nit {tg : Expr} {n j : Nat} (ht : ∀ v u, letOwnedTupleGo tg v u = pure ()) (l : List CV) : ∀ (r : List CV) (k : Nat), l.drop k = r → Src w tg n (fun σ => σ j = some (.list l)) r (.nit j k)
  | [], k, hr => fun c σ T m s v hn hj W r Qr Er hq => by
    obtain ⟨a, rfl, ha⟩ := r.ref_inv
    obtain ⟨it, t, h1, h2, h3⟩ := W.own _ _ hn
    have := W.uniq a it n ha h1; subst this
    obtain ⟨t', vs, kk, h5, h6, h4⟩ := W.own _ _ hj
    have := W.uniq t t' j h3 h5; subst this
    have hx : vs.toArray[k]? = none := by
      have : l.length ≤ k := by have := congrArg List.length hr; simp at this; lia
      simp [h4.length, this]
    refine pyNextStop h2.typeIs slot_listiter_next (fun Q' E' hS => lstStop W.ok.handled h2 ⟨_, h6, rfl, kk, rfl⟩ hx hS) fun h' he ⟨ob, hob⟩ => hq _ ?_
    exact W.write (tk := s.toks) (d := a) ⟨true, ha⟩ (fun b o hb e => he b o hb e) hob trivial
  | x :: r, k, hr => ⟨.nit j (k + 1), src_nit ht l r (k + 1) (by have := congrArg List.tail hr; simpa using this), fun c σ T m s v hn hj W rr Qr Er hq => by
    obtain ⟨a, rfl, ha⟩ := rr.ref_inv
    obtain ⟨it, t, h1, h2, h3⟩ := W.own _ _ hn
    have := W.uniq a it n ha h1; subst this
    obtain ⟨t', vs, kk, h5, h6, h4⟩ := W.own _ _ hj
    have := W.uniq t t' j h3 h5; subst this
    have hx : l[k]? = some x := by
      have := congrArg List.head? hr
      simpa [List.head?_drop] using this
    obtain ⟨u, eu, ru⟩ := h4.get hx
    refine wpAny_pyNext_list_item h2 ⟨_, h6, rfl, kk, rfl⟩ (x := u) (by simpa using eu) fun h' hi hs => hq _ _ fun K Er hK => ?_
    rw [ht]
    refine hide fun Ph hPh => ?_
    obtain ⟨oi, hoi, hri⟩ := id hi
    refine hPh ?_
    exact wpAny_pure (hK T _ (W.write (tk := s.toks) (d := a) ⟨true, ha⟩ (fun b o hb e => (hs.2 b hb).trans e) hoi ⟨a, t, ha, hi, h3⟩) (.refl T) ru)⟩
end
end Mine
end
section
namespace Mine
section
variable {prog : Program} {w : World} {A : Around} {E : Value → Shared → Prop} {s : Shared}
theorem lstNextEnd {it t : Addr} {i : Nat} {items : Array Value} {Q : Value → Shared → Prop} (hh : A.handled = none) (hit : s.heap.IsListIter it t i) (ht : s.heap.IsList t items) (hx : items[i]? = none)
    (hE : Stops A E s it) : wpAny (model prog w) A (Builtin.SmallTypes.nextOf (.ref it)) Q E s := by
  exact wpAny_bind (wpAny_callSpecial?_slot (name := Str.ofString "__next__") hit.typeIs slot_listiter_next (lstStop hh hit ht hx hE))
theorem mixEnd2 {z TI TO i1 i2 l1 l2 : Addr} {k1 k2 : Nat} {xs ys : Array Value} {a b x : Value} {Q : Option Value → Shared → Prop} (hh : A.handled = none) (D : ZipApart z TI TO i1 i2 l1 l2)
    (hz : IsZip s.heap z TI TO .none) (hTI : IsPair s.heap TI (.ref i1) (.ref i2)) (hTO : IsPair s.heap TO a b)
    (h1 : IsTupIter s.heap i1 l1 k1) (hl1 : IsTup s.heap l1 xs) (hx : xs[k1]? = some x) (h2 : s.heap.IsListIter i2 l2 k2) (hl2 : s.heap.IsList l2 ys) (hy : ys[k2]? = none)
    (hQ : ∀ h', (∃ o, h'.get? z = some o) → (∃ o, h'.get? TO = some o) → (∃ o, h'.get? i1 = some o) → (∃ o, h'.get? i2 = some o) → (∀ c o, c ≠ z → c ≠ TO → c ≠ i1 → c ≠ i2 → s.heap.get? c = some o → h'.get? c = some o) → Q none { s with heap := h' }) : wpAny (model prog w) A (pyNext (.ref z)) Q E s := by
  have hT : s.TypeIs (.ref z) "zip" := ⟨_, hz, rfl⟩
  refine wpAny_bind (wpAny_attempt (wpAny_callSpecial?_slot (name := Str.ofString "__next__") hT F.slot_zip_next (wpAny_call_entry F.slot_zip_next hT F.entry_zip_next ?_ (F.args_zip_next_1 _))))
  show wpAny _ _ (field (.ref z) 2 >>= _) _ _ _
  refine wpAny_bind (wpAny_field hz rfl (x := .bool false) rfl ?_)
  show wpAny _ _ (field (.ref z) 3 >>= _) _ _ _
  refine wpAny_bind (wpAny_field hz rfl (x := .ref TI) rfl (wpAny_bind (wpAny_seqItems hTI rfl ?_)))
  show wpAny _ _ (Builtin.SmallTypes.ownedTupleIsFree (.ref z) >>= _) _ _ _
  refine wpAny_bind ?_
  refine wpAny_bind (wpAny_field hz rfl (x := .none) rfl (wpAny_pure ?_))
  refine wpAny_bind (wpAny_rule (wpAny_bind (wpAny_field hz rfl (x := .ref TO) rfl (wpAny_bind (wpAny_setField_rec hz (by simp) fun h₁ hz₁ hs₁ => ?_)))))
  replace hz₁ : IsZip h₁ z TI TO .ellipsis := hz₁
  refine wpAny_bind ?_
  simp only [List.zipIdx_cons, List.zipIdx_nil, List.forIn_cons, List.forIn_nil]
  refine wpAny_bind (wpAny_bind (wpAny_onRaise ?_))
  show wpAny _ _ (Builtin.SmallTypes.nextOf (.ref i1) >>= _) _ _ _
  refine wpAny_bind (tupNextOf (IsTupIter.eb h1 hs₁.extBut D.i1z) (hl1.extBut hs₁.extBut D.l1z) hx fun h₂ h1₂ hs₂ => wpAny_pure ?_)
  have hTO₂ : IsPair h₂ TO a b := hs₂.extBut _ _ D.TOi1 (hs₁.extBut _ _ D.TOz hTO)
  refine wpAny_bind (wpAny_seqItems hTO₂ rfl (wpAny_bind (wpAny_updateSeq_pair hTO₂ fun h₃ hTO₃ hs₃ => ?_)))
  replace hTO₃ : IsPair h₃ TO x b := hTO₃
  refine wpAny_bind (wpAny_letGo (wpAny_pure ?_))
  refine wpAny_bind (wpAny_bind (wpAny_onRaise ?_))
  show wpAny _ _ (Builtin.SmallTypes.nextOf (.ref i2) >>= _) _ _ _
  have g2 := ((h2.extBut hs₁.extBut D.i2z).extBut hs₂.extBut D.i12.symm).extBut hs₃.extBut D.TOi2.symm
  refine wpAny_bind (lstNextEnd hh g2 (((hl2.extBut hs₁.extBut D.l2z).extBut hs₂.extBut D.l2i1).extBut hs₃.extBut D.l2TO) hy fun h₄ e hs₄ hal he => ?_)
  obtain ⟨oe, hoe, hce⟩ := he
  have hz₄ : IsZip h₄ z TI TO .ellipsis := hs₄ _ _ D.i2z.symm (hs₃.extBut _ _ D.TOz.symm (hs₂.extBut _ _ D.i1z.symm hz₁))
  have hez : e ≠ z := fun x => by subst x; rw [hz₄] at hoe; obtain rfl := Option.some.inj hoe; simp at hce
  refine wpAny_setField_rec hz₄ (by simp) fun h₅ hz₅ hs₅ => ?_
  refine wpAny_bind (wpAny_isInstance (T := "StopIteration") (b := true) ⟨oe, hs₅.extBut _ _ hez hoe, hce⟩ isSubtype_stop (wpAny_pure ?_))
  refine hide fun Ph hPh => ?_
  obtain ⟨oi, hoi⟩ := hal
  obtain ⟨o1, ho1, _⟩ := h1₂
  refine hPh ?_
  exact hQ h₅ ⟨_, hz₅⟩ ⟨_, hs₅.extBut _ _ D.TOz (hs₄ _ _ D.TOi2 hTO₃)⟩ ⟨o1, hs₅.extBut _ _ D.i1z (hs₄ _ _ D.i12 (hs₃.extBut _ _ D.TOi1.symm ho1))⟩ ⟨oi, hs₅.extBut _ _ D.i2z hoi⟩
    fun c o c1 c2 c3 c4 x => hs₅.extBut _ _ c1 (hs₄ _ _ c4 (hs₃.extBut _ _ c2 (hs₂.extBut _ _ c3 (hs₁.extBut _ _ c1 x))))
end
noncomputable def pairsC (l1 l2 : List CV) : List CV := (l1.zip l2).map fun p => .tup [p.1, p.2]
theorem pairs_end {l1 l2 : List CV} {k : Nat} (h : (pairsC l1 l2).drop k = []) : l1.length ≤ k ∨ l2.length ≤ k := by
  have := congrArg List.length h
  simp [pairsC] at this; lia
theorem pairs_item {l1 l2 : List CV} {k : Nat} {p : CV} {r : List CV} (h : (pairsC l1 l2).drop k = p :: r) : ∃ c1 c2, l1[k]? = some c1 ∧ l2[k]? = some c2 ∧ p = .tup [c1, c2] := by
  have : (pairsC l1 l2)[k]? = some p := by
    have := congrArg List.head? h
    simpa [List.head?_drop] using this
  unfold pairsC at this
  rw [List.getElem?_map, Option.map_eq_some_iff] at this
  obtain ⟨⟨c1, c2⟩, e, rfl⟩ := this
  exact ⟨c1, c2, (List.getElem?_zip_eq_some.mp e).1, (List.getElem?_zip_eq_some.mp e).2, rfl⟩
theorem pairs_next {l1 l2 : List CV} {k : Nat} {p : CV} {r : List CV} (h : (pairsC l1 l2).drop k = p :: r) : (pairsC l1 l2).drop (k + 1) = r := by
  have := congrArg List.tail h; simpa using this
section
variable {w : World} {c : Cx} {T : TM} {s : Shared} {m : Lm} {σ : CH} {n : Nat} {l1 l2 : List CV} {k : Nat} {d : ZD}
theorem Wf.zipW (W : Wf w c T m σ s) (Z : ZipH T n l1 k d s.heap) {h' : Heap} {o : CObj} (hkk : ∀ c o, c ≠ d.z → c ≠ d.TO → c ≠ d.i1 → c ≠ d.i2 → s.heap.get? c = some o → h'.get? c = some o)
    (o1 : ∃ o, h'.get? d.z = some o) (o2 : ∃ o, h'.get? d.TO = some o) (o3 : ∃ o, h'.get? d.i1 = some o) (o4 : ∃ o, h'.get? d.i2 = some o) (hn : Own w T n o h') : Wf w c T m (σ.set n o) { s with heap := h' } :=
  W.writeS (tk := s.toks) (fun c' ob h e _ => hkk c' ob (fun q => h true (q ▸ Z.tz)) (fun q => h false (q ▸ Z.tTO)) (fun q => h false (q ▸ Z.t1)) (fun q => h false (q ▸ Z.t2)) e) (fun c' b h =>
    (Classical.em (c' = d.z)).elim (fun q => q ▸ o1) fun q1 => (Classical.em (c' = d.TO)).elim (fun q => q ▸ o2) fun q2 => (Classical.em (c' = d.i1)).elim (fun q => q ▸ o3) fun q3 => (Classical.em (c' = d.i2)).elim (fun q => q ▸ o4) fun q4 =>
      (W.alive c' _ h).elim fun ob e => ⟨ob, hkk c' ob q1 q2 q3 q4 e⟩) hn
theorem zip_end (W : Wf w c T m σ s) (Z : ZipH T n l1 k d s.heap) {vs2 : List Value} (t2 : s.heap.IsList d.a2 vs2.toArray) (f2 : vs2.length = l2.length) (hlen : l1.length ≤ k ∨ l2.length ≤ k) {Qr : Option Value → Shared → Prop} {Er : Value → Shared → Prop}
    (hq : ∀ s', Wf w c T m (σ.set n .junk) s' → Qr none s') : wpAny (model c.prog w) c.A (pyNext (.ref d.z)) Qr Er s := by
  have t1 : IsTup s.heap d.a1 d.vs1.toArray := ⟨_, W.frz _ _ Z.ta1, rfl, d.k1, rfl⟩
  have f1 := Z.v1.length
  rcases Nat.lt_or_ge k l1.length with hc | hc
  · have hx : d.vs1.toArray[k]? = some (d.vs1[k]'(f1 ▸ hc)) := by simp [f1 ▸ hc]
    have hy : vs2.toArray[k]? = none := by
      have := hlen.resolve_left (Nat.not_le_of_lt hc)
      simp [f2, this]
    exact mixEnd2 W.ok.handled Z.D Z.hz Z.hTI Z.hTO Z.h1 t1 hx Z.h2 t2 hy fun h' o1 o2 o3 o4 hkk => hq _ (W.zipW Z hkk o1 o2 o3 o4 trivial)
  · have hx : d.vs1.toArray[k]? = none := by simp [f1, hc]
    exact mixEnd (k2 := k) (ys := vs2.toArray) W.ok.handled Z.D Z.hz Z.hTI Z.hTO Z.h1 t1 hx fun h' ho hkk ho1 => hq _ (W.zipW Z (fun c o c1 _ c3 _ e => hkk c o c1 c3 e) ho ⟨_, hkk _ _ Z.D.TOz Z.D.TOi1 Z.hTO⟩ ho1 (Z.h2.elim fun o e => ⟨o, hkk _ _ Z.D.i2z Z.D.i12.symm e.1⟩) trivial)
theorem zip_item {es : List Expr} {k0 : Nat} {pos : Pos} {c1 c2 : CV} {u2 : Value} {o' : CObj} (W : Wf w c T m σ s) (Z : ZipH T n l1 k d s.heap) {vs2 : List Value} (t2 : s.heap.IsList d.a2 vs2.toArray) (g1 : l1[k]? = some c1) (e2 : vs2[k]? = some u2) (r2 : VR T c2 u2)
    (own : ∀ d' h', d'.a2 = d.a2 → ZipH T n l1 (k + 1) d' h' → Own w T n o' h') {Qr : Option Value → Shared → Prop} {Er : Value → Shared → Prop}
    (hq : ∀ u s1, (∀ (K : Shared → Prop) (Er : Value → Shared → Prop), (∀ T' s', Wf w c T' m (σ.set n o') s' → Ext T T' → VR T' (.tup [c1, c2]) u → K s') → wpAny (model c.prog w) c.A (letOwnedTupleGo (.Tuple es k0 pos) (.ref d.z) u) (fun _ s' => K s') Er s1) → Qr (some u) s1) : wpAny (model c.prog w) c.A (pyNext (.ref d.z)) Qr Er s := by
  have t1 : IsTup s.heap d.a1 d.vs1.toArray := ⟨_, W.frz _ _ Z.ta1, rfl, d.k1, rfl⟩
  obtain ⟨u1, e1, r1⟩ := Z.v1.get g1
  refine mixNext Z.D Z.hz Z.hTI Z.hTO Z.h1 Z.h2 t1 t2 (x := u1) (y := u2) (by simpa using e1) (by simpa using e2) fun h' g1 g2 g3 g4 g5 hkk => hq _ _ fun K Er hK => ?_
  refine wpAny_letOwnedTupleGo_zip g1 fun h'' b1 hs => ?_
  have hpair : IsPair h'' s.heap.objs.size u1 u2 := (hs.2 _ (Nat.ne_of_gt (Heap.lt_size Z.hz))).trans g5
  have keep : ∀ c' o, c' ≠ d.z → c' ≠ d.TO → c' ≠ d.i1 → c' ≠ d.i2 → s.heap.get? c' = some o → h''.get? c' = some o := fun c' o c1 c2 c3 c4 e => (hs.2 _ c1).trans (hkk c' o c1 c2 c3 c4 e)
  have q1 : IsTupIter h'' d.i1 d.a1 (k + 1) := g3.elim fun o g => ⟨o, (hs.2 _ Z.D.i1z).trans g.1, g.2⟩
  have q2 : h''.IsListIter d.i2 d.a2 (k + 1) := g4.elim fun o g => ⟨o, (hs.2 _ Z.D.i2z).trans g.1, g.2⟩
  have q3 : IsPair h'' d.TO u1 u2 := (hs.2 _ Z.D.TOz).trans g2
  have W2 : Wf w c T m (σ.set n o') { s with heap := h'' } := W.zipW Z keep ⟨_, b1⟩ ⟨_, q3⟩ (q1.elim fun o g => ⟨o, g.1⟩) (q2.elim fun o g => ⟨o, g.1⟩)
    (own { d with x := u1, y := u2 } h'' rfl ⟨Z.tz, Z.tTI, Z.tTO, Z.t1, Z.t2, Z.D, b1, keep _ _ Z.D.TIz Z.D.TITO Z.D.TIi1 Z.D.TIi2 Z.hTI, q3, q1, q2, Z.ta1, Z.v1⟩)
  have hfr : T s.heap.objs.size = none := W.toW0.fresh
  have x3 : Ext T (T.put s.heap.objs.size (.frz (tupO [u1, u2] 0))) := Ext.put hfr
  exact hK _ _ (W2.freeze (a := s.heap.objs.size) (o := tupO [u1, u2] 0) hfr hpair) x3 (VR.tup (TM.put_self ..) ((VX.cons r1 (VX.cons r2 .nil)).mono x3))
end
section
variable {w : World}
theorem src_zit {es : List Expr} {k0 : Nat} {pos : Pos} {n : Nat} (l1 l2 : List CV) : ∀ (r : List CV) (k : Nat), (pairsC l1 l2).drop k = r → k ≤ l2.length → Src w (.Tuple es k0 pos) n (fun _ => True) r (.zit l1 l2 k)
  | [], k, hr, hk2 => fun c σ T m s v hn _ W r Qr Er hq => by
    obtain ⟨a, rfl, ha⟩ := r.ref_inv
    obtain ⟨d, vs2, k2, Z, ta2, v2⟩ := W.own _ _ hn
    have := W.uniq a d.z n ha Z.tz; subst this
    exact zip_end W Z ⟨_, W.frz _ _ ta2, rfl, k2, rfl⟩ v2.length (pairs_end hr) hq
  | p :: r, k, hr, hk2 => by
    obtain ⟨c1, c2, g1, g2, rfl⟩ := pairs_item hr
    refine ⟨.zit l1 l2 (k + 1), src_zit l1 l2 r (k + 1) (pairs_next hr) (List.getElem?_eq_some_iff.mp g2).1, fun c σ T m s v hn _ W rr Qr Er hq => ?_⟩
    obtain ⟨a, rfl, ha⟩ := rr.ref_inv
    obtain ⟨d, vs2, k2, Z, ta2, v2⟩ := W.own _ _ hn
    have := W.uniq a d.z n ha Z.tz; subst this
    obtain ⟨u2, e2, r2⟩ := v2.get g2
    exact zip_item (o' := .zit l1 l2 (k + 1)) W Z ⟨_, W.frz _ _ ta2, rfl, k2, rfl⟩ g1 e2 r2 (fun d' h' e Z' => ⟨d', vs2, k2, Z', e ▸ ta2, v2⟩) hq
theorem src_nzit {es : List Expr} {k0 : Nat} {pos : Pos} {n j : Nat} (l1 l2 : List CV) : ∀ (r : List CV) (k : Nat), (pairsC l1 l2).drop k = r → k ≤ l2.length → Src w (.Tuple es k0 pos) n (fun σ => σ j = some (.list l2)) r (.nzit l1 j k)
  | [], k, hr, hk2 => fun c σ T m s v hn hj W r Qr Er hq => by
    obtain ⟨a, rfl, ha⟩ := r.ref_inv
    obtain ⟨d, Z, ta2⟩ := W.own _ _ hn
    have := W.uniq a d.z n ha Z.tz; subst this
    obtain ⟨a2', vs2, k2, gj, ho2, v2⟩ := W.own _ _ hj
    exact zip_end W Z ⟨_, W.uniq _ a2' j ta2 gj ▸ ho2, rfl, k2, rfl⟩ v2.length (pairs_end hr) hq
  | p :: r, k, hr, hk2 => by
    obtain ⟨c1, c2, g1, g2, rfl⟩ := pairs_item hr
    refine ⟨.nzit l1 j (k + 1), src_nzit l1 l2 r (k + 1) (pairs_next hr) (List.getElem?_eq_some_iff.mp g2).1, fun c σ T m s v hn hj W rr Qr Er hq => ?_⟩
    obtain ⟨a, rfl, ha⟩ := rr.ref_inv
    obtain ⟨d, Z, ta2⟩ := W.own _ _ hn
    have := W.uniq a d.z n ha Z.tz; subst this
    obtain ⟨a2', vs2, k2, gj, ho2, v2⟩ := W.own _ _ hj
    obtain ⟨u2, e2, r2⟩ := v2.get g2
    exact zip_item (o' := .nzit l1 j (k + 1)) W Z ⟨_, W.uniq _ a2' j ta2 gj ▸ ho2, rfl, k2, rfl⟩ g1 e2 r2 (fun d' h' e Z' => ⟨d', Z', e ▸ ta2⟩) hq
end
end Mine
end
section
namespace Mine
noncomputable def FV (w : World) (c : Cx) (tg : Expr) (body : List Stmt) (n : Nat) (C : CH → Prop) (Q : Fl → Lm → CH → Prop) (X : CH → Prop) : List CV → Lm → CH → Prop
  | [], m, σ => C σ ∧ ∀ σ', (∀ k, k ≠ n → σ' k = σ k) → Q .next m σ'
  | x :: l, m, σ => C σ ∧ ∀ o', AV w c tg x m (σ.set n o') (fun m1 σ1 => XVs w c body m1 σ1 (fun f m2 σ2 => match f with | .next => σ2 n = some o' ∧ FV w c tg body n C Q X l m2 σ2 | .ret cv => Q (.ret cv) m2 σ2) X) X
noncomputable def IterTo (w : World) (c : Cx) (cv : CV) (m : Lm) (σ : CH) (n : Nat) (σ' : CH) : Prop := ∀ (X : CH → Prop) T s v, Wf w c T m σ s → VR T cv v → J w c VR (pyIter v) T s (fun cv' m' σ'' => cv' = .ref n ∧ m' = m ∧ σ'' = σ') X
theorem codeI_whileLoop {prog : Program} {w : World} {A : Around} {env : Env} {s : Shared} {R : Result → Shared → Prop} {test body} (I : Nat → Shared → Prop)
    (turn : ∀ n s, I n s →
      wpI (model prog w) A (isTrue test env (eval test env)) (fun b s₂ =>
        if b then wpI (model prog w) A (execs body env) (fun f s₃ => match f with
            | .next | .cont => ∃ m, m < n ∧ I m s₃
            | .brk => R (.ok .next) s₃
            | .ret v => R (.ok (.ret v)) s₃) (notedBy (model prog w) A env fun e s' => R (.error e) s') s₂
        else R (.ok .next) s₂)
        (notedBy (model prog w) A env fun e s' => R (.error e) s') s)
    (n : Nat) (h : I n s) : codeI (model prog w) A (.whileLoop test body [] env) R s := by
  refine codeI_loop' rfl rfl I (fun n s hI => ?_) n h
  show wpI _ A ((whileTurn test body [] env).onRaise (fun x => do noteFrame x env; theTreesLotGoes x)) _ _ s
  refine wpI_noted ?_
  refine wpI_bind (wpI_mono (turn n s hI) (fun b s₂ h₂ => ?_) fun _ _ h' => h')
  induction b with
  | false =>
    simp only [Bool.false_eq_true, if_false] at h₂ ⊢
    rw [arm_execs_nil]
    exact wpI_bind (wpI_pure (wpI_pure h₂))
  | true =>
    simp only [if_true] at h₂ ⊢
    refine wpI_bind (wpI_mono h₂ (fun f s₃ h₃ => ?_) fun _ _ h' => h')
    induction f with
    | next => exact wpI_pure (.inl ⟨rfl, h₃⟩)
    | cont => exact wpI_pure (.inl ⟨rfl, h₃⟩)
    | brk => exact wpI_pure h₃
    | ret v => exact wpI_pure h₃
section
variable {w : World} {c : Cx} {T : TM} {s : Shared} {m : Lm} {σ : CH} {X : CH → Prop}
theorem J.forLoop {tg : Expr} {body : List Stmt} {n : Nat} {C : CH → Prop} {l : List CV} {o : CObj} {it : Value} {Q : Fl → Lm → CH → Prop} (W : Wf w c T m σ s) (hn : σ n = some o) (hs : Src w tg n C l o) (r : VR T (.ref n) it) (h : FV w c tg body n C Q X l m σ)
    (Qr : Flow → Shared → Prop) (Er : Value → Shared → Prop) (hp : PassesOwn (model c.prog w) c.A c.env Er)
    (hq : ∀ b m' σ' T' s' a, Q b m' σ' → Wf w c T' m' σ' s' → Ext T T' → FR T' b a → Qr a s')
    (he : ∀ m' σ' T' s' e, X σ' → Wf w c T' m' σ' s' → Ext T T' → ExcAt T' s'.heap (some c.L) e → Er e s') :
    codeI (model c.prog w) c.A (.forLoop tg it body [] c.env) (fun r s' => match r with | .ok f => Qr f s' | .error e => cameBackBy (model c.prog w) c.A c.env Er e s') s := by
  refine codeI_forLoop_any (fun k s' => ∃ l o m' σ' T', l.length = k ∧ Src w tg n C l o ∧ σ' n = some o ∧ FV w c tg body n C Q X l m' σ' ∧ Wf w c T' m' σ' s' ∧ Ext T T') (fun k s1 hI => ?_) l.length ⟨l, o, m, σ, T, rfl, hs, hn, h, W, .refl T⟩
  refine hide fun Ph hPh => ?_
  obtain ⟨l, o, m1, σ1, T1, hk, hs, hn, h, W1, x1⟩ := hI
  refine hPh ?_
  refine wpI_passesOwn hp ?_
  induction l with
  | nil =>
    refine of (hs c σ1 T1 m1 s1 it hn h.1 W1 (r.mono x1) _ _ fun s2 W2 => ?_)
    show wpI _ _ (execs [] c.env) _ _ s2
    rw [arm_execs_nil]
    exact wpI_pure (hq .next m1 _ T1 s2 .next (h.2 _ fun k hk => CH.set_ne _ _ hk) W2 x1 rfl)
  | cons x l =>
    refine hide fun Ph hPh => ?_
    obtain ⟨o', hs', hstep⟩ := hs
    obtain ⟨hC, h⟩ := h
    refine hPh ?_
    refine of (hstep c σ1 T1 m1 s1 it hn hC W1 (r.mono x1) _ _ fun u s2 hgo => ?_)
    refine of (hgo _ _ fun T3 s3 W3 x3 r3 => ?_)
    refine wpI_passesOwn hp ?_
    refine ((h o' T3 s3 u W3 r3)).run _ Er hp (fun _ m4 σ4 T4 s4 _ q4 W4 x4 _ => ?_) (fun m4 σ4 T4 s4 e q W4 x4 ex => he m4 σ4 T4 s4 e q W4 (x1.trans (x3.trans x4)) ex)
    refine wpI_passesOwn hp ?_
    refine (q4 T4 s4 W4).run _ Er hp (fun f m5 σ5 T5 s5 a q5 W5 x5 r5 => ?_) (fun m5 σ5 T5 s5 e q W5 x5 ex => he m5 σ5 T5 s5 e q W5 (x1.trans (x3.trans (x4.trans x5))) ex)
    induction f with
    | next =>
      subst r5
      exact ⟨l.length, by refine rwB hk ?_; refine rwP List.length_cons ?_; lia, l, o', m5, σ5, T5, rfl, hs', q5.1, q5.2, W5, x1.trans (x3.trans (x4.trans x5))⟩
    | ret cv =>
      obtain ⟨v, rfl, rv⟩ := r5
      exact hq (.ret cv) m5 σ5 T5 s5 _ q5 W5 (x1.trans (x3.trans (x4.trans x5))) ⟨v, rfl, rv⟩
theorem XV.for {tg iter : Expr} {body : List Stmt} {p : Pos} {Q : Fl → Lm → CH → Prop} (h : EV w c iter m σ (fun cv m1 σ1 => ∃ n σ2 C l o, IterTo w c cv m1 σ1 n σ2 ∧ σ2 n = some o ∧ Src w tg n C l o ∧ FV w c tg body n C Q X l m1 σ2) X)
    (hs : ∀ x, foldedSetIterable iter c.env x = Pure.pure x) : XV w c (.For tg iter body [] p) m σ Q X := fun T s W => by
  refine ⟨fun Qr Er hp hq he => wpI_For ?_ hs⟩
  refine (h T s W).run _ Er hp (fun cv m1 σ1 T1 s1 v q1 W1 x1 r1 => ?_) he
  refine hide fun Ph hPh => ?_
  obtain ⟨n, σ2, C, l, o, hi, hn, hsrc, hf⟩ := q1
  refine hPh ?_
  refine ((hi X T1 s1 v W1 r1).run _ Er hp (fun cv' m2 σ' T2 s2 it q2 W2 x2 r2 => ?_) (fun m2 σ2 T2 s2 e q W2 x2 ex => he m2 σ2 T2 s2 e q W2 (x1.trans x2) ex))
  refine hide fun Ph hPh => ?_
  obtain ⟨rfl, rfl, rfl⟩ := q2
  refine hPh ?_
  exact J.forLoop W2 hn hsrc r2 hf Qr Er hp (fun b m' σ' T' s' a q W' x r => hq b m' σ' T' s' a q W' (x1.trans (x2.trans x)) r) fun m' σ' T' s' e q W' x ex => he m' σ' T' s' e q W' (x1.trans (x2.trans x)) ex
noncomputable def LV (w : World) (c : Cx) (t : Expr) (body : List Stmt) (Q : Fl → Lm → CH → Prop) (X : CH → Prop) : Nat → Lm → CH → Prop
  | 0, m, σ => TV w c t m σ (fun b m1 σ1 => b = false ∧ Q .next m1 σ1) X
  | k + 1, m, σ => TV w c t m σ (fun b m1 σ1 => match b with
      | false => Q .next m1 σ1
      | true => XVs w c body m1 σ1 (fun f m2 σ2 => match f with | .next => LV w c t body Q X k m2 σ2 | .ret cv => Q (.ret cv) m2 σ2) X) X
theorem XV.while {t : Expr} {body : List Stmt} {p : Pos} {Q : Fl → Lm → CH → Prop} (k : Nat) (h : LV w c t body Q X k m σ) : XV w c (.While t body [] p) m σ Q X := fun T s W => by
  refine ⟨fun Qr Er hp hq he => ?_⟩
  rw [exec_While]
  refine wpI_bind (wpI_standAt (wpI_runOwn rfl ?_ (by intro x; cases x)))
  refine codeI_whileLoop (fun k s' => ∃ m' σ' T', LV w c t body Q X k m' σ' ∧ Wf w c T' m' σ' s' ∧ Ext T T') (fun k s1 hI => ?_) k ⟨m, σ, T, h, W, .refl T⟩
  refine hide fun Ph hPh => ?_
  obtain ⟨m1, σ1, T1, h, W1, x1⟩ := hI
  refine hPh ?_
  refine wpI_passesOwn hp ?_
  induction k with
  | zero =>
    refine (h T1 s1 W1).run _ Er hp (fun b m2 σ2 T2 s2 a q W2 x2 r => ?_) (fun m2 σ2 T2 s2 e q W2 x2 ex => he m2 σ2 T2 s2 e q W2 (x1.trans x2) ex)
    obtain ⟨rfl, q⟩ := q
    cases (r)
    exact (hq .next m2 σ2 T2 s2 .next q W2 (x1.trans x2) rfl)
  | succ k =>
    refine (h T1 s1 W1).run _ Er hp (fun b m2 σ2 T2 s2 a q W2 x2 r => ?_) (fun m2 σ2 T2 s2 e q W2 x2 ex => he m2 σ2 T2 s2 e q W2 (x1.trans x2) ex)
    cases (r)
    induction b with
    | false =>
      exact (hq .next m2 σ2 T2 s2 .next q W2 (x1.trans x2) rfl)
    | true =>
      refine wpI_passesOwn hp ?_
      refine (q T2 s2 W2).run _ Er hp (fun f m3 σ3 T3 s3 a q3 W3 x3 r3 => ?_) (fun m3 σ3 T3 s3 e q W3 x3 ex => he m3 σ3 T3 s3 e q W3 (x1.trans (x2.trans x3)) ex)
      induction f with
      | next => subst r3; exact ⟨k, Nat.lt_succ_self k, m3, σ3, T3, q3, W3, x1.trans (x2.trans x3)⟩
      | ret cv =>
        obtain ⟨v, rfl, rv⟩ := r3
        exact hq (.ret cv) m3 σ3 T3 s3 _ q3 W3 (x1.trans (x2.trans x3)) ⟨v, rfl, rv⟩
theorem Wf.named (W : Wf w c T m σ s) {n : Nat} {o : CObj} {ob : Obj} (hf : ob.isFreed = false) (hn : σ n = none) (ho : ∀ T', Ext T T' → T' s.heap.objs.size = some (.nam n true) → (s.heap.push ob).get? s.heap.objs.size = some ob → Own w T' n o (s.heap.push ob)) :
    Ext T (T.put s.heap.objs.size (.nam n true)) ∧ Wf w c (T.put s.heap.objs.size (.nam n true)) m (σ.set n o) { s with heap := s.heap.push ob } := by
  have hg := Heap.get?_push_size s.heap (o := ob) hf
  have W1 : Wf w c T m σ { s with heap := s.heap.push ob } := W.keeps (t := s.toks) fun _ _ e => Heap.get?_push_of_some _ e
  exact W1.nameNew (a := s.heap.objs.size) (ob := ob) W.toW0.fresh hg hn fun T' x h => ho T' x h hg
theorem iter_rng {a b : Int} {n : Nat} (ha : -(2 ^ 61) ≤ a) (ha' : a < 2 ^ 61) (hb : -(2 ^ 61) ≤ b) (hb' : b < 2 ^ 61) (hn : σ n = none) : IterTo w c (.rng a b) m σ n (σ.set n (.rit a (b - a).toNat)) := fun X T s v W r => by
  refine hide fun Ph hPh => ?_
  obtain ⟨rr, t, u, z, rfl, h⟩ := r.at rfl
  refine hPh ?_
  refine ⟨fun Qr Er hp hq he => of ?_⟩
  refine wpAny_pyIter_range (W.frz _ _ h) (small_one (by lia) (by lia) (by lia) (by lia)) ?_
  have e : Builtin.Range.rangeSize a b 1 = ((b - a).toNat : Int) := by rw [rangeSize_one]; split <;> lia
  refine rwP e ?_
  obtain ⟨x, W'⟩ := W.named (n := n) (o := .rit a (b - a).toNat) (ob := { cls := .type "range_iterator", data := .fields #[rawInt a, rawInt ((b - a).toNat : Int), rawInt 1] }) rfl hn (fun T' x h g => ⟨_, h, g⟩)
  exact hq (.ref n) m _ _ _ _ ⟨rfl, rfl, rfl⟩ W' x (VR.ref (TM.put_self ..))
theorem iter_tup {l : List CV} {n : Nat} (hn : σ n = none) : IterTo w c (.tup l) m σ n (σ.set n (.tit l 0)) := fun X T s v W r => by
  obtain ⟨a, k, vs, rfl, h, hv⟩ := r.tup_inv
  refine ⟨fun Qr Er hp hq he => of ?_⟩
  refine iter_tuple ⟨_, W.frz _ _ h, rfl, k, rfl⟩ ?_
  obtain ⟨x, W'⟩ := W.named (n := n) (o := .tit l 0) (ob := { cls := .type "tuple_iterator", data := .fields #[.ref a, .int 0 0] }) rfl hn (fun T' x h' g => ⟨_, a, vs, k, h', ⟨_, g, rfl, rfl⟩, x.frz _ _ h, hv.mono x⟩)
  exact hq (.ref n) m _ _ _ _ ⟨rfl, rfl, rfl⟩ W' x (VR.ref (TM.put_self ..))
theorem iter_fl {l : List CV} {n : Nat} (hn : σ n = none) : IterTo w c (.fl l) m σ n (σ.set n (.lit l 0)) := fun X T s v W r => by
  obtain ⟨a, k, vs, rfl, h, hv⟩ := r.fl_inv
  refine ⟨fun Qr Er hp hq he => of ?_⟩
  refine wpAny_pyIter_list ⟨_, W.frz _ _ h, rfl, k, rfl⟩ ?_
  obtain ⟨x, W'⟩ := W.named (n := n) (o := .lit l 0) (ob := { cls := .type "list_iterator", data := .fields #[.ref a, .int 0 0] }) rfl hn (fun T' x h' g => ⟨_, a, vs, k, h', ⟨_, g, rfl, rfl⟩, x.frz _ _ h, hv.mono x⟩)
  exact hq (.ref n) m _ _ _ _ ⟨rfl, rfl, rfl⟩ W' x (VR.ref (TM.put_self ..))
theorem iter_list {l : List CV} {j n : Nat} (hj : σ j = some (.list l)) (hn : σ n = none) : IterTo w c (.ref j) m σ n (σ.set n (.nit j 0)) := fun X T s v W r => by
  obtain ⟨a, vs, k, rfl, ha, ho, hv⟩ := W.listAt r hj
  refine ⟨fun Qr Er hp hq he => of ?_⟩
  refine wpAny_pyIter_list ⟨_, ho, rfl, k, rfl⟩ ?_
  obtain ⟨x, W'⟩ := W.named (n := n) (o := .nit j 0) (ob := { cls := .type "list_iterator", data := .fields #[.ref a, .int 0 0] }) rfl hn (fun T' x h' g => ⟨_, a, h', ⟨_, g, rfl, rfl⟩, x.nam _ _ _ ha⟩)
  exact hq (.ref n) m _ _ _ _ ⟨rfl, rfl, rfl⟩ W' x (VR.ref (TM.put_self ..))
theorem iter_zip {l1 l2 : List CV} {k n : Nat} (hn : σ n = some (.zit l1 l2 k)) : IterTo w c (.ref n) m σ n σ := fun X T s v W r => by
  obtain ⟨a, rfl, ha⟩ := r.ref_inv
  obtain ⟨d, _, _, Z, _, _⟩ := W.own _ _ hn
  have := W.uniq a d.z n ha Z.tz; subst this
  refine ⟨fun Qr Er hp hq he => of ?_⟩
  refine wpAny_pyIter_zip Z.hz ?_
  exact hq (.ref n) m σ T s _ ⟨rfl, rfl, rfl⟩ W (.refl T) r
end
end Mine
end
section
namespace Mine
section
variable {w : World} {c : Cx} {T : TM} {s : Shared} {m : Lm} {σ : CH} {X : CH → Prop} {Q : CV → Lm → CH → Prop}
theorem VR.rng_inv {a b : Int} {v : Value} (r : VR T (.rng a b) v) : ∃ rr t u z, v = .ref rr ∧ T rr = some (.frz (rngO a b t u z)) := r.at rfl
inductive SeqAtN (s : Shared) (T : TM) (cv : CV) (v : Value) (l : List CV) : Prop
  | mk (a : Addr) (vs : List Value) (k : Nat) (o : Obj) : v = .ref a → VX T l vs → s.heap.get? a = some o → (o = lstO vs k ∨ (o = tupO vs k ∧ ∃ l', cv = .tup l')) → SeqAtN s T cv v l
theorem Wf.seqAt (W : Wf w c T m σ s) {cv : CV} {v : Value} {l : List CV} (r : VR T cv v) (h : itemsOf σ cv l) : SeqAtN s T cv v l := by
  unfold itemsOf at h
  split at h
  · subst h
    obtain ⟨a, k, vs, rfl, ha, hv⟩ := r.tup_inv
    exact ⟨a, vs, k, _, rfl, hv, W.frz _ _ ha, .inr ⟨rfl, _, rfl⟩⟩
  · subst h
    obtain ⟨a, k, vs, rfl, ha, hv⟩ := r.fl_inv
    exact ⟨a, vs, k, _, rfl, hv, W.frz _ _ ha, .inl rfl⟩
  · obtain ⟨a, vs, k, rfl, ha, ho, hv⟩ := W.listAt r h
    exact ⟨a, vs, k, _, rfl, hv, ho, .inl rfl⟩
  · exact h.elim
theorem CallV.len {cv : CV} {l : List CV} (h : itemsOf σ cv l) (hz : l.length ≤ 1000000) (q : Q (.int l.length) m σ) : CallV w c (.top (.builtin "len")) [cv] m σ Q X :=
  .prim (fun _ _ => .builtin) fun T s vs W ra => by
    obtain ⟨v, vs', rfl, r, ra⟩ := ra.cons_inv
    cases ra.nil_inv
    obtain ⟨a, vs, k, o, rfl, hv, ho, e⟩ := W.seqAt r h
    refine ⟨fun Qr Er hp hq _ => of <| ?_⟩
    have e1 : (vs.toArray.size : Int) = l.length := by refine rwP List.size_toArray ?_; refine rwP hv.length ?_; rfl
    have W2 := W.tok (s.toks + 1 + 1)
    rcases e with rfl | ⟨rfl, _⟩
    · refine call_len_list ⟨_, ho, rfl, k, rfl⟩ (by lia) ?_
      refine rwP e1 ?_
      exact hq _ m σ T _ _ q W2 (.refl T) VR.int
    · refine len_tuple ⟨_, ho, rfl, k, rfl⟩ (by lia) ?_
      refine rwP e1 ?_
      exact hq _ m σ T _ _ q W2 (.refl T) VR.int
theorem CallV.range1 {b : Int} (q : Q (.rng 0 b) m σ) : CallV w c (.top (.type "range")) [.int b] m σ Q X :=
  .prim (fun _ _ => .type) fun T s vs W ra => by
    obtain ⟨v, vs', rfl, r, ra⟩ := ra.cons_inv
    cases ra.nil_inv
    obtain ⟨t, rfl⟩ := r.int_inv
    refine ⟨fun Qr Er hp hq _ => of <| call_range_1 ?_⟩
    obtain ⟨x, W2⟩ := W.push (o := rngO 0 b s.toks t (s.toks + 1)) rfl
    exact hq _ m σ _ _ _ q (W2.tok (s.toks + 1 + 1)) x (.atom ⟨_, _, _, _, rfl, TM.put_self ..⟩ .nil)
theorem CallV.range2 {a b : Int} (q : Q (.rng a b) m σ) : CallV w c (.top (.type "range")) [.int a, .int b] m σ Q X :=
  .prim (fun _ _ => .type) fun T s vs W ra => by
    obtain ⟨v, vs', rfl, r, ra⟩ := ra.cons_inv
    obtain ⟨v2, vs'', rfl, r2, ra⟩ := ra.cons_inv
    cases ra.nil_inv
    obtain ⟨t, rfl⟩ := r.int_inv
    obtain ⟨t2, rfl⟩ := r2.int_inv
    refine ⟨fun Qr Er hp hq _ => of <| call_range_2 ?_⟩
    obtain ⟨x, W2⟩ := W.push (o := rngO a b t t2 s.toks) rfl
    exact hq _ m σ _ _ _ q (W2.tok (s.toks + 1)) x (.atom ⟨_, _, _, _, rfl, TM.put_self ..⟩ .nil)
theorem CallV.tupleOf {cv : CV} {l : List CV} (h : itemsOf σ cv l) (hz : l.length ≤ 1000000) (hc : ∀ l, cv ≠ .tup l) (q : Q (.tup l) m σ) : CallV w c (.top (.type "tuple")) [cv] m σ Q X :=
  .prim (fun _ _ => .type) fun T s vs W ra => by
    obtain ⟨v, vs', rfl, r, ra⟩ := ra.cons_inv
    cases ra.nil_inv
    obtain ⟨a, vs, k, o, rfl, hv, ho, e⟩ := W.seqAt r h
    rcases e with rfl | ⟨_, l', e⟩
    · refine J.newT W hv q fun Qr Er h => ?_
      refine call_tuple_list ⟨_, ho, rfl, k, rfl⟩ (fun h' hk => ?_) (by refine rwP List.size_toArray ?_; refine rwP hv.length ?_; refine rwP sizeLine_eq ?_; lia)
      refine h _ _ s.toks 0 (fun b o e => Heap.get?_push_of_some _ (hk b o e)) ?_ (Heap.get?_push_size _ rfl)
      cases q : s.heap.get? h'.objs.size with
      | none => rfl
      | some o => exact absurd (Heap.lt_size (hk _ _ q)) (Nat.lt_irrefl _)
    · exact absurd e (hc l')
theorem CallV.intBool {b : Bool} (q : Q (.int (if b then 1 else 0)) m σ) : CallV w c (.top (.type "int")) [.bool b] m σ Q X :=
  .prim (fun _ _ => .type) fun T s vs W ra => by
    obtain ⟨v, vs', rfl, r, ra⟩ := ra.cons_inv
    cases ra.nil_inv
    refine rwP r.bool_inv ?_
    refine ⟨fun Qr Er hp hq _ => of <| call_int_bool ?_⟩
    exact hq _ m σ T _ _ q (W.tok _) (.refl T) VR.int
theorem CallV.listOf (no : Option Nat) {cv : CV} {l : List CV} (h : itemsOf σ cv l) (hz : l.length ≤ 1000000) (q : lstQ no l m σ Q) : CallV w c (.top (.type "list")) [cv] m σ Q X :=
  .prim (fun _ _ => .type) fun T s vs W ra => by
    obtain ⟨v, vs', rfl, r, ra⟩ := ra.cons_inv
    cases ra.nil_inv
    obtain ⟨a, vs, k, o, rfl, hv, ho, e⟩ := W.seqAt r h
    refine J.newL no W hv q fun Qr Er h => ?_
    have hsz : vs.toArray.size ≤ sizeLine := by refine rwP List.size_toArray ?_; refine rwP hv.length ?_; refine rwP sizeLine_eq ?_; lia
    rcases e with rfl | ⟨rfl, _⟩
    · exact call_list_seq (hsz := hsz) a (.inl rfl) ho rfl rfl fun h' c' hk hD => h _ _ s.toks c' hk (get?_size_none _) hD
    · exact call_list_seq (hsz := hsz) a (.inr rfl) ho rfl rfl fun h' c' hk hD => h _ _ s.toks c' hk (get?_size_none _) hD
end
end Mine
end
section
namespace Mine
section
variable {prog : Program} {w : World} {A : Around} {R : Result → Shared → Prop} {s : Shared}
theorem compLoop_any {elt target iter : Expr} {scope : Scope} {pos : Pos} {it acc : Value} {env : Env} (I : Nat → Shared → Prop)
    (turn : ∀ n s, I n s → wpAny (model prog w) A (pyNext it) (fun r s₁ => match r with
      | none => R (.ok .next) s₁
      | some v => wpAny (model prog w) A (letOwnedTupleGo target it v) (fun _ s₁' => wpI (model prog w) A (assign target env v) (fun _ s₂ => wpI (model prog w) A (eval elt env) (fun x s₃ =>
          wpAny (model prog w) A (call (.builtin "list.append") [acc, x]) (fun _ s₄ => ∃ m, m < n ∧ I m s₄) (fun _ _ => False) s₃) (fun _ _ => False) s₂) (fun _ _ => False) s₁') (fun _ _ => False) s₁) (fun _ _ => False) s)
    (n : Nat) (h : I n s) : codeI (model prog w) A (.compLoop (.ListComp elt [⟨target, iter, [], 0⟩] scope pos) 0 it acc env) R s := by
  refine codeI_loop' rfl rfl I (fun n s hI => ?_) n h
  show wpI _ A ((compTurn (.ListComp elt [⟨target, iter, [], 0⟩] scope pos) 0 it acc env).onRaise (fun x => do noteFrame x env; theTreesLotGoes x)) _ _ s
  refine wpI_noted ?_
  rw [compTurn_list1]
  refine wpI_bind (wpI_standAt (wpI_mono (E := fun _ _ => False) (wpI_bind (of (PySem.wpAny_mono (turn n s hI) (fun r s₁ h₁ => ?_) fun _ _ h' => h'))) (fun _ _ h => h) fun _ _ h => h.elim))
  induction r with
  | none => exact wpI_pure h₁
  | some v =>
    exact wpI_bind (wpI_mono (of h₁) (fun _ s₁' h₁' => wpI_bind (wpI_mono h₁' (fun _ s₂ h₂ => wpI_bind (wpI_bind (wpI_mono h₂ (fun x s₃ h₃ => wpI_bind (wpI_mono (of h₃)
      (fun _ s₄ h₄ => wpI_pure (wpI_pure (.inl ⟨rfl, h₄⟩))) fun _ _ h' => h')) fun _ _ h' => h'))) fun _ _ h' => h')) fun _ _ h' => h')
theorem codeI_compStart {elt target iter ifs rest scope pos it acc env}
    (h0 : codeI (model prog w) A (.compLoop (.ListComp elt (⟨target, iter, ifs, 0⟩ :: rest) scope pos) 0 it acc env) R s)
    (h : wpAny (model prog w) A (pyIter it) (fun it' s' => codeI (model prog w) A (.compLoop (.ListComp elt (⟨target, iter, ifs, 0⟩ :: rest) scope pos) 0 it' acc env) R s')
      (notedBy (model prog w) A env fun x s' => R (.error x) s') s) :
    codeI (model prog w) A (.compStart (.ListComp elt (⟨target, iter, ifs, 0⟩ :: rest) scope pos) 0 it acc env) R s := by
  refine codeI_of_tree (of ?_)
  show wpAny _ _ ((compStart (.ListComp elt (⟨target, iter, ifs, 0⟩ :: rest) scope pos) 0 it acc env).onRaise (fun x => do noteFrame x env; standAt theWindowsPlace)) _ _ s
  refine wpAny_notedAt ?_
  show wpAny _ _ (ask >>= _) _ _ s
  refine wpAny_bind (wpAny_askSetting (wpAny_ite ?_))
  split
  · first
      | exact wpAny_bind (wpAny_pure (wpAny_pure ⟨rfl, rfl, h0⟩))
      | exact wpAny_pure ⟨rfl, rfl, h0⟩
  · first
      | exact wpAny_bind (wpAny_rule (wpAny_bind (wpAny_standAt (wpAny_bind (wpAny_mono h (fun it' s' h' => wpAny_pure ⟨rfl, rfl, h'⟩) fun _ _ x => x)))))
      | (refine wpAny_bind (wpAny_rule ?_); show wpAny _ _ (standAt iter.pos >>= _) _ _ s; exact wpAny_bind (wpAny_standAt (wpAny_bind (wpAny_mono h (fun it' s' h' => wpAny_pure ⟨rfl, rfl, h'⟩) fun _ _ x => x))))
theorem wpI_standIf {α : Type} {M : Model} {E : Value → Shared → Prop} {c : Prop} [Decidable c] {pos : Pos} {k : PUnit → Sem α} {Q : α → Shared → Prop} (h : wpI M A (k ()) Q E s) :
    wpI M A (if c then (standAt pos >>= k) else k ()) Q E s := by
  split
  · exact wpI_bind (wpI_standAt h)
  · exact h
theorem wpI_comprehension {M : Model} {E : Value → Shared → Prop} {env : Env} {e : Expr} {scope : Scope} {pos : Pos} {newAcc first : Sem Value} {g : Comprehension} {gs : List Comprehension} {cl : List (Str × Addr)} {use : Option (Value → Sem Unit)}
    {Q : Value → Shared → Prop}
    (hcl : clausesOf e = g :: gs) (hs : ∀ x, foldedSetIterable g.iter env x = pure x) (hclos : closureFor scope env = pure cl)
    (hkind : scope.kind = .function) (hnames : ∀ x ∈ scope.names, x.2 = .local → scope.names.lookup x.1 = some .local)
    (h : wpI M A first (fun x s₁ => wpI M A (pyIter x) (fun it s₂ => wpAny M A newAcc (fun acc s₃ =>
      wpAny M A (newFunctionEnv scope env.globals cl [] env.qual none .none (some env)) (fun cenv s₄ =>
        codeI M A (.compStart e 0 it acc { cenv with scope := relabel scope env }) (compPost M A E use Q acc cenv.locals) s₄) E s₃) E s₂) E s₁) E s) :
    wpI M A (comprehension e scope env pos newAcc false first use) Q E s := by
  unfold comprehension
  refine rwP hclos ?_; refine rwP hcl ?_
  refine wpI_bind (wpI_mono h (fun x s₁ h₁ => wpI_bind (wpI_standAt (wpI_bind (of (wpAny_of_eq (hs x) ?_))))) fun _ _ h' => h')
  refine wpI_bind (wpI_holding (wpI_mono h₁ (fun it s₂ h₂ => ?_) fun _ _ h' => h'))
  refine wpI_standIf ?_
  refine wpI_bind (of (wpAny_mono h₂ (fun acc s₃ h₃ => ?_) fun _ _ h' => h'))
  refine wpI_bind (wpI_pure ?_)
  refine wpI_bind (of (wpAny_mono h₃ (fun cenv s₄ h₄ => ?_) fun _ _ h' => h'))
  dsimp only
  have hv : ∀ x ∈ (scope.names.filter fun x => (x.2 == .local || x.2 == .cell) && x.1 != (".0" : Str)).reverse, x.2 = .local →
      Env.kindOf { cenv with scope := relabel scope env } x.1 = some .local := fun x hx hl => lookup_relabel_local (hnames x (List.mem_filter.mp (List.mem_reverse.mp hx)).1 hl)
  have hv' : ∀ x ∈ (scope.names.filter fun x => (x.2 == .local || x.2 == .cell) && x.1 != (".0" : Str)).reverse.drop 1 ++ (scope.names.filter fun x => (x.2 == .local || x.2 == .cell) && x.1 != (".0" : Str)).reverse.take 1,
      x.2 = .local → Env.kindOf { cenv with scope := relabel scope env } x.1 = some .local := fun x hx hl => by
    rcases List.mem_append.mp hx with h1 | h1
    · exact hv x (List.mem_of_mem_drop h1) hl
    · exact hv x (List.mem_of_mem_take h1) hl
  refine wpI_holding (wpI_bind (wpI_attempt (wpI_holding (wpI_run rfl (codeI_mono h₄ fun r s' hr => ?_) (by intro x; cases x)))))
  induction r with
  | ok f =>
    cases use with
    | none =>
      obtain ⟨m, hn, hr⟩ := hr
      exact wpI_bind (of (wpAny_holding (wpAny_comp_letGo (cenv := { cenv with scope := relabel scope env }) hkind _ s' m hv hn fun h' m' _ hs' => wpI_pure (hr h' hs'))))
    | some u =>
      refine wpI_bind (of (wpAny_rule (wpI_bind (of (wpAny_holding (wpAny_mono hr (fun _ s'' hr' => ?_) fun _ _ h' => h'))))))
      obtain ⟨m, hn, hr'⟩ := hr'
      exact wpI_bind (of (wpAny_comp_letGo (cenv := { cenv with scope := relabel scope env }) hkind _ s'' m hv' hn fun h' m' _ hs' => wpI_pure (hr' h' hs')))
  | error x =>
    have hr' : ∃ m, s'.heap.Ns cenv.locals m ∧ ∀ h', Heap.SameBut cenv.locals s'.heap h' → ∀ cenv' : Env, cenv'.locals = cenv.locals → wpAny M A (passOn "comprehension.variables-let-go" x cenv' : Sem Value) (fun _ _ => False) E { s' with heap := h' } := by cases use <;> exact hr
    obtain ⟨m, hn, hr⟩ := hr'
    exact wpI_bind (of (wpAny_holding (wpAny_comp_letGo (cenv := { cenv with scope := relabel scope env }) hkind _ s' m hv hn fun h' m' _ hs' => of (wpAny_mono (hr h' hs' _ rfl) (fun _ _ f => f.elim) fun _ _ y => y))))
end
noncomputable def Itr (w : World) (n : Nat) (o : CObj) : Prop := ∀ (c : Cx) (σ : CH) (T : TM) (m : Lm) (s : Shared) (v : Value), σ n = some o → Wf w c T m σ s → VR T (.ref n) v → ∀ (Qr : Value → Shared → Prop) (Er : Value → Shared → Prop), Qr v s → wpAny (model c.prog w) c.A (pyIter v) Qr Er s
section
variable {w : World} {n : Nat}
theorem itr_tit {l : List CV} {k : Nat} : Itr w n (.tit l k) := fun c σ T m s v hn W r Qr Er hq => by
  obtain ⟨a, rfl, ha⟩ := r.ref_inv
  obtain ⟨it, t, vs, kk, h1, h2, h3, h4⟩ := W.own _ _ hn
  have := W.uniq a it n ha h1; subst this
  exact wpAny_pyIter_tupleiter h2 hq
theorem itr_lit {l : List CV} {k : Nat} : Itr w n (.lit l k) := fun c σ T m s v hn W r Qr Er hq => by
  obtain ⟨a, rfl, ha⟩ := r.ref_inv
  obtain ⟨it, t, vs, kk, h1, h2, h3, h4⟩ := W.own _ _ hn
  have := W.uniq a it n ha h1; subst this
  exact wpAny_pyIter_listiter h2 hq
theorem itr_nit {j k : Nat} : Itr w n (.nit j k) := fun c σ T m s v hn W r Qr Er hq => by
  obtain ⟨a, rfl, ha⟩ := r.ref_inv
  obtain ⟨it, t, h1, h2, h3⟩ := W.own _ _ hn
  have := W.uniq a it n ha h1; subst this
  exact wpAny_pyIter_listiter h2 hq
theorem itr_zit {l1 l2 : List CV} {k : Nat} : Itr w n (.zit l1 l2 k) := fun c σ T m s v hn W r Qr Er hq => by
  obtain ⟨a, rfl, ha⟩ := r.ref_inv
  obtain ⟨d, _, _, Z, _, _⟩ := W.own _ _ hn
  have := W.uniq a d.z n ha Z.tz; subst this
  exact wpAny_pyIter_zip Z.hz hq
theorem itr_rit {x left : Int} : Itr w n (.rit x left) := fun c σ T m s v hn W r Qr Er hq => by
  obtain ⟨a, rfl, ha⟩ := r.ref_inv
  obtain ⟨it, h1, h2⟩ := W.own _ _ hn
  have := W.uniq a it n ha h1; subst this
  have hT : s.TypeIs (.ref a) "range_iterator" := ⟨_, h2, rfl⟩
  refine wpAny_pyIter_slot hT F.slot_range_iterator_iter (wpAny_call_entry F.slot_range_iterator_iter hT F.entry_range_iterator_iter ?_ (F.args_range_iterator_iter_1 _))
  show wpAny _ _ (ret (.ref a)) _ _ s
  exact wpAny_pure ⟨_, rfl, "range_iterator", _, hT, F.slot_range_iterator_next.lookup, hq⟩
end
end Mine
end
section
namespace Mine
noncomputable def Pr.add (pr : Pr) (D : Addr) (o : Obj) : Pr := fun a => if a = D then some o else pr a
theorem Pr.add_add (pr : Pr) (D : Addr) (o o' : Obj) : (pr.add D o).add D o' = pr.add D o' := by
  funext a; unfold Pr.add; split <;> rfl
theorem W0.chgProt {w os pr T σ s s'} (W : W0 w os pr T σ s) {D : Addr} {o' : Obj} (hD : T D = some .prot) (hk : ∀ a ob, a ≠ D → s.heap.get? a = some ob → s'.heap.get? a = some ob) (hD' : s'.heap.get? D = some o') (hnf : ∀ vs, o'.data ≠ .fields vs)
    (hg : s'.gens = s.gens) (ho : s'.os = s.os) : W0 w os (pr.add D o') T σ s' where
  alive a t h := by
    by_cases q : a = D
    · subst q; exact ⟨o', hD'⟩
    · obtain ⟨o, e⟩ := W.alive a t h; exact ⟨o, hk a o q e⟩
  frz a o h := hk a o (fun q => by rw [q, hD] at h; cases h) (W.frz a o h)
  uniq := W.uniq
  own n o h := (W.own n o h).keeps fun a b ob h => hk a ob (fun q => by rw [q, hD] at h; cases h)
  nams := W.nams
  top := W.top
  prot a o h := by
    unfold Pr.add at h
    split at h
    · rename_i q; subst q; obtain rfl := Option.some.inj h; exact ⟨hD, hnf, o'.slots, fun _ => rfl, hD'⟩
    · rename_i q; obtain ⟨h1, h2, sl, hs, h3⟩ := W.prot a o h; exact ⟨h1, h2, sl, hs, hk a _ q h3⟩
  cells a x h := by obtain ⟨o, h1, h2⟩ := W.cells a x h; exact ⟨o, hk a o (fun q => by rw [q, hD] at h; cases h) h1, h2⟩
  pall a h := by
    unfold Pr.add
    split
    · exact ⟨_, rfl⟩
    · exact W.pall a h
  gens := hg.trans W.gens
  os := ho.trans W.os
theorem W0.addProt {w os pr T σ s} (W : W0 w os pr T σ s) {D : Addr} {o : Obj} (hD : T D = none) (ho : s.heap.get? D = some o) (hnf : ∀ vs, o.data ≠ .fields vs) : W0 w os (pr.add D o) (T.put D .prot) σ s := by
  have ne : ∀ {a t}, T a = some t → a ≠ D := fun h q => by rw [q, hD] at h; injection h
  have old : ∀ a t, T a = some t → T.put D .prot a = some t := fun a t h => (TM.put_ne _ _ (ne h)).trans h
  have new : ∀ a t, T.put D .prot a = some t → T a = some t ∨ (a = D ∧ t = .prot) := fun a t h => by
    by_cases q : a = D
    · subst q; rw [TM.put_self] at h; obtain rfl := Option.some.inj h; exact .inr ⟨rfl, rfl⟩
    · rw [TM.put_ne _ _ q] at h; exact .inl h
  have x : Ext T (T.put D .prot) := Ext.put hD
  refine ⟨?_, ?_, ?_, ?_, ?_, W.top.mono x, ?_, ?_, ?_, W.gens, W.os⟩
  · intro a t h; rcases new a t h with h | ⟨rfl, _⟩; exact W.alive a t h; exact ⟨o, ho⟩
  · intro a ob h; rcases new a _ h with h | ⟨_, e⟩; exact W.frz a ob h; injection e
  · intro a a' n h h'
    rcases new a _ h with h | ⟨_, e⟩
    · rcases new a' _ h' with h' | ⟨_, e⟩
      · exact W.uniq a a' n h h'
      · injection e
    · injection e
  · intro n ob h; exact (W.own n ob h).mono x
  · intro a n b h; rcases new a _ h with h | ⟨_, e⟩; exact W.nams a n b h; injection e
  · intro a ob h
    unfold Pr.add at h
    split at h
    · rename_i q; subst q; obtain rfl := Option.some.inj h; exact ⟨TM.put_self .., hnf, o.slots, fun _ => rfl, ho⟩
    · obtain ⟨h1, h2⟩ := W.prot a ob h; exact ⟨old _ _ h1, h2⟩
  · intro a y h; rcases new a _ h with h | ⟨_, e⟩; exact W.cells a y h; injection e
  · intro a h
    unfold Pr.add
    rcases new a _ h with h | ⟨rfl, _⟩
    · split
      · exact ⟨_, rfl⟩
      · exact W.pall a h
    · exact ⟨o, by refine rwP (if_pos rfl) ?_; rfl⟩
theorem W0.dropProt {w os pr T σ s} {D : Addr} {o : Obj} (W : W0 w os (pr.add D o) T σ s) (hpr : pr D = none) (hnd : isD o = false) : s.heap.get? D = some o ∧ W0 w os pr (T.put D (.frz o)) σ s := by
  obtain ⟨hD, _, sl, hs, hg⟩ := W.prot D o (by unfold Pr.add; refine rwP (if_pos rfl) ?_; rfl)
  have hg : s.heap.get? D = some o := by refine rwP hg ?_; refine rwP (hs hnd) ?_; rfl
  have old : ∀ a t, a ≠ D → T a = some t → T.put D (.frz o) a = some t := fun a t h e => (TM.put_ne _ _ h).trans e
  have new : ∀ a t, T.put D (.frz o) a = some t → (a ≠ D ∧ T a = some t) ∨ (a = D ∧ t = .frz o) := fun a t h => by
    by_cases q : a = D
    · subst q; rw [TM.put_self] at h; obtain rfl := Option.some.inj h; exact .inr ⟨rfl, rfl⟩
    · rw [TM.put_ne _ _ q] at h; exact .inl ⟨q, h⟩
  have x : Ext T (T.put D (.frz o)) := ⟨fun a ob h => old a _ (fun q => by rw [q, hD] at h; cases h) h, fun a n b h => old a _ (fun q => by rw [q, hD] at h; cases h) h⟩
  refine ⟨hg, ⟨?_, ?_, ?_, ?_, ?_, W.top.mono x, ?_, ?_, ?_, W.gens, W.os⟩⟩
  · intro a t h; rcases new a t h with ⟨_, h⟩ | ⟨rfl, _⟩; exact W.alive a t h; exact ⟨o, hg⟩
  · intro a ob h; rcases new a _ h with ⟨_, h⟩ | ⟨rfl, e⟩; exact W.frz a ob h; (injection e with e; subst e); exact hg
  · intro a a' n h h'
    rcases new a _ h with ⟨_, h⟩ | ⟨_, e⟩
    · rcases new a' _ h' with ⟨_, h'⟩ | ⟨_, e⟩
      · exact W.uniq a a' n h h'
      · injection e
    · injection e
  · intro n ob h; exact (W.own n ob h).mono x
  · intro a n b h; rcases new a _ h with ⟨_, h⟩ | ⟨_, e⟩; exact W.nams a n b h; injection e
  · intro a ob h
    have hne : a ≠ D := fun q => by rw [q, hpr] at h; injection h
    obtain ⟨h1, h2⟩ := W.prot a ob (by unfold Pr.add; refine rwP (if_neg hne) ?_; exact h)
    exact ⟨old a _ hne h1, h2⟩
  · intro a y h; rcases new a _ h with ⟨_, h⟩ | ⟨_, e⟩; exact W.cells a y h; injection e
  · intro a h
    rcases new a _ h with ⟨hne, h⟩ | ⟨_, e⟩
    · obtain ⟨ob, e⟩ := W.pall a h
      unfold Pr.add at e
      rw [if_neg hne] at e; exact ⟨ob, e⟩
    · injection e
noncomputable def CW (w : World) (P : Cx → Prop) (tg elt : Expr) (n : Nat) (C : CH → Prop) (Q : List CV → CH → Prop) : List CV → List CV → Lm → CH → Prop
  | [], acc, m, σ => C σ ∧ ∀ σ', (∀ k, k ≠ n → σ' k = σ k) → Q acc σ'
  | x :: l, acc, m, σ => C σ ∧ ∀ c, P c → ∀ o', AV w c tg x m (σ.set n o') (fun m1 σ1 => EV w c elt m1 σ1 (fun cv m2 σ2 => σ2 n = some o' ∧ CW w P tg elt n C Q l (acc ++ [cv]) m2 σ2) (fun _ => False)) (fun _ => False)
end Mine
end
section
namespace Mine
noncomputable def compCx (c : Cx) (scope : Scope) (L : Addr) (cl : List (Str × Addr)) (pr : Pr) : Cx :=
  { prog := c.prog, A := c.A, nm := c.nm, sc := relabel scope c.env, L := L, fa := c.fa, cd := c.cd, cl := cl, outer := c.outer, pr := pr, os0 := c.os0, lv := c.lv, cmp := some c.env }
section
variable {w : World} {c : Cx} {T : TM} {s : Shared} {m : Lm} {σ : CH} {X : CH → Prop}
theorem Wf.compOk (W : Wf w c T m σ s) (hcm : c.cmp = none) {scope : Scope} {L : Addr} {cl : List (Str × Addr)} {D : Addr} {o : Obj} (hk : scope.kind = .function) (hD : T D = none) : CxOk (compCx c scope L cl ((prIn c.pr T s.heap).add D o)) where
  frames := by have := W.ok.frames; rw [Cx.fenv_none hcm] at this; exact this
  outc e he := by
    obtain rfl := Option.some.inj he
    obtain ⟨ob, h1, h2⟩ := W.locD
    refine ⟨by show c.sc.kind ≠ .module; refine rwP W.ok.kind ?_; decide, c.L, ob, Cx.frame_none hcm, ?_, h2⟩
    show ((prIn c.pr T s.heap).add D o) c.L = some ob
    unfold Pr.add
    refine rwP (if_neg (fun q => by have := W.locL; rw [q, hD] at this; injection this)) ?_
    unfold prIn; refine rwP W.locL ?_; exact h1
  out e he := by
    refine hide fun Ph hPh => ?_
    obtain ⟨k, L', ob, hf, hp, hd⟩ := W.ok.out e he
    refine hPh ?_
    refine ⟨k, L', ob, hf, ?_, hd⟩
    show ((prIn c.pr T s.heap).add D o) L' = some ob
    have := (W.prot _ _ hp).1
    unfold Pr.add
    refine rwP (if_neg (fun q => by rw [q, hD] at this; injection this)) ?_
    unfold prIn; refine rwP this ?_; exact hp
  guards := W.ok.guards
  handled := W.ok.handled
  kind := hk
  units := W.ok.units
  depth := W.ok.depth
  lvl := W.ok.lvl
theorem Wf.lists {T5 : TM} {m5 : Lm} {σ5 : CH} {s5 : Shared} {scope : Scope} {L D : Addr} {cl : List (Str × Addr)} {base : Pr} {o o' : Obj} {h' : Heap} (W : Wf w (compCx c scope L cl (base.add D o)) T5 m5 σ5 s5) (hok : CxOk (compCx c scope L cl (base.add D o')))
    (hD : T5 D = some .prot) (ho : ∀ vs, o'.data ≠ .fields vs) (g : h'.get? D = some o') (oth : ∀ a ob, a ≠ D → s5.heap.get? a = some ob → h'.get? a = some ob) : Wf w (compCx c scope L cl (base.add D o')) T5 m5 σ5 { s5 with heap := h' } := by
  have w0 := W.toW0.chgProt (s' := { s5 with heap := h' }) hD oth g ho rfl rfl
  have e : ((compCx c scope L cl (base.add D o)).pr.add D o') = base.add D o' := Pr.add_add _ _ _ _
  rw [e] at w0
  refine ⟨w0, hok, W.locL, ?_, W.onlyL, W.onlyC⟩
  refine hide fun Ph hPh => ?_
  obtain ⟨mm, ⟨oL, es, ep, h, r⟩, hb⟩ := W.loc
  refine hPh ?_
  have hL : T5 L = some .loc := W.locL
  exact ⟨mm, ⟨oL, es, ep, oth L oL (fun q => by rw [q, hD] at hL; cases hL) h, r⟩, hb⟩
inductive CompI (w : World) (c : Cx) (scope : Scope) (L D : Addr) (cl : List (Str × Addr)) (base : Pr) (Tb : TM) (n : Nat) (tg elt : Expr) (C : CH → Prop) (P : Cx → Prop) (Q : List CV → CH → Prop) (N : Nat) (s : Shared) : Prop
  | mk (l acc : List CV) (vs : List Value) (k : Nat) (o : CObj) (T : TM) (m : Lm) (σ : CH) : l.length = N → Wf w (compCx c scope L cl (base.add D (lstO vs k))) T m σ s → Ext Tb T → VX T acc vs → σ n = some o → Src w tg n C l o → CW w P tg elt n C Q l acc m σ → acc.length + l.length ≤ 1000000 →
    CompI w c scope L D cl base Tb n tg elt C P Q N s
theorem J.compLoop {tg elt iter : Expr} {scope : Scope} {pos : Pos} {n : Nat} {C : CH → Prop} {Q : List CV → CH → Prop} {L D : Addr} {cl : List (Str × Addr)} {it : Value} {base : Pr} {P : Cx → Prop} {R : Result → Shared → Prop} {Tb : TM}
    (hP : ∀ pr, P (compCx c scope L cl pr))
    (hok : ∀ vs k, CxOk (compCx c scope L cl (base.add D (lstO vs k))))
    (hR : ∀ acc vs k T' m' σ' s', Q acc σ' → VX T' acc vs → Wf w (compCx c scope L cl (base.add D (lstO vs k))) T' m' σ' s' → Ext Tb T' → R (.ok .next) s')
    (hit : VR Tb (.ref n) it) :
    ∀ (l acc : List CV) (vs : List Value) (k : Nat) (o : CObj) (T : TM) (m : Lm) (σ : CH) (s : Shared), Wf w (compCx c scope L cl (base.add D (lstO vs k))) T m σ s → Ext Tb T → VX T acc vs → σ n = some o → Src w tg n C l o → CW w P tg elt n C Q l acc m σ → acc.length + l.length ≤ 1000000 →
      codeI (model c.prog w) c.A (.compLoop (.ListComp elt [⟨tg, iter, [], 0⟩] scope pos) 0 it (.ref D) { (compCx c scope L cl (base.add D (lstO vs k))) with pr := base }.env) R s := by
  intro l acc vs k o T m σ s W xT rv hn hs hc hlen
  refine compLoop_any (CompI w c scope L D cl base Tb n tg elt C P Q) (fun N s1 hI => ?_) l.length ⟨l, acc, vs, k, o, T, m, σ, rfl, W, xT, rv, hn, hs, hc, hlen⟩
  clear W xT rv hn hs hc hlen
  refine hide fun Ph hPh => ?_
  obtain ⟨l, acc, vs, k, o, T1, m1, σ1, hN, W, xT, rv, hn, hs, hc, hlen⟩ := hI
  refine hPh ?_
  induction l with
  | nil =>
    refine hs _ σ1 T1 m1 s1 it hn hc.1 W (hit.mono xT) _ _ fun s2 W2 => ?_
    exact hR acc vs k T1 m1 _ s2 (hc.2 _ fun k hk => CH.set_ne _ _ hk) rv W2 xT
  | cons x l =>
    refine hide fun Ph hPh => ?_
    obtain ⟨o', hs', hstep⟩ := hs
    obtain ⟨hC, hc⟩ := hc
    refine hPh ?_
    refine hstep _ σ1 T1 m1 s1 it hn hC W (hit.mono xT) _ _ fun u s2 hgo => hgo _ _ fun T3 s3 W3 x3 r3 => ?_
    refine (hc _ (hP _) o' T3 s3 u W3 r3).run _ _ .never (fun _ m4 σ4 T4 s4 _ q4 W4 x4 _ => (q4 T4 s4 W4).run _ _ .never (fun cv m5 σ5 T5 s5 v q5 W5 x5 r5 => ?_) (fun m5 σ5 T5 s5 e q W5 x5 ex => q.elim)) (fun m4 σ4 T4 s4 e q W4 x4 ex => q.elim)
    have pD := W5.prot D (lstO vs k) (if_pos rfl)
    have hg : s5.heap.get? D = some (lstO vs k) := pD.2.2.elim fun sl h => by refine rwP h.2 ?_; refine rwP (h.1 rfl) ?_; rfl
    have hz : vs.toArray.size ≤ sizeLine := by refine rwP List.size_toArray ?_; refine rwP rv.length ?_; refine rwP sizeLine_eq ?_; lia
    refine call_meets F.slot_list_append ⟨_, hg, rfl⟩ F.entry_list_append (F.args_list_append_2 _ _) (PySem.list_append D vs.toArray k v hz) ⟨hg, ?_⟩
    have h1 := (PySem.IsL.update (h := s5.heap) (l := D) (items := vs.toArray) (n := k) hg fun x => x.push v)
    rw [show vs.toArray.push v = (vs ++ [v]).toArray by simp] at h1
    have xx := x3.trans (x4.trans x5)
    exact ⟨l.length, hN ▸ Nat.lt_succ_self _, l, acc ++ [cv], vs ++ [v], _, o', T5, m5, σ5, rfl, W5.lists (hok _ _) pD.1 (by intro _ q; injection q) h1 fun a ob ha e => (Heap.get?_update_other _ _ (Ne.symm ha)).trans e, xT.trans xx, (rv.mono xx).append (VX.cons r5 .nil), q5.1, hs', q5.2, by
      refine rwP List.length_append ?_; rw [Nat.add_assoc]; exact (Nat.add_comm 1 l.length) ▸ hlen⟩
end
end Mine
end
section
namespace Mine
noncomputable def TM.del (T : TM) (L : Addr) : TM := fun a => if a = L then none else T a
theorem W0.dropLoc {w os pr T σ s} (W : W0 w os pr T σ s) {L : Addr} (hL : T L = some .loc) : W0 w os pr (T.del L) σ s := by
  have ne : ∀ {a t}, T.del L a = some t → a ≠ L ∧ T a = some t := fun {a t} h => by
    unfold TM.del at h
    split at h
    · injection h
    · exact ⟨by assumption, h⟩
  have old : ∀ {a t}, T a = some t → t ≠ .loc → T.del L a = some t := fun {a t} h n => by
    unfold TM.del
    refine rwP (if_neg (fun q => by rw [q, hL] at h; obtain rfl := Option.some.inj h; exact n rfl)) ?_; exact h
  have x : Ext T (T.del L) := ⟨fun a o h => old h (by intro q; injection q), fun a n b h => old h (by intro q; injection q)⟩
  refine ⟨?_, ?_, ?_, ?_, ?_, W.top.mono x, ?_, ?_, ?_, W.gens, W.os⟩
  · intro a t h; exact W.alive a t (ne h).2
  · intro a o h; exact W.frz a o (ne h).2
  · intro a a' n h h'; exact W.uniq a a' n (ne h).2 (ne h').2
  · intro n o h; exact (W.own n o h).mono x
  · intro a n b h; exact W.nams a n b (ne h).2
  · intro a o h; obtain ⟨h1, h2⟩ := W.prot a o h; exact ⟨old h1 (by intro q; injection q), h2⟩
  · intro a y h; exact W.cells a y (ne h).2
  · intro a h; exact W.pall a (ne h).2
theorem Ext.del {T : TM} {L : Addr} (hL : T L = some .loc) : Ext T (T.del L) := by
  constructor
  · intro a o h; unfold TM.del; refine rwP (if_neg (fun q => by rw [q, hL] at h; cases h)) ?_; exact h
  · intro a n b h; unfold TM.del; refine rwP (if_neg (fun q => by rw [q, hL] at h; cases h)) ?_; exact h
section
variable {w : World} {c : Cx} {m : Lm} {σ : CH} {X : CH → Prop}
structure CompOk (c : Cx) (scope : Scope) (m : Lm) (caps : List CV) : Prop where
  cm : c.cmp = none
  kind : scope.kind = .function
  nc : ∀ x ∈ scope.names, x.2 ≠ .cell
  names : ∀ x ∈ scope.names, x.2 = .local → scope.names.lookup x.1 = some .local
  cap : (frees scope.names).reverse.map (fun x => m.lookup x) = caps.map some
  nu : ∀ cv ∈ caps, cv ≠ .unb
  nl : ∀ x ∈ (frees scope.names).reverse, c.sc.names.lookup x ≠ some .local
  free : ∀ x ∈ (frees scope.names).reverse, (relabel scope c.env).names.lookup x = some .cell ∨ ((relabel scope c.env).names.lookup x = some .free ∧ (x == ("__classdict__" : Str)) = false)
noncomputable abbrev inComp (c : Cx) (scope : Scope) : Cx → Prop := fun c2 => c2.sc = relabel scope c.env ∧ c2.lv = c.lv
theorem J.compRun {elt tg iter : Expr} {scope : Scope} {pos : Pos} {caps : List CV} {Q : List CV → CH → Prop} {T2 : TM} {s2 : Shared} {n : Nat} {C : CH → Prop} {l : List CV} {o : CObj} {σ' : CH} {m2 : Lm} {it : Value} {vals : List Value} {R : Result → Shared → Prop}
    (K : CompOk c scope m caps) (W2 : Wf w c T2 m2 σ' s2) (hca : CellsAt T2 ((frees scope.names).reverse.map fun x => (x, (c.cl.lookup x).getD 0)) (frees scope.names).reverse vals) (hva : VX T2 caps vals) (r2 : VR T2 (.ref n) it)
    (hn : σ' n = some o) (hsrc : Src w tg n C l o) (hitr : Itr w n o) (hlen : l.length ≤ 1000000) (hcw : CW w (inComp c scope) tg elt n C Q l [] ((frees scope.names).reverse.zip caps) σ')
    {h' : Heap} {tk : Nat} (hns : h'.Ns (s2.heap.push (lstO [] 0)).objs.size (fun x => ([] : List (Str × Value)).reverse.lookup x)) (hsb : Heap.SameBut (s2.heap.push (lstO [] 0)).objs.size ((s2.heap.push (lstO [] 0)).push { cls := .type "dict", data := .dict #[] }) h')
    (hfin : ∀ (s' : Shared), (∃ mm, s'.heap.Ns (s2.heap.push (lstO [] 0)).objs.size mm) → (∀ h'', Heap.SameBut (s2.heap.push (lstO [] 0)).objs.size s'.heap h'' → ∃ acc σ'' T3, Q acc σ'' ∧ Wf w c T3 m2 σ'' { s' with heap := h'' } ∧ Ext T2 T3 ∧ VR T3 (.fl acc) (.ref s2.heap.objs.size) ∧ T3 (s2.heap.push (lstO [] 0)).objs.size = none) → R (.ok .next) s') :
    codeI (model c.prog w) c.A (.compStart (.ListComp elt [⟨tg, iter, [], 0⟩] scope pos) 0 it (.ref s2.heap.objs.size) (compCx c scope (s2.heap.push (lstO [] 0)).objs.size ((frees scope.names).reverse.map fun x => (x, (c.cl.lookup x).getD 0)) (prIn c.pr T2 s2.heap)).env) R { s2 with heap := h', toks := tk } := by
  generalize hL : (s2.heap.push (lstO [] 0)).objs.size = L at *
  generalize hD0 : s2.heap.objs.size = D at *
  have hLD : L = D + 1 := by refine rwB hL ?_; rewrite [Heap.size_push]; refine rwP hD0 ?_; rfl
  have gD0 : (s2.heap.push (lstO [] 0)).get? D = some (lstO [] 0) := by refine rwB hD0 ?_; exact Heap.get?_push_size _ rfl
  have hneL : D ≠ L := by refine rwP hLD ?_; exact Nat.ne_of_lt (Nat.lt_succ_self D)
  have gD : h'.get? D = some (lstO [] 0) := (hsb.2 D hneL).trans (Heap.get?_push_of_some _ gD0)
  have hk4 : ∀ b o, s2.heap.get? b = some o → h'.get? b = some o := fun b o e => by
    have hb : b < D := by refine rwB hD0 ?_; exact Heap.lt_size e
    exact (hsb.2 b (fun q => by rw [q, hLD] at hb; exact absurd hb (Nat.not_lt.mpr (Nat.le_succ D)))).trans (Heap.get?_push_of_some _ (Heap.get?_push_of_some _ e))
  have fD : T2 D = none := W2.toW0.fresh' (Heap.get?_none_of_le (Nat.le_of_eq hD0))
  have fL : T2 L = none := W2.toW0.fresh' (Heap.get?_none_of_le (by refine rwP hLD ?_; refine rwP hD0 ?_; exact Nat.le_succ D))
  have W4 : Wf w c T2 m2 σ' { s2 with heap := h', toks := tk } := W2.keeps hk4
  let T0 : TM := (T2.enter.put D .prot).put L .loc
  have e1 : T0 L = some .loc := TM.put_self ..
  have xD : Ext T2.enter (T2.enter.put D .prot) := Ext.put (enter_none.mpr fD)
  have fL1 : (T2.enter.put D .prot) L = none := (TM.put_ne _ _ hneL.symm).trans (enter_none.mpr fL)
  have x0 : Ext T2.enter T0 := xD.trans (Ext.put fL1)
  obtain ⟨oL, hoL⟩ : ∃ oL, h'.get? L = some oL := by obtain ⟨o, _, _, h, _⟩ := hns; exact ⟨o, h⟩
  have w0 : W0 w c.os0 ((prIn c.pr T2 s2.heap).add D (lstO [] 0)) T0 σ' { s2 with heap := h', toks := tk } := by
    refine ((W2.enter (s' := { s2 with heap := h', toks := tk }) hk4 rfl rfl).addProt (enter_none.mpr fD) gD (by intro _ q; injection q)).more (fun a t h => (TM.put_ne _ _ (fun q => by rw [q, fL1] at h; injection h)).trans h) (fun a t h => ?_)
    by_cases q : a = L
    · subst q; rw [e1] at h; obtain rfl := Option.some.inj h; exact .inr ⟨oL, hoL, .inl rfl⟩
    · rw [show T0 a = (T2.enter.put D .prot) a from TM.put_ne _ _ q] at h; exact .inl h
  have T0loc : ∀ a, T0 a = some .loc → a = L := fun a h => by
    by_cases q : a = L
    · exact q
    · rw [show T0 a = (T2.enter.put D .prot) a from TM.put_ne _ _ q] at h
      by_cases q2 : a = D
      · subst q2; rw [TM.put_self] at h; cases h
      · rw [TM.put_ne _ _ q2] at h; exact (enter_loc h).elim
  have T0cell : ∀ a x, T0 a = some (.cell x) → False := fun a x h => by
    by_cases q : a = L
    · subst q; rw [e1] at h; cases h
    · rw [show T0 a = (T2.enter.put D .prot) a from TM.put_ne _ _ q] at h
      by_cases q2 : a = D
      · subst q2; rw [TM.put_self] at h; cases h
      · rw [TM.put_ne _ _ q2] at h; exact (enter_cell h).elim
  have xx : Ext T2 T0 := (Ext.enter T2).trans x0
  have Wc : Wf w (compCx c scope L ((frees scope.names).reverse.map fun x => (x, (c.cl.lookup x).getD 0)) ((prIn c.pr T2 s2.heap).add D (lstO [] 0))) T0 ((frees scope.names).reverse.zip caps) σ' { s2 with heap := h', toks := tk } := by
    refine ⟨w0, W2.compOk K.cm K.kind fD, e1, ⟨_, hns, fun x cv e => ?_⟩, T0loc, fun a x h => (T0cell a x h).elim⟩
    refine hide fun Ph hPh => ?_
    obtain ⟨a, g1, ob, v, g2, g3, g4⟩ := (hca.mono xx).get (hva.mono xx) e
    refine hPh ?_
    have hm := (List.of_mem_zip (PySem.mem_of_lookup e)).1
    exact .inr (.inl ⟨(K.free x hm).elim .inl fun q => .inr q, a, g1, ob, v, g2, g3, g4⟩)
  have hloop := J.compLoop (w := w) (c := c) (tg := tg) (elt := elt) (iter := iter) (scope := scope) (pos := pos) (n := n) (C := C) (Q := Q) (L := L) (D := D) (cl := (frees scope.names).reverse.map fun x => (x, (c.cl.lookup x).getD 0)) (it := it) (base := prIn c.pr T2 s2.heap) (P := inComp c scope) (R := R) (Tb := T2.enter)
    (fun pr => ⟨rfl, rfl⟩) (fun vs k => W2.compOk K.cm K.kind fD) (fun acc vs k T' m' σ'' s' q rv Wf' xT => ?_) (r2.mono (Ext.enter T2)) l [] [] 0 o T0 _ σ' _ Wc x0 .nil hn hsrc hcw (by simpa using hlen)
  · exact codeI_compStart hloop (hitr c σ' T2 m2 _ it hn W4 r2 _ _ hloop)
  · have hTL : T' L = some .loc := Wf'.locL
    obtain ⟨mm, hns', _⟩ := Wf'.loc
    refine hfin s' ⟨mm, hns'⟩ fun h'' hs'' => ?_
    have w1 := Wf'.toW0.dropLoc hTL
    have w2 : W0 w c.os0 ((prIn c.pr T2 s2.heap).add D (lstO vs k)) (T'.del L) σ'' { s' with heap := h'' } := by
      refine w1.stepK (s' := { s' with heap := h'' }) (fun a ob ha e => (hs''.2 a (fun q => ha ?_)).trans e) rfl rfl
      refine rwP q ?_; unfold TM.del; refine rwP (if_pos rfl) ?_; rfl
    have hbD : prIn c.pr T2 s2.heap D = none := by unfold prIn; refine rwP fD ?_; rfl
    obtain ⟨hgD, w3⟩ := w2.dropProt hbD rfl
    have xdel : Ext T' (T'.del L) := Ext.del hTL
    have hpD : (T'.del L) D = some .prot := (w2.prot D (lstO vs k) (by unfold Pr.add; refine rwP (if_pos rfl) ?_; rfl)).1
    have xfrz : Ext (T'.del L) ((T'.del L).put D (.frz (lstO vs k))) := ⟨fun a ob h => (TM.put_ne _ _ (fun q => by rw [q, hpD] at h; cases h)).trans h, fun a n b h => (TM.put_ne _ _ (fun q => by rw [q, hpD] at h; cases h)).trans h⟩
    obtain ⟨y1, y2, Wb, _⟩ := W2.back (xT.trans (xdel.trans xfrz)) w3
    exact ⟨acc, σ'', _, q, Wb, y1, (VR.fl (TM.put_self ..) (rv.mono (xdel.trans xfrz))).mono y2, back_none fL ((TM.put_ne _ _ hneL.symm).trans (by unfold TM.del; refine rwP (if_pos rfl) ?_; rfl))⟩
end
end Mine
end
section
namespace Mine
section
variable {w : World} {c : Cx} {T : TM} {s : Shared} {m : Lm} {σ : CH} {X : CH → Prop}
theorem EV.comp {elt tg iter : Expr} {scope : Scope} {pos : Pos} {caps : List CV} {Q : CV → Lm → CH → Prop} (K : CompOk c scope m caps)
    (h : EV w c iter m σ (fun cv m1 σ1 => ∃ n σ2 C l o, IterTo w c cv m1 σ1 n σ2 ∧ σ2 n = some o ∧ Src w tg n C l o ∧ Itr w n o ∧ l.length ≤ 1000000 ∧ CW w (inComp c scope) tg elt n C (fun acc σ' => Q (.fl acc) m1 σ') l [] ((frees scope.names).reverse.zip caps) σ2) X)
    (hs : ∀ x, foldedSetIterable iter c.env x = Pure.pure x) : EV w c (.ListComp elt [⟨tg, iter, [], 0⟩] scope pos) m σ Q X := fun T s W => by
  refine hide fun Ph hPh => ?_
  obtain ⟨vals, hca, hva, hlk⟩ := caps_at W K.cap K.nu K.nl
  refine hPh ?_
  have hcl : closureFor scope c.env = Pure.pure ((frees scope.names).reverse.map fun x => (x, (c.cl.lookup x).getD 0)) := closure_of (env := c.env) (addr := fun x => (c.cl.lookup x).getD 0) fun x hx => hlk x (List.mem_reverse.mpr hx)
  refine ⟨fun Qr Er hp hq he => ?_⟩
  rw [arm_eval_ListComp]
  show wpI _ _ (comprehension (.ListComp elt [⟨tg, iter, [], 0⟩] scope pos) scope c.env _ (PySem.newList []) false (eval iter c.env)) Qr Er s
  refine wpI_comprehension (use := none) (g := ⟨tg, iter, [], 0⟩) (gs := []) rfl hs hcl K.kind K.names ?_
  refine (h T s W).run _ Er hp (fun cv m1 σ1 T1 s1 v q1 W1 x1 r1 => ?_) he
  refine hide fun Ph hPh => ?_
  obtain ⟨n, σ2, C, l, o, hi, hn, hsrc, hitr, hlen, hcw⟩ := q1
  refine hPh ?_
  refine (hi X T1 s1 v W1 r1).run _ Er hp (fun cv' m2 σ' T2 s2 it q2 W2 x2 r2 => ?_) (fun m2 σ2 T2 s2 e q W2 x2 ex => he m2 σ2 T2 s2 e q W2 (x1.trans x2) ex)
  refine hide fun Ph hPh => ?_
  obtain ⟨rfl, rfl, rfl⟩ := q2
  refine hPh ?_
  refine wpAny_newObj_type ?_ (by show (0 : Nat) ≤ sizeLine; exact Nat.zero_le _)
  refine wpAny_newFunctionEnv K.nc (fun x hx => absurd hx List.not_mem_nil) (fun h' hns hsb => ?_) K.kind
  have x12 := x1.trans x2
  refine J.compRun (Q := fun acc σ' => Q (.fl acc) m2 σ') (caps := caps) K W2 (hca.mono x12) (hva.mono x12) r2 hn hsrc hitr hlen hcw hns hsb (fun s' hmm hall => ?_)
  obtain ⟨mm, hns'⟩ := hmm
  refine ⟨mm, hns', fun h'' hs'' => ?_⟩
  refine hide fun Ph hPh => ?_
  obtain ⟨acc, σ'', T3, q, W3, x3, r3, _⟩ := hall h'' hs''
  refine hPh ?_
  exact hq _ _ _ _ _ _ q W3 (x12.trans x3) r3
theorem Wf.stored (W : Wf w c T m σ s) {x : Str} {cv : CV} {v : Value} (r : VR T cv v) (k : c.sc.names.lookup x = some .local) {mm : Str → Option Value} (hb : ∀ x cv, m.lookup x = some cv → Bd T c mm x cv) {h' : Heap} (hn' : h'.Ns c.L (fun y => if y = x then some v else mm y)) (hs : Heap.SameBut c.L s.heap h') {tk : Nat} :
    Wf w c T ((x, cv) :: m) σ { s with heap := h', toks := tk } := by
  refine ⟨?_, W.ok, W.locL, ⟨_, hn', fun y cy e => ?_⟩, W.onlyL, W.onlyC⟩
  · refine W.toW0.step (fun a o _ h2 e => (hs.2 a (fun z => h2 (z ▸ W.locL))).trans e) (fun a h => ?_) rfl rfl
    have := W.onlyL a h; subst this; obtain ⟨o, _, _, ho, _⟩ := hn'; exact ⟨o, ho⟩
  · by_cases hy : y = x
    · subst hy
      rw [lookup_cons_self'] at e; obtain rfl := Option.some.inj e
      exact .inl ⟨k, v, if_pos rfl, r⟩
    · rw [lookup_cons_ne hy] at e
      rcases hb y cy e with ⟨k, v, e, r⟩ | ⟨k, a, e, o, v, t, d, r⟩ | ⟨k, u, a, e, t⟩
      · exact .inl ⟨k, v, (if_neg hy).trans e, r⟩
      · exact .inr (.inl ⟨k, a, e, o, v, t, d, r⟩)
      · exact .inr (.inr ⟨k, u, a, e, t⟩)
theorem XV.nameComp {elt tg iter : Expr} {scope : Scope} {pos p p' : Pos} {x : Str} {caps : List CV} {Q : Fl → Lm → CH → Prop} (K : CompOk c scope m caps) (hx : c.sc.names.lookup x = some .local)
    (hsw : swapsWith (.ListComp elt [⟨tg, iter, [], 0⟩] scope pos) (some (.Name x p')) p.line c.env = Pure.pure true)
    (h : EV w c iter m σ (fun cv m1 σ1 => ∃ n σ2 C l o, IterTo w c cv m1 σ1 n σ2 ∧ σ2 n = some o ∧ Src w tg n C l o ∧ Itr w n o ∧ l.length ≤ 1000000 ∧ CW w (inComp c scope) tg elt n C (fun acc σ' => Q .next ((x, .fl acc) :: m1) σ') l [] ((frees scope.names).reverse.zip caps) σ2) X)
    (hs : ∀ x, foldedSetIterable iter c.env x = Pure.pure x) : XV w c (.Assign [.Name x p'] (.ListComp elt [⟨tg, iter, [], 0⟩] scope pos) p) m σ Q X := fun T s W => by
  refine hide fun Ph hPh => ?_
  obtain ⟨vals, hca, hva, hlk⟩ := caps_at W K.cap K.nu K.nl
  refine hPh ?_
  have hcl : closureFor scope c.env = Pure.pure ((frees scope.names).reverse.map fun x => (x, (c.cl.lookup x).getD 0)) := closure_of (env := c.env) (addr := fun x => (c.cl.lookup x).getD 0) fun x hx => hlk x (List.mem_reverse.mpr hx)
  refine ⟨fun Qr Er hp hq he => ?_⟩
  refine rwP (exec_Assign_Name_used x p' _ p hsw) ?_
  refine wpI_bind (wpI_standAt ?_)
  refine wpI_bind ?_
  show wpI _ _ (comprehension (.ListComp elt [⟨tg, iter, [], 0⟩] scope pos) scope c.env _ (PySem.newList []) false (eval iter c.env) (some (PySem.assign (.Name x p') c.env)) >>= fun _ => Pure.pure ()) _ Er s
  refine wpI_bind ?_
  refine wpI_comprehension (use := some (PySem.assign (.Name x p') c.env)) (g := ⟨tg, iter, [], 0⟩) (gs := []) rfl hs hcl K.kind K.names ?_
  refine (h T s W).run _ Er hp (fun cv m1 σ1 T1 s1 v q1 W1 x1 r1 => ?_) he
  refine hide fun Ph hPh => ?_
  obtain ⟨n, σ2, C, l, o, hi, hn, hsrc, hitr, hlen, hcw⟩ := q1
  refine hPh ?_
  refine (hi X T1 s1 v W1 r1).run _ Er hp (fun cv' m2 σ' T2 s2 it q2 W2 x2 r2 => ?_) (fun m2 σ2 T2 s2 e q W2 x2 ex => he m2 σ2 T2 s2 e q W2 (x1.trans x2) ex)
  refine hide fun Ph hPh => ?_
  obtain ⟨rfl, rfl, rfl⟩ := q2
  refine hPh ?_
  refine wpAny_newObj_type ?_ (by show (0 : Nat) ≤ sizeLine; exact Nat.zero_le _)
  refine wpAny_newFunctionEnv K.nc (fun x hx => absurd hx List.not_mem_nil) (fun h' hns hsb => ?_) K.kind
  have x12 := x1.trans x2
  refine J.compRun (Q := fun acc σ' => Q .next ((x, .fl acc) :: m2) σ') (caps := caps) K W2 (hca.mono x12) (hva.mono x12) r2 hn hsrc hitr hlen hcw hns hsb (fun s' hmm hall => ?_)
  refine hide fun Ph hPh => ?_
  obtain ⟨mm, hns'⟩ := hmm
  obtain ⟨acc, σ'', T3, q, W3, x3, r3, hL3⟩ := hall s'.heap (Heap.SameBut.refl ..)
  refine hPh ?_
  have W3 : Wf w c T3 m2 σ'' s' := W3
  show wpAny _ _ (PySem.assign (.Name x p') c.env (.ref s2.heap.objs.size)) _ Er s'
  rw [arm_assign_Name]
  refine wpAny_bind (wpAny_standAt (wpAny_bindName ?_))
  refine hide fun Ph hPh => ?_
  obtain ⟨ml, hnl, hbl⟩ := W3.loc
  refine hPh ?_
  refine wpAny_storeName_local (env := c.env) hx hnl (fun h3 hn3 hs3 => ?_) (by
    show (c.sc.kind == .class || (c.sc.kind == .module && c.L != mainGlobals)) = false
    refine rwP W3.ok.kind ?_; rfl)
  have hne : (s2.heap.push (lstO [] 0)).objs.size ≠ c.L := fun q => by rw [q, W3.locL] at hL3; injection hL3
  have W4 : Wf w c T3 ((x, .fl acc) :: m2) σ'' { s' with heap := h3, toks := s'.toks + 1 } := W3.stored r3 hx hbl hn3 hs3
  refine ⟨mm, hns'.sameBut hs3 hne, fun h4 hs4 => ?_⟩
  have W5 : Wf w c T3 ((x, .fl acc) :: m2) σ'' { s' with heap := h4, toks := s'.toks + 1 } := W4.stepK (fun a ob ha e => (hs4.2 a (fun q => ha (q ▸ hL3))).trans e) rfl rfl
  exact wpI_pure (wpI_pure (hq .next _ _ _ _ _ q W5 (x12.trans x3) rfl))
end
end Mine
end
section
namespace Mine
section
variable {w : World} {c : Cx} {T : TM} {s : Shared} {m : Lm} {σ : CH} {Q : CV → Lm → CH → Prop} {X : CH → Prop} {x : Str} {pos : Pos}
theorem EV.globK {v : Value} (hk : c.sc.names.lookup x = some .globalImplicit) (e : nsIn (kk.heap_1 w.params) mainGlobals x = some (some v)) (q : Q (.top v) m σ) (hd : (x == dbg) = false) : EV w c (.Name x pos) m σ Q X :=
  EV.glob (by rw [KF_eq]; exact e) hk q hd
theorem EV.globI {i : Int} {t : Tok} (hk : c.sc.names.lookup x = some .globalImplicit) (e : nsIn (kk.heap_1 w.params) mainGlobals x = some (some (.int i t))) (q : Q (.int i) m σ) (hd : (x == dbg) = false) : EV w c (.Name x pos) m σ Q X := fun T s W => by
  have := EV.globK (w := w) (c := c) (m := m) (σ := σ) (X := X) (Q := fun cv m' σ' => cv = .top (.int i t) ∧ m' = m ∧ σ' = σ) (pos := pos) hk e ⟨rfl, rfl, rfl⟩ hd T s W
  refine ⟨fun Qr Er hp hq he => this.run Qr Er hp (fun b m' σ' T' s' a q' W' x' r => ?_) he⟩
  obtain ⟨rfl, rfl, rfl⟩ := q'
  refine rwP r.top_inv ?_
  exact hq _ _ _ _ _ _ q W' x' VR.int
theorem EV.builtK {v : Value} (hk : c.sc.names.lookup x = some .globalImplicit) (e : nsIn (kk.heap_1 w.params) mainGlobals x = some Option.none) (hv : bootBuiltins x = some v) (q : Q (.top v) m σ) (hn : x ≠ "__name__") (hd : (x == dbg) = false) : EV w c (.Name x pos) m σ Q X :=
  EV.built (by rw [KF_eq]; exact e) hv hk q hn hd
end
end Mine
end
section
namespace Mine
section
variable {σ : CH} {i j : Int} {a b : Str} {Q : Bool → Prop}
theorem cmpLt (h : ∀ b, decide (i < j) = b → Q b) : cmpQ σ .Lt (.int i) (.int j) Q := .lt (h _ rfl)
theorem cmpLe (h : ∀ b, decide (i ≤ j) = b → Q b) : cmpQ σ .LtE (.int i) (.int j) Q := .le (h _ rfl)
theorem cmpGt (h : ∀ b, decide (j < i) = b → Q b) : cmpQ σ .Gt (.int i) (.int j) Q := .gt (h _ rfl)
theorem cmpEq (h : ∀ b, (i == j) = b → Q b) : cmpQ σ .Eq (.int i) (.int j) Q := .eq (h _ rfl)
theorem cmpNe (h : ∀ b, (i != j) = b → Q b) : cmpQ σ .NotEq (.int i) (.int j) Q := .ne (h _ rfl)
end
noncomputable def optC : Option Int → CV
  | none => .none
  | some i => .int i
noncomputable def limFit (l : Int) (m : Option Int) (wl : Int) (wm : Option Int) : Bool :=
  if l < wl then false else match wm with
    | none => true
    | some t => match m with
      | none => false
      | some u => decide (u ≤ t)
noncomputable def overC (f : Int) : Option Int → Bool
  | none => false
  | some t => decide (t < f)
noncomputable def grownV (size more : Int) (most : Option Int) (greatest : Int) : Option Int :=
  if (decide (more < 0) || decide (greatest < size + more) || overC (size + more) most) = true then none else some (size + more)
end Mine
end
section
namespace Mine
section
variable {prog : Program} {w : World} {A : Around} {E : Value → Shared → Prop} {h : Heap} {g : Array GenState} {d : Drawn} {t : Nat} {os : OsState}
variable {B newId initId : String} {nm q : Str} {C N : Addr} {bs bm bmB : List Value} {hdct : Bool} {sn : List Str} {sub : List Value} {ab : Bool} {col : Option Bool} {dd : Option Addr} {k0 k1 k2 k3 k5 : Option Value}
structure ExcTail (B : String) (bm : List Value) : Prop where
  b : bm.contains (.type B) = true
  a : bm.contains (.type "AttributeError") = false
  n : bm.contains (.type "NameError") = false
  x : bm.contains (.type "BaseException") = true
theorem exCheck {M : Model} {rest : List Value} {Q : Unit → Shared → Prop} (F : ExcBaseFacts B newId initId bmB) (hb : ExcTail B bm) (hC : h.get? C = some (excClassObj nm q C N bs bm hdct sn sub ab col dd k0 k1 k2 k3 k5 newId))
    (hq : Q () ⟨h, g, d, t, os⟩) : wpAny M A (checkBuiltinCall newId ⟨.ref C :: rest, []⟩) Q E ⟨h, g, d, t, os⟩ := by
  have hcont : (Value.ref C :: bm).contains (.type B) = true := by refine rwP List.contains_cons ?_; refine rwP hb.b ?_; rw [Bool.or_true]
  have hstar := F.noStar
  simp only [checkBuiltinCall, F.newKind, F.newSplit]
  repeat (first | refine wpAny_loadPart_at hC ?_ | (refine wpAny_isSubtype_exc hC ?_; refine rwP hcont ?_) | refine wpAny_staticBase_exc hC ?_ | refine wpAny_madeBy_exc hC ?_ | wp_step | simp only [F.newRow, bne_self_eq_false, Bool.false_eq_true, if_false])
  exact hq
theorem exNew {R : Result → Shared → Prop} {rest : List Value} (F : ExcBaseFacts B newId initId bmB) (hb : ExcTail B bm) (hC : h.get? C = some (excClassObj nm q C N bs bm hdct sn sub ab col dd k0 k1 k2 k3 k5 newId))
    (hq : R (.ok (.ret (.ref (h.objs.size + 1)))) ⟨(h.push { cls := .type "tuple", data := .seq rest.toArray }).push { cls := .ref C, data := .fields #[.ref h.objs.size, .none, .none, .none, .bool false, .none] }, g, d, t, os⟩) (hrest : rest.length ≤ sizeLine) :
    codeAny (model prog w) A (.builtin newId ⟨.ref C :: rest, []⟩) R ⟨h, g, d, t, os⟩ := by
  have hends := F.ends
  have hcB : (Value.ref C :: bm).contains (.type B) = true := by refine rwP List.contains_cons ?_; refine rwP hb.b ?_; rw [Bool.or_true]
  have hcA : (Value.ref C :: bm).contains (.type "AttributeError") = false := by refine rwP List.contains_cons ?_; refine rwP hb.a ?_; rfl
  have hcN : (Value.ref C :: bm).contains (.type "NameError") = false := by refine rwP List.contains_cons ?_; refine rwP hb.n ?_; rfl
  refine PySem.codeAny_builtinAt F.entry ?_
  refine PySem.wpAt_bind ?_
  show PySem.wpAt _ _ _ (stack >>= _) _ _ _
  refine PySem.wpAt_bind (PySem.wpAt_stack fun p below => PySem.wpAt_of_wpAny ?_)
  wp_walk
  refine PySem.wpAt_of_wpAny ?_
  refine rwP F.owner ?_
  repeat (first | with_reducible refine wpAny_madeHere_exc F.canon hC ?_ | with_reducible refine wpAny_loadPart_at hC ?_ | (with_reducible refine wpAny_isSubtype_exc hC ?_; first | rewrite [hcB] at ⊢ | rewrite [hcA] at ⊢ | rewrite [hcN] at ⊢) | wp_step)
  show R _ _
  rw [Heap.size_push]
  exact hq
theorem exCall {K : Frag} {rest : List Value} {fI : Addr} {Q : Value → Shared → Prop} (F : ExcBaseFacts B newId initId bmB) (hb : ExcTail B bm) (X : K.In h) (hi : findIn K (.ref C) "__init__" = some (some (.ref fI))) (hf : typeIn K (.ref fI) = some (.type "function"))
    (hC : h.get? C = some (excClassObj nm q C N bs bm hdct sn sub ab col dd k0 k1 k2 k3 k5 newId))
    (hq : ∀ h' e tp, (∀ b o, h.get? b = some o → h'.get? b = some o) → h.get? e = none → h.objs.size ≤ tp → h'.get? e = some { cls := .ref C, data := .fields #[.ref tp, .none, .none, .none, .bool false, .none] } →
      wpAny (model prog w) (A.under (.builtin "type.__call__" ⟨.ref C :: rest, []⟩)) (call (.ref fI) (.ref e :: rest)) (fun r s' => r = .none ∧ Q (.ref e) s') E ⟨h', g, d, t, os⟩) (hrest : rest.length ≤ sizeLine) :
    wpAny (model prog w) A (call (.ref C) rest) Q E ⟨h, g, d, t, os⟩ := by
  have f1 := tc_lookup
  have f2 := PySem.tc_bind (.ref C)
  have hT : (⟨h, g, d, t, os⟩ : Shared).TypeIs (.ref C) "type" := ⟨_, hC, rfl⟩
  refine wpAny_call (codeAny_of_tree ?_)
  show wpAny _ _ (callAny (.ref C) _) _ _ _
  repeat (any_goals (first | assumption | with_reducible refine wpAny_loadPart_at hC ?_ | wp_step))
  refine ⟨rfl, ?_⟩
  refine codeAny_call_builtin_at (Code.quiet_builtin _ (by decide +kernel)) entry_typeCall (wpAny_check_type_call_sub hC ?_)
  repeat (first | with_reducible refine wpAny_loadPart_at hC ?_ | with_reducible refine wpAny_madeBy_exc hC ?_ | wp_step)
  refine codeAny_call_builtin_code (Code.quiet_builtin _ F.quiet) (exCheck (rest := rest) F hb hC ?_)
  refine exNew (rest := rest) F hb hC ?_ hrest
  show wpAny _ _ _ _ _ _
  have hk : ∀ b o, h.get? b = some o → ((h.push { cls := .type "tuple", data := .seq rest.toArray }).push { cls := .ref C, data := .fields #[.ref h.objs.size, .none, .none, .none, .bool false, .none] }).get? b = some o := fun b o e => Heap.get?_push_of_some _ (Heap.get?_push_of_some _ e)
  have hget : ((h.push { cls := .type "tuple", data := .seq rest.toArray }).push { cls := .ref C, data := .fields #[.ref h.objs.size, .none, .none, .none, .bool false, .none] }).get? (h.objs.size + 1) = some
      { cls := .ref C, data := .fields #[.ref h.objs.size, .none, .none, .none, .bool false, .none] } := by heap_get
  have hC₁ := hk _ _ hC
  have hcC : (Value.ref C :: bm).contains (.ref C) = true := by simp
  repeat (first | with_reducible refine wpAny_loadPart_at hget ?_ | (with_reducible refine wpAny_isSubtype_exc hC₁ ?_; refine rwP hcC ?_) | wp_step)
  show wpAny _ _ (typeLookup (.ref C) _) _ _ _
  refine (looks_findIn (M := model prog w) (X.keeps hk) hi).here ?_
  refine wpAny_holding (wpAny_bind ((bind_fn (M := model prog w) (X.keeps hk) (.ref (h.objs.size + 1)) hf).here ?_))
  refine wpAny_bind (wpAny_mono (hq _ (h.objs.size + 1) h.objs.size hk (Heap.get?_none_of_le (Nat.le_succ _)) (Nat.le_refl _) hget) (fun r s' hr => ?_) fun _ _ x => x)
  obtain ⟨rfl, hQ⟩ := hr
  wp_walk
  exact hQ
end
end Mine
end
section
namespace Mine
theorem fillK4 (w : World) (h : Heap) : (PySem.Challenge.rw_nm0141_01 = PySem.Challenge.rw_nm0141_01) → (kk.heap_1 w.params).In h → True := by
  k_fill
  intros; trivial
set_option maxHeartbeats 1000000
section
variable {prog : Program} {w : World} {A : Around} {E : Value → Shared → Prop} {s : Shared}
noncomputable abbrev exO (tp : Addr) (dx : Option Addr) : Obj := { cls := .ref 63, dict := dx, data := .fields #[.ref tp, .none, .none, .none, .bool false, .none] }
theorem excInit {e tp : Addr} {v : Value} {Q : Value → Shared → Prop} (X : (kk.heap_1 w.params).In s.heap) (he : s.heap.get? e = some (exO tp none))
    (hq : ∀ h' tp', (∀ b o, b ≠ e → s.heap.get? b = some o → h'.get? b = some o) → h'.get? e = some (exO tp' none) → Q .none { s with heap := h' }) :
    wpAny (model prog w) A (call (.builtin "Exception.__init__") [.ref e, v]) Q E s := by
  have F := PySem.F.excBase_Exception
  obtain ⟨h, g, d, t, os⟩ := s
  have hshort := F.noStar
  have hC := X _ _ (show (kk.heap_1 w.params).lookup 63 = some _ by k_is)
  refine wpAny_call (codeAny_call_builtin F.init.plain F.initEntry ?_)
  have hcB : (Value.ref 63 :: [Value.ref 38, .type "Exception", .type "BaseException", .type "object"]).contains (.type "Exception") = true := by decide
  simp only [checkBuiltinCall, F.initKind, F.initSplit, F.initRow]
  repeat (first | (with_reducible refine wpAny_loadPart_at he ?_) | (with_reducible refine wpAny_isSubtype_exc (C := 63) (bm := [Value.ref 38, .type "Exception", .type "BaseException", .type "object"]) hC ?_; refine rwP hcB ?_) | wp_step)
  have hlt : e < h.objs.size := Heap.lt_size he
  refine hq ((h.push { cls := .type "tuple", data := .seq #[v] }).update e (Obj.mapFields fun x => x.setIfInBounds 0 (.ref h.objs.size))) h.objs.size (fun b o hb e1 => (Heap.get?_update_other _ _ (Ne.symm hb)).trans (Heap.get?_push_of_some _ e1)) ?_
  exact Heap.get?_update_self _ (Heap.get?_push_of_some _ he) rfl
theorem excStore {e tp : Addr} {v : Value} {Q : Unit → Shared → Prop} (X : (kk.heap_1 w.params).In s.heap) (he : s.heap.get? e = some (exO tp none))
    (hq : ∀ h' dx tk, (∀ b o, b ≠ e → s.heap.get? b = some o → h'.get? b = some o) → h'.get? e = some (exO tp (some dx)) → Q () { s with heap := h', toks := tk }) :
    wpAny (model prog w) A (setAttr (.ref e) "why" v) Q E s := by
  have SF := PySem.F.store_Exception
  have I : InstAt s.heap e (exO tp none) 63 none := ⟨he, rfl, rfl, trivial⟩
  have hC := X _ _ (show (kk.heap_1 w.params).lookup 63 = some _ by k_is)
  refine set_plain X I (by k_is) ?_
  have f1 : findIn (kk.heap_1 w.params) (.ref 63) "why" = some none := by k_is
  obtain ⟨h, g, d, t, os⟩ := s
  have sub : Looks (model prog w) h (isInstance (.ref e) (.type "object")) true := I.type.andThen (looks_subIn X (show subIn (kk.heap_1 w.params) (.ref 63) (.type "object") = some true by k_is))
  refine codeAny_call_builtin SF.slot.plain SF.entry (@check_slot (model prog w) _ _ ⟨h, g, d, t + 1, os⟩ "object.__setattr__" "object" "__setattr__" (.ref e) [.str "why" t, v] [] _ SF.kind SF.split sub (SF.args (.ref e) (.str "why" t) v) ?_)
  have L0 := I.type (M := model prog w)
  have hm := (looks_clsIn (M := model prog w) (h := h) X (show clsIn (kk.heap_1 w.params) 63 = some _ by k_is)).andThen (f := fun cd => pure cd.mro) .now
  have hm : Looks (model prog w) h (mroOf (.ref 63)) [Value.ref 63, .ref 38, .type "Exception", .type "BaseException", .type "object"] := hm
  rw [osa_eq, refuse_eq]
  refine wpAny_bind (wpAny_bind (L0.at (wpAny_bind (hm.at ?_))))
  rw [refuseLoop_ref, refuseLoop_ref, SF.passes]
  refine wpAny_pure (wpAny_bind (L0.at (wpAny_bind ((looks_findIn (M := model prog w) (h := h) X f1).at ?_))))
  refine wpAny_bind (wpAny_pure ?_)
  show wpAny _ _ (Builtin.ObjectAttr.storeInOwnDict (.ref e) (.ref 63) (.str "why" t) "why" v false) _ _ _
  have he' : h.get? e = some (exO tp none) := he
  have hC' := hC
  repeat (first | with_reducible refine wpAny_loadPart_at he' ?_ | with_reducible refine wpAny_loadPart_at hC' ?_ | wp_step)
  have hlt : e < h.objs.size := Heap.lt_size he'
  have hne : e ≠ h.objs.size := Nat.ne_of_lt hlt
  have hgd : ((h.push { cls := .type "dict", data := .dict #[] }).update e fun o => { cls := o.cls, dict := some h.objs.size, data := o.data, slots := o.slots }).get? h.objs.size = some { cls := .type "dict", data := .dict #[] } :=
    (Heap.get?_update_ne _ _ _ _ hne.symm).trans (Heap.get?_push_size _ rfl)
  have hge : ((h.push { cls := .type "dict", data := .dict #[] }).update e fun o => { cls := o.cls, dict := some h.objs.size, data := o.data, slots := o.slots }).get? e = some (exO tp (some h.objs.size)) :=
    Heap.get?_update_self _ (Heap.get?_push_of_some _ he') rfl
  refine wpAny_askSetting (wpAny_pure (wpAny_bind (wpAny_mkText (wpAny_bind (wpAny_loadPart hgd ?_)))))
  dsimp only
  rewrite [aRefKeyMayBeTheName_at]; refine rwP (show (!(#[] : Array DictEntry).any (·.key.isStr "why") && (#[] : Array DictEntry).any (·.refKey)) = false from by simp) ?_
  refine wpAny_updatePart hgd ?_
  generalize (if (Str.ofString "why").cps.isEmpty = true then 0 else reduceHash ((model prog w).w.params.strHash (Str.ofString "why").cps)) = hh
  have hput := putName_dict "why" hh (.str "why" (t + 1)) v [] 0
  have hgd' : ((h.push { cls := .type "dict", data := .dict #[] }).update e fun o => { cls := o.cls, dict := some h.objs.size, data := o.data, slots := o.slots }).get? h.objs.size = some (dictOf [] 0) := hgd
  generalize hH : ((h.push { cls := .type "dict", data := .dict #[] }).update e fun o => { cls := o.cls, dict := some h.objs.size, data := o.data, slots := o.slots }) = H at hgd hge hgd' ⊢
  have hD' : (H.update h.objs.size (Obj.putName "why" hh (.str "why" (t + 1)) v)).get? h.objs.size = some (dictOf (putL "why" hh (.str "why" (t + 1)) v []) (putN "why" [] 0)) := by
    refine rwB hput ?_; exact Heap.get?_update_self _ hgd' (by refine rwP hput ?_; rfl)
  refine wpAny_bind (wpAny_lookBehind hD' (pastItsLine_dict (by refine rwP List.size_toArray ?_; refine rwP sizeLine_eq ?_; show 1 ≤ _; lia)) ?_)
  refine wpAny_pure (hq _ h.objs.size (t + 1 + 1) (fun b o hb e1 => ?_) ?_)
  · have hbn : h.objs.size ≠ b := Nat.ne_of_gt (Heap.lt_size e1)
    refine rwP (Heap.get?_update_other _ _ hbn) ?_; refine rwB hH ?_
    exact (Heap.get?_update_other _ _ (Ne.symm hb)).trans (Heap.get?_push_of_some _ e1)
  · refine rwP (Heap.get?_update_other _ _ hne.symm) ?_; exact hge
end
end Mine
end
section
namespace Mine
theorem fillK5 (w : World) (h : Heap) : (PySem.Challenge.rw_nm0141_01 = PySem.Challenge.rw_nm0141_01) → (kk.heap_1 w.params).In h → True := by
  k_fill
  intros; trivial
set_option maxHeartbeats 1000000
theorem excMeth : findCls ([] : Frag) (.type "Exception") (.type "type") "__init__" = some (.val (.builtin "Exception.__init__")) := by kernel_rfl
theorem typExc : typeOf (.type "Exception") = pure (.type "type") := by kernel_rfl
section
variable {prog : Program} {w : World} {A : Around} {E : Value → Shared → Prop} {s : Shared} {p : Program} {lo : List Str} {mg mb : Str → Option Value}
theorem init35 {e tp : Addr} {why : Str} {t : Tok} {Q : Value → Shared → Prop} (X : (kk.heap_1 w.params).In s.heap) (TT : TopRead p lo mg mb s.heap) (hd : A.depth < recursionLimit) (he : s.heap.get? e = some (exO tp none)) (hXe : ∀ h' : Heap, (∀ b o, b ≠ e → s.heap.get? b = some o → h'.get? b = some o) → (kk.heap_1 w.params).In h')
    (hq : ∀ h' tk tp' dx, (∀ b o, b ≠ e → s.heap.get? b = some o → h'.get? b = some o) → h'.get? e = some (exO tp' (some dx)) → Q .none { s with heap := h', toks := tk }) :
    wpAny (model prog w) A (call (.ref 35) [.ref e, .str why t]) Q E s := by
  refine wpAny_call (codeAny_call_def hd (X _ _ (show (kk.heap_1 w.params).lookup 35 = some _ by k_is)) rfl TT.nolimit (codeRec_of X (by k_is)) rfl (.of_eq rfl) (by decide) (locs rfl) (fun h₀ hns hk => ?_))
  have X0 := X.keeps hk
  have T0 := TT.keeps hk
  have he0 := hk _ _ he
  rw [arm_execs_cons]
  refine wpAny_bind ?_
  refine wpAny_Expr_any (hi := by rfl) (hs := by rfl) ?_
  refine methodCall_KW (pl := ?pl) ?_ ?hm
  case hm => rfl
  refine Name_function_global rfl rfl (loadGlobal_builtin T0.g (mg_none_of X0 T0.g (by k_is)) T0.b ((T0.builtins _ (by decide)).trans (by boot_fast)) ?_) (by decide)
  have F1 : Fr emptyH s.heap.objs.size h₀ (fun x => ([(Str.ofString "self", Value.ref e), (Str.ofString "why", Value.str why t)] : List (Str × Value)).reverse.lookup x) := ⟨hns, (fun b o q => by rw [emptyH_get] at q; injection q), Nat.zero_le _⟩
  refine method_type (K := []) (h₀ := emptyH) (m := fun x => ([(Str.ofString "self", Value.ref e), (Str.ofString "why", Value.str why t)] : List (Str × Value)).reverse.lookup x) F1 (fun _ _ q => nomatch q) typExc (by kernel_rfl) excMeth rfl ?_
  refine PySem.W.callWith_of (P := fun _ => True) rfl (fun h _ => KeepsF.builtin) (evalArgs_plain ?_)
  refine wpAny_bind (wpAny_Name (wpAny_loadName_local (v := .ref e) rfl rfl hns rfl ?_) (by decide))
  refine wpAny_bind (wpAny_pure (wpAny_bind (wpAny_holding ?_)))
  refine wpAny_bind (wpAny_Name (wpAny_loadName_local (v := .str why t) rfl rfl hns rfl ?_) (by decide))
  refine wpAny_bind (wpAny_pure (wpAny_bind (wpAny_holding (wpAny_pure (wpAny_pure (wpAny_pure ⟨trivial, ?_⟩))))))
  refine excInit (v := .str why t) X0 he0 fun h1 tp1 k1 e1 => ?_
  have hLe : s.heap.objs.size ≠ e := Nat.ne_of_gt (Heap.lt_size he)
  have hns1 : h1.Ns s.heap.objs.size (fun x => ([(Str.ofString "self", Value.ref e), (Str.ofString "why", Value.str why t)] : List (Str × Value)).reverse.lookup x) := by
    obtain ⟨o, es, ep, hh, r⟩ := hns; exact ⟨o, es, ep, k1 _ _ hLe hh, r⟩
  have X1 : (kk.heap_1 w.params).In h1 := hXe h1 fun b o hb ho => k1 b o hb (hk b o ho)
  dsimp only
  rw [arm_execs_cons]
  refine wpAny_bind ?_
  rw [arm_exec_Assign]
  refine wpAny_bind (wpAny_standAt ?_)
  refine wpAny_bind (wpAny_of_eq (a := false) rfl ?_)
  refine rwP (if_neg (by decide)) ?_
  refine wpAny_bind (wpAny_Name (wpAny_loadName_local (v := .str why t) rfl rfl hns1 rfl ?_) (by decide))
  refine wpAny_bind (wpAny_of_eq (a := Option.none) rfl ?_)
  refine wpAny_bind ?_
  simp only [assignEach, List.map_cons, List.map_nil, assignAll]
  rw [arm_assign_Attribute]
  refine wpAny_bind (wpAny_holding (wpAny_Name (wpAny_loadName_local (v := .ref e) rfl rfl hns1 rfl ?_) (by decide)))
  refine wpAny_bind (wpAny_standAt (wpAny_bind (wpAny_holding ?_)))
  refine excStore X1 e1 fun h2 dx tk k2 e2 => ?_
  refine wpAny_release (wpAny_pure ?_)
  rw [arm_execs_nil]
  refine wpAny_pure ?_
  exact hq h2 tk tp1 dx (fun b o hb ho => k2 b o hb (k1 b o hb (hk b o ho))) e2
end
end Mine
end
section
namespace Mine
theorem fillK6 (w : World) (h : Heap) : (PySem.Challenge.rw_nm0141_01 = PySem.Challenge.rw_nm0141_01) → (kk.heap_1 w.params).In h → True := by
  k_fill
  intros; trivial
set_option maxHeartbeats 1000000
theorem tail63 : ExcTail "Exception" [Value.ref 38, .type "Exception", .type "BaseException", .type "object"] := ⟨by decide, by decide, by decide, by decide⟩
section
variable {w : World} {c : Cx} {T : TM} {s : Shared} {m : Lm} {σ : CH}
theorem Wf.misused (W : Wf w c T m σ s) {why : Str} {t : Tok} {Q : Value → Shared → Prop} {E : Value → Shared → Prop}
    (hq : ∀ h' tk e tp dx, (∀ b o, s.heap.get? b = some o → h'.get? b = some o) → s.heap.get? e = none → h'.get? e = some (exO tp (some dx)) → Q (.ref e) { s with heap := h', toks := tk }) :
    wpAny (model c.prog w) c.A (call (.ref 63) [.str why t]) Q E s := by
  obtain ⟨p, lo, mg, mb, TT, X⟩ := Topped.ns W.toW0
  rw [KF_eq] at X
  have hd : c.A.depth + 2 < recursionLimit := by have := W.ok.depth; have := W.ok.lvl; have : recursionLimit = 1000 := rfl; lia
  obtain ⟨h, g, d, tk, os⟩ := s
  refine exCall (K := kk.heap_1 w.params) (fI := 35) PySem.F.excBase_Exception tail63 X (by k_is) (by k_is) (X _ _ (show (kk.heap_1 w.params).lookup 63 = some _ by k_is)) (fun h1 e tp hk hn hle he => ?_) (by refine rwP sizeLine_eq ?_; show 1 ≤ _; lia)
  refine init35 (p := p) (lo := lo) (mg := mg) (mb := mb) (X.keeps hk) (TT.keeps hk) (by rw [depth_under_make]; lia) he (fun h2 k2 a o ho => k2 a o (fun q => ?_) (hk _ _ (X a o ho))) fun h2 tk2 tp2 dx k2 e2 => ⟨rfl, ?_⟩
  · have := X a o ho
    rw [q] at this
    rw [show (Shared.heap ⟨h, g, d, tk, os⟩).get? e = h.get? e from rfl, hn] at this; injection this
  · exact hq h2 tk2 e tp2 dx (fun b o ho => k2 b o (fun q => by rw [q] at ho; rw [show (Shared.heap ⟨h, g, d, tk, os⟩).get? e = h.get? e from rfl, hn] at ho; injection ho) (hk b o ho)) hn e2
end
end Mine
end
section
namespace Mine
theorem fillK7 (w : World) (h : Heap) : (PySem.Challenge.rw_nm0141_01 = PySem.Challenge.rw_nm0141_01) → (kk.heap_1 w.params).In h → True := by
  k_fill
  intros; trivial
set_option maxHeartbeats 1000000
theorem keeps63 {w : World} {M : Model} {h : Heap} (X : (kk.heap_1 w.params).In h) : KeepsF M h (.ref 63) := keeps_K (by k_is) h X
section
variable {w : World} {c : Cx} {T : TM} {s : Shared} {m : Lm} {σ : CH} {X : CH → Prop} {Q : Fl → Lm → CH → Prop}
theorem raiseOwn {M : Model} {A : Around} {env : Env} {E : Value → Shared → Prop} {C : Addr} {bm : List Value}
    {s : Shared} {x : Sem Value} {Q : Flow → Shared → Prop} (hbase : bm.contains (.type "BaseException") = true) (hh : A.handled = none)
    (h : wpAny M A x (fun v s₁ => ∃ e t dx, v = .ref e ∧ (∃ nm q N bs hdct sn sub ab col dd k0 k1 k2 k3 k5 newId, s₁.heap.get? C = some (excClassObj nm q C N bs bm hdct sn sub ab col dd k0 k1 k2 k3 k5 newId)) ∧
      s₁.heap.get? e = some { cls := .ref C, dict := some dx, data := .fields #[.ref t, .none, .none, .none, .bool false, .none] } ∧ E (.ref e) s₁) E s) :
    wpAny M A (raiseStmt env (some x) none) Q E s := by
  have hcB : (Value.ref C :: bm).contains (.type "BaseException") = true := by refine rwP List.contains_cons ?_; refine rwP hbase ?_; rw [Bool.or_true]
  refine wpAny_bind (wpAny_mono h (fun v s₁ h₁ => ?_) fun _ _ x => x)
  refine hide fun Ph hPh => ?_
  obtain ⟨e, t, dx, rfl, ⟨nm, q, N, bs, hdct, sn, sub, ab, col, dd, k0, k1, k2, k3, k5, newId, hC⟩, he, hE⟩ := h₁
  obtain ⟨hp, g, d, tk, os⟩ := s₁
  refine hPh ?_
  repeat (first | with_reducible refine wpAny_loadPart_at he ?_ | with_reducible refine wpAny_loadPart_at hC ?_ | (with_reducible refine wpAny_isSubtype_exc hC ?_; refine rwP hcB ?_) | wp_step)
  exact wpAny_raiseNew_none hh hE
theorem XV.raise {x t : Str} {np p1 cpos pos : Pos} {k0 : Nat} (hx : nsIn (kk.heap_1 w.params) mainGlobals x = some (some (.ref 63))) (hk : c.sc.names.lookup x = some .globalImplicit) (hd : (x == dbg) = false) (hX : X σ) :
    XV w c (.Raise (some (.Call (.Name x np) [.Constant (.str t) k0 p1] [] cpos)) none pos) m σ Q X := fun T s W => by
  refine ⟨fun Qr Er hp hq he => ?_⟩
  rw [arm_exec_Raise]
  refine of <| wpAny_bind (wpAny_standAt ?_)
  have fin : ∀ (P : Value → Shared → Prop), (∀ h' tk e tp dx, (∀ b o, s.heap.get? b = some o → h'.get? b = some o) → s.heap.get? e = none → h'.get? e = some (exO tp (some dx)) → P (.ref e) { s with heap := h', toks := tk }) →
      wpAny (model c.prog w) c.A (eval (.Call (.Name x np) [.Constant (.str t) k0 p1] [] cpos) c.env) P Er s := fun P hP => by
    obtain ⟨p, lo, mg, mb, TT, XX⟩ := Topped.ns W.toW0
    rw [KF_eq] at XX
    rw [arm_eval_Call_Name']
    refine wpAny_bind (Name_function_global (env := c.env) W.ok.kind hk (loadGlobal_global (env := c.env) TT.g (mg_of XX TT.g hx) ?_) hd)
    refine PySem.W.callWith_of (P := fun h => KeepsF (model c.prog w) h (.ref 63)) rfl (fun h k => k) (evalArgs_plain ?_)
    refine wpAny_bind (Constant_str (k := k0) (pos := p1) (wpAny_bind (wpAny_pure (wpAny_bind (wpAny_holding (wpAny_pure (wpAny_pure ?_)))))))
    refine ⟨keeps63 XX, ?_⟩
    exact (W.tok (s.toks + 1)).misused fun h' tk e tp dx k1 k2 k3 => hP h' tk e tp dx k1 k2 k3
  show wpAny (model c.prog w) c.A (raiseStmt c.env (some _) none) Qr Er s
  refine raiseOwn (C := 63) (bm := [Value.ref 38, .type "Exception", .type "BaseException", .type "object"]) (by decide) W.ok.handled (wpAny_bind (fin _ fun h' tk e tp dx k1 k2 k3 => wpAny_bind (wpAny_standAt (wpAny_pure ?_))))
  obtain ⟨p, lo, mg, mb, TT, XX⟩ := Topped.ns (W.keeps (t := tk) k1).toW0
  rw [KF_eq] at XX
  refine ⟨e, tp, dx, rfl, ⟨_, _, _, _, _, _, _, _, _, _, _, _, _, _, _, _, XX _ _ (show (kk.heap_1 w.params).lookup 63 = some _ by k_is)⟩, k3, ?_⟩
  exact he m σ T _ (.ref e) hX (W.keeps k1) (.refl T) ⟨e, _, _, rfl, W.toW0.fresh' k2, k3, rfl, rfl, .inl rfl⟩
end
end Mine
end
section
namespace Mine
section
variable {w : World} {c : Cx} {m : Lm} {σ : CH} {X : CH → Prop} {Q : CV → Lm → CH → Prop}
theorem CallV.isInt {n : Int} (q : Q (.bool true) m σ) : CallV w c (.top (.builtin "isinstance")) [.int n, .top (.type "int")] m σ Q X :=
  .prim (fun _ _ => .builtin) fun T s vs W ra => by
    obtain ⟨v, vs', rfl, r, ra⟩ := ra.cons_inv
    obtain ⟨v2, vs2, rfl, r2, ra⟩ := ra.cons_inv
    cases ra.nil_inv
    refine rwP r2.top_inv ?_
    obtain ⟨t, rfl⟩ := r.int_inv
    refine ⟨fun Qr Er hp hq _ => of <| call_isinstance (isinstance_true (Tx := "int") (by kernel_rfl) isSubtype_int_int) ⟨rfl, ?_⟩⟩
    exact hq _ m σ T _ _ q W (.refl T) VR.bool
theorem CallV.isBoolNo {n : Int} (q : Q (.bool false) m σ) : CallV w c (.top (.builtin "isinstance")) [.int n, .top (.type "bool")] m σ Q X :=
  .prim (fun _ _ => .builtin) fun T s vs W ra => by
    obtain ⟨v, vs', rfl, r, ra⟩ := ra.cons_inv
    obtain ⟨v2, vs2, rfl, r2, ra⟩ := ra.cons_inv
    cases ra.nil_inv
    refine rwP r2.top_inv ?_
    obtain ⟨t, rfl⟩ := r.int_inv
    refine ⟨fun Qr Er hp hq _ => of <| call_isinstance (isinstance_false_int (by decide) (by kernel_rfl) (by rw [isSubtype_type]; kernel_rfl)) ?_⟩
    exact hq _ m σ T _ _ q (W.tok _) (.refl T) VR.bool
theorem CallV.boolInt {b : Bool} (q : Q (.bool true) m σ) : CallV w c (.top (.builtin "isinstance")) [.bool b, .top (.type "int")] m σ Q X :=
  .prim (fun _ _ => .builtin) fun T s vs W ra => by
    obtain ⟨v, vs', rfl, r, ra⟩ := ra.cons_inv
    obtain ⟨v2, vs2, rfl, r2, ra⟩ := ra.cons_inv
    cases ra.nil_inv
    refine rwP r2.top_inv ?_
    refine rwP r.bool_inv ?_
    refine ⟨fun Qr Er hp hq _ => of <| call_isinstance (isinstance_true (Tx := "bool") (by kernel_rfl) (by rw [isSubtype_type]; kernel_rfl)) ⟨rfl, ?_⟩⟩
    exact hq _ m σ T _ _ q W (.refl T) VR.bool
theorem CallV.boolBool {b : Bool} (q : Q (.bool true) m σ) : CallV w c (.top (.builtin "isinstance")) [.bool b, .top (.type "bool")] m σ Q X :=
  .prim (fun _ _ => .builtin) fun T s vs W ra => by
    obtain ⟨v, vs', rfl, r, ra⟩ := ra.cons_inv
    obtain ⟨v2, vs2, rfl, r2, ra⟩ := ra.cons_inv
    cases ra.nil_inv
    refine rwP r2.top_inv ?_
    refine rwP r.bool_inv ?_
    refine ⟨fun Qr Er hp hq _ => of <| call_isinstance (isinstance_true (Tx := "bool") (by kernel_rfl) (by rw [isSubtype_type]; kernel_rfl)) ⟨rfl, ?_⟩⟩
    exact hq _ m σ T _ _ q W (.refl T) VR.bool
theorem CallV.strInt {x : Str} (q : Q (.bool false) m σ) : CallV w c (.top (.builtin "isinstance")) [.str x, .top (.type "int")] m σ Q X :=
  .prim (fun _ _ => .builtin) fun T s vs W ra => by
    obtain ⟨v, vs', rfl, r, ra⟩ := ra.cons_inv
    obtain ⟨v2, vs2, rfl, r2, ra⟩ := ra.cons_inv
    cases ra.nil_inv
    refine rwP r2.top_inv ?_
    obtain ⟨t, rfl⟩ := r.str_inv
    refine ⟨fun Qr Er hp hq _ => of <| call_isinstance (isinstance_false_str (by decide) (by kernel_rfl) (by rw [isSubtype_type]; kernel_rfl)) ?_⟩
    exact hq _ m σ T _ _ q (W.tok _) (.refl T) VR.bool
theorem CallV.noneInt (q : Q (.bool false) m σ) : CallV w c (.top (.builtin "isinstance")) [.none, .top (.type "int")] m σ Q X :=
  .prim (fun _ _ => .builtin) fun T s vs W ra => by
    obtain ⟨v, vs', rfl, r, ra⟩ := ra.cons_inv
    obtain ⟨v2, vs2, rfl, r2, ra⟩ := ra.cons_inv
    cases ra.nil_inv
    refine rwP r2.top_inv ?_
    refine rwP r.none_inv ?_
    refine ⟨fun Qr Er hp hq _ => of <| call_isinstance (isinstance_false_none (by decide) (by kernel_rfl) (by rw [isSubtype_type]; kernel_rfl)) ?_⟩
    exact hq _ m σ T _ _ q (W.tok _) (.refl T) VR.bool
end
end Mine
end
section
namespace Mine
section
variable {w : World} {c : Cx} {m : Lm} {σ : CH} {X : CH → Prop} {Q : CV → Lm → CH → Prop}
theorem CallV.flInt {l : List CV} (q : Q (.bool false) m σ) : CallV w c (.top (.builtin "isinstance")) [.fl l, .top (.type "int")] m σ Q X :=
  .prim (fun _ _ => .builtin) fun T s vs W ra => by
    obtain ⟨v, vs', rfl, r, ra⟩ := ra.cons_inv
    obtain ⟨v2, vs2, rfl, r2, ra⟩ := ra.cons_inv
    cases ra.nil_inv
    refine rwP r2.top_inv ?_
    obtain ⟨a, k, vs, rfl, ha, hv⟩ := r.fl_inv
    have ho := W.toW0.frz _ _ ha
    refine ⟨fun Qr Er hp hq _ => of <| call_isinstance (isinstance_false_list (by decide) (by kernel_rfl) (by rw [isSubtype_type]; kernel_rfl)) ⟨⟨_, ho, rfl⟩, ?_⟩⟩
    exact hq _ m σ T _ _ q (W.tok _) (.refl T) VR.bool
end
end Mine
end
section
namespace Mine
section
variable {w : World} {c : Cx} {m : Lm} {σ : CH} {X : CH → Prop} {Q : CV → Lm → CH → Prop}
theorem EV.drop1 {x : Str} {np : Pos} {k0 : Nat} {p p1 pos : Pos} {l : List CV} (h : m.lookup x = some (.fl l)) (k : c.sc.names.lookup x = some .local) (hz : l.length ≤ 1000000) (q : Q (.fl (l.drop 1)) m σ) (hd : (x == dbg) = false) :
    EV w c (.Subscript (.Name x np) (.Slice (some (.Constant (.int 1) k0 p1)) none none p) pos) m σ Q X := fun T s W => by
  obtain ⟨mm, hn, hb⟩ := W.loc
  obtain ⟨v, e, r1⟩ : ∃ v, mm x = some v ∧ VR T (.fl l) v := by
    have k' : c.env.kindOf x = some .local := k
    rcases (hb x _ h).cases nofun with ⟨_, v, e, r⟩ | ⟨k2 | ⟨k2, _⟩, _⟩
    · exact ⟨v, e, r⟩
    · rw [k'] at k2; cases k2
    · rw [k'] at k2; cases k2
  obtain ⟨a, kk, vs, rfl, ha, hv⟩ := r1.fl_inv
  refine ⟨fun Qr Er hp hq _ => of (wpAny_Subscript_list_slice (wpAny_Name (wpAny_loadName_local W.ok.kind k hn e ?_) hd) (by intro _ _; rfl))⟩
  rw [evalPart_some]
  refine wpAny_Constant_int ?_
  have W2 := W.tok (s.toks + 1)
  rw [evalPart_none]
  refine wpAny_pure ⟨a, vs.toArray, some 1, none, rfl, ⟨_, W2.toW0.frz _ _ ha, rfl, kk, rfl⟩, by refine rwP List.size_toArray ?_; refine rwP hv.length ?_; refine rwP sizeLine_eq ?_; lia, .int 1 s.toks, .none, ?_⟩
  refine rwP (show slicePick vs.toArray (some 1) none none = (vs.drop 1).toArray from slicePick_from' vs.toArray 1) ?_
  have hv2 : VX T (l.drop 1) (vs.drop 1) := by
    have := hv
    cases l with
    | nil => cases this.nil_inv; exact .nil
    | cons b l => obtain ⟨v, vs', rfl, r, ra⟩ := this.cons_inv; exact ra
  have hp1 : ∀ (h : Heap) (o1 o2 : Obj) b o, h.get? b = some o → ((h.push o1).push o2).get? b = some o := fun h o1 o2 b o e => Heap.get?_push_of_some _ (Heap.get?_push_of_some _ e)
  have hn : s.heap.get? (s.heap.objs.size + 1) = none := by
    cases e : s.heap.get? (s.heap.objs.size + 1) with
    | none => rfl
    | some o =>
      have := Heap.get?_push_of_some { cls := Value.type "slice", data := Data.fields #[] } e
      rw [show s.heap.objs.size + 1 = (s.heap.push { cls := Value.type "slice", data := Data.fields #[] }).objs.size from (Heap.size_push _ _).symm, get?_size_none] at this
      injection this
  have hT := W2.toW0.fresh' hn
  have x : Ext T (T.put (s.heap.objs.size + 1) (.frz (lstO (vs.drop 1) 0))) := Ext.put hT
  refine hq _ _ _ _ _ _ q ((W2.keeps (t := (s.toks + 1)) (hp1 s.heap _ _)).freeze hT (by refine rwB (Heap.size_push s.heap { cls := Value.type "slice", data := Data.fields #[Value.int 1 s.toks, Value.none, Value.none] }) ?_; exact Heap.get?_push_size _ rfl)) x (VR.fl (TM.put_self ..) (hv2.mono x))
end
end Mine
end
section
namespace Mine
section
variable {w : World} {c : Cx} {m : Lm} {σ : CH} {X : CH → Prop} {Q : CV → Lm → CH → Prop}
theorem CallV.typeInt {n : Int} (q : Q (.top (.type "int")) m σ) : CallV w c (.top (.type "type")) [.int n] m σ Q X :=
  .prim (fun _ _ => .type) fun T s vs W ra => by
    obtain ⟨v, vs', rfl, r, ra⟩ := ra.cons_inv
    cases ra.nil_inv
    obtain ⟨t, rfl⟩ := r.int_inv
    refine ⟨fun Qr Er hp hq _ => of <| call_type_of (Tx := "int") rfl (by decide) ?_⟩
    exact hq _ m σ T _ _ q W (.refl T) VR.top
theorem CallV.typeBool {n : Bool} (q : Q (.top (.type "bool")) m σ) : CallV w c (.top (.type "type")) [.bool n] m σ Q X :=
  .prim (fun _ _ => .type) fun T s vs W ra => by
    obtain ⟨v, vs', rfl, r, ra⟩ := ra.cons_inv
    cases ra.nil_inv
    refine rwP r.bool_inv ?_
    refine ⟨fun Qr Er hp hq _ => of <| call_type_of (Tx := "bool") rfl (by decide) ?_⟩
    exact hq _ m σ T _ _ q W (.refl T) VR.top
theorem CallV.typeNone (q : Q (.top (.type "NoneType")) m σ) : CallV w c (.top (.type "type")) [.none] m σ Q X :=
  .prim (fun _ _ => .type) fun T s vs W ra => by
    obtain ⟨v, vs', rfl, r, ra⟩ := ra.cons_inv
    cases ra.nil_inv
    refine rwP r.none_inv ?_
    refine ⟨fun Qr Er hp hq _ => of <| call_type_of (Tx := "NoneType") rfl (by decide) ?_⟩
    exact hq _ m σ T _ _ q W (.refl T) VR.top
theorem CallV.typeStr {x : Str} (q : Q (.top (.type "str")) m σ) : CallV w c (.top (.type "type")) [.str x] m σ Q X :=
  .prim (fun _ _ => .type) fun T s vs W ra => by
    obtain ⟨v, vs', rfl, r, ra⟩ := ra.cons_inv
    cases ra.nil_inv
    obtain ⟨t, rfl⟩ := r.str_inv
    refine ⟨fun Qr Er hp hq _ => of <| call_type_of (Tx := "str") rfl (by decide) ?_⟩
    exact hq _ m σ T _ _ q W (.refl T) VR.top
theorem CallV.typeFl {l : List CV} (q : Q (.top (.type "list")) m σ) : CallV w c (.top (.type "type")) [.fl l] m σ Q X :=
  .prim (fun _ _ => .type) fun T s vs W ra => by
    obtain ⟨v, vs', rfl, r, ra⟩ := ra.cons_inv
    cases ra.nil_inv
    obtain ⟨a, k, vs, rfl, ha, hv⟩ := r.fl_inv
    refine ⟨fun Qr Er hp hq _ => of <| call_type_of (Tx := "list") ⟨_, W.toW0.frz _ _ ha, rfl⟩ (by decide) ?_⟩
    exact hq _ m σ T _ _ q W (.refl T) VR.top
end
end Mine
end
section
namespace Mine
section
variable {w : World} {c : Cx} {T : TM} {s : Shared} {m : Lm} {σ : CH} {X : CH → Prop}
theorem iter_nzip {l1 : List CV} {j k n : Nat} (hn : σ n = some (.nzit l1 j k)) : IterTo w c (.ref n) m σ n σ := fun X T s v W r => by
  obtain ⟨a, rfl, ha⟩ := r.ref_inv
  obtain ⟨d, Z, _⟩ := W.own _ _ hn
  have := W.uniq a d.z n ha Z.tz; subst this
  refine ⟨fun Qr Er hp hq he => ?_⟩
  exact of (wpAny_pyIter_zip Z.hz (hq (.ref n) m σ T s _ ⟨rfl, rfl, rfl⟩ W (.refl T) r))
theorem itr_nzit {w : World} {n : Nat} {l1 : List CV} {j k : Nat} : Itr w n (.nzit l1 j k) := fun c σ T m s v hn W r Qr Er hq => by
  obtain ⟨a, rfl, ha⟩ := r.ref_inv
  obtain ⟨d, Z, _⟩ := W.own _ _ hn
  have := W.uniq a d.z n ha Z.tz; subst this
  exact wpAny_pyIter_zip Z.hz hq
end
end Mine
end
section
namespace Mine
theorem slot_type_ne : Slot "type" (cmpInfo .NotEq).2.1 "object.__ne__" :=
  .of (owner := "object") (n := "__ne__") (by rewrite [typeLookup_type]; refine rwP builtinLookup_eq_fast ?_; kernel_rfl) (by decide +kernel) (by decide +kernel) (by decide +kernel)
    (by first | exact .inl (by decide +kernel) | exact .inr (by decide +kernel)) (by rw [isSubtype_type]; kernel_rfl)
section
variable {prog : Program} {w : World} {A : Around} {E : Value → Shared → Prop} {s : Shared} {Q : Value → Shared → Prop}
theorem type_eq_special {X Y : String} (hX : ∀ s' : Shared, s'.TypeIs (.type X) "type") {Q : Option Value → Shared → Prop} (h : Q (some (if (Value.type X == Value.type Y) then .bool true else .notImplemented)) s) :
    wpAny (model prog w) A (callSpecialIfBound? (.type X) "__eq__" [.type Y]) Q E s := by
  refine wpAny_callSpecialIfBound?_slot (hX s) TypeEq.slot_type_eq ?_
  cases e : (Value.type X == Value.type Y) with
  | true => exact call_gives TypeEq.slot_type_eq (hX s) F.entry_object_eq (F.args_object_eq_2 _ _) (TypeEq.object_eq_same rfl e) (by rw [e] at h; exact h)
  | false => exact call_gives TypeEq.slot_type_eq (hX s) F.entry_object_eq (F.args_object_eq_2 _ _) (TypeEq.object_eq_other rfl e) (by rw [e] at h; exact h)
theorem call_type_ne {X Y : String} (hX : ∀ s' : Shared, s'.TypeIs (.type X) "type") (h : Q (if (Value.type X == Value.type Y) then .bool false else .notImplemented) s) :
    wpAny (model prog w) A (call (.builtin "object.__ne__") [.type X, .type Y]) Q E s := by
  refine call_meets (S := fun _ R s => R (.ok (.ret (if (Value.type X == Value.type Y) then .bool false else .notImplemented))) s) slot_type_ne (hX s) F.entry_object_ne (F.args_object_ne_2 _ _) (fun prog w A R s h => ?_) h
  show wpAny _ _ (Builtin.«object.__ne__» ⟨[.type X, .type Y], []⟩) _ _ s
  refine wpAny_bind (m := slotArgs "__ne__" 1 _) (wpAny_pure ?_)
  refine wpAny_bind (wpAny_cRoomFor_or (.inl rfl) ?_)
  refine wpAny_bind (type_eq_special hX ?_)
  cases e : (Value.type X == Value.type Y) with
  | true =>
    rw [e] at h
    refine rwP (if_pos rfl) ?_
    repeat wp_step
    exact h
  | false =>
    rw [e] at h
    refine rwP (if_neg (by decide)) ?_
    repeat wp_step
    exact h
theorem ne_type {X Y : String} (hX : ∀ s' : Shared, s'.TypeIs (.type X) "type") (hY : ∀ s' : Shared, s'.TypeIs (.type Y) "type") (h : Q (.bool (!(Value.type X == Value.type Y))) s) :
    wpAny (model prog w) A (compareOp .NotEq (.type X) (.type Y)) Q E s := by
  show wpAny _ A (richCompare .NotEq _ _) Q E s
  cases e : (Value.type X == Value.type Y) with
  | true =>
    refine wpAny_richCompare_same (T := "type") (hX s) (hY s) slot_type_ne (call_type_ne hX ?_)
    rw [e] at h ⊢
    exact ⟨(by intro e; injection e), h⟩
  | false =>
    have e' : (Value.type Y == Value.type X) = false := by
      rw [Bool.eq_false_iff] at e ⊢
      intro q
      exact e (by rw [beq_iff_eq] at q ⊢; exact q.symm)
    have hi : cmpInfo .NotEq = (("!=", "__ne__", "__ne__") : String × Str × Str) := rfl
    have h1 := slot_type_ne
    rw [hi] at h1
    dsimp only [richCompare, hi, (hX s).oneThing_none]
    refine wpAny_holding ?_
    refine wpAny_bind (wpAny_cRoomFor_or (.inl rfl) ?_)
    refine wpAny_bind (wpAny_typeOf (hX s) (wpAny_bind (wpAny_typeOf (hY s) ?_)))
    refine wpAny_bind (m := tryCompare (.type X) _ (.type Y)) (wpAny_tryCompare_declines (hX s) h1 (call_type_ne hX ?_))
    refine rwP e ?_
    refine ⟨rfl, ?_⟩
    refine wpAny_bind (m := tryCompare (.type Y) _ (.type X)) (wpAny_tryCompare_declines (hY s) h1 (call_type_ne hY ?_))
    refine rwP e' ?_
    refine ⟨rfl, ?_⟩
    refine wpAny_bind (wpAny_rule (wpAny_bind (wpAny_of_eq (isSame_plain rfl) (wpAny_pure h))))
end
noncomputable def CmpV (w : World) (c : Cx) (op : CmpOp) (a b : CV) (m : Lm) (σ : CH) (Q : Bool → Lm → CH → Prop) (X : CH → Prop) : Prop :=
  ∀ T s v1 v2, Wf w c T m σ s → VR T a v1 → VR T b v2 → J w c VR (compareOp op v1 v2) T s (fun cv m' σ' => ∃ b, cv = .bool b ∧ Q b m' σ') X
section
variable {w : World} {c : Cx} {m : Lm} {σ : CH} {X : CH → Prop} {Q : Bool → Lm → CH → Prop}
theorem TV.cmpV {l r : Expr} {op : CmpOp} {p : Pos} (h : EV w c l m σ (fun c1 m1 σ1 => EV w c r m1 σ1 (fun c2 m2 σ2 => CmpV w c op c1 c2 m2 σ2 Q X) X) X)
    (hm : behindInMarks op r = false) : TV w c (.Compare l [op] [r] p) m σ Q X := fun T s W => by
  refine J.eq (isTrue_Compare1 c.env l op r p _) ?_
  refine rwP (markedBehindIn_of_false hm) ?_
  refine J.bind (h T s W) fun c1 m1 σ1 T1 s1 v1 q1 W1 x1 r1 => ?_
  refine J.bind (J.holding (q1 T1 s1 W1)) fun c2 m2 σ2 T2 s2 v2 q2 W2 x2 r2 => ?_
  refine J.standAt ?_
  refine J.bind (J.operate (q2 T2 s2 v1 v2 W2 (r1.mono x2) r2)) fun cv m3 σ3 T3 s3 v3 q3 W3 x3 r3 => ?_
  obtain ⟨b, rfl, q⟩ := q3
  exact J.holding (J.truthy W3 r3 q)
theorem EV.cmpV {l r : Expr} {op : CmpOp} {p : Pos} {Q : CV → Lm → CH → Prop} (h : EV w c l m σ (fun c1 m1 σ1 => EV w c r m1 σ1 (fun c2 m2 σ2 => CmpV w c op c1 c2 m2 σ2 (fun b => Q (.bool b)) X) X) X)
    (hm : behindInMarks op r = false) : EV w c (.Compare l [op] [r] p) m σ Q X := fun T s W => by
  refine J.eq (eval_Compare1 c.env l op r p) ?_
  refine rwP (markedBehindIn_of_false hm) ?_
  refine J.bind (h T s W) fun c1 m1 σ1 T1 s1 v1 q1 W1 x1 r1 => ?_
  refine J.bind (J.holding (q1 T1 s1 W1)) fun c2 m2 σ2 T2 s2 v2 q2 W2 x2 r2 => ?_
  refine J.standAt (J.operate (J.mono (q2 T2 s2 v1 v2 W2 (r1.mono x2) r2) (fun cv m' σ' h => ?_) fun _ h => h))
  obtain ⟨b, rfl, q⟩ := h
  exact q
theorem CmpV.neType {S U : String} (hS : ∀ s' : Shared, s'.TypeIs (.type S) "type") (hU : ∀ s' : Shared, s'.TypeIs (.type U) "type") (q : Q (!(Value.type S == Value.type U)) m σ) : CmpV w c .NotEq (.top (.type S)) (.top (.type U)) m σ Q X := fun T s v1 v2 W r1 r2 => by
  refine rwP r1.top_inv ?_; refine rwP r2.top_inv ?_
  refine ⟨fun Qr Er hp hq _ => of <| ne_type hS hU ?_⟩
  exact hq _ _ _ _ _ _ ⟨_, rfl, q⟩ W (.refl T) VR.bool
end
end Mine
end
section
namespace Mine
section
variable {w : World} {c : Cx} {m : Lm} {σ : CH} {X : CH → Prop} {Q : CV → Lm → CH → Prop}
theorem VX.bools {T : TM} : ∀ {bs : List Bool} {vs : List Value}, VX T (bs.map CV.bool) vs → vs = bs.map Value.bool
  | [], _, h => h.nil_inv
  | b :: bs, _, h => by
    obtain ⟨v, vs', rfl, r, h⟩ := VX.cons_inv (l := bs.map CV.bool) h
    refine rwP r.bool_inv ?_; refine rwP (VX.bools h) ?_; rfl
theorem all_range (bs : List Bool) : (List.range bs.length).all (fun i => bs[i]?.getD false) = bs.all id := by
  rw [Bool.eq_iff_iff]
  simp only [List.all_eq_true, List.mem_range, id]
  constructor
  · intro h x hx
    obtain ⟨i, hi, rfl⟩ := List.getElem_of_mem hx
    have := h i hi
    simpa [hi] using this
  · intro h i hi
    simp [hi, h bs[i] (List.getElem_mem hi)]
theorem CallV.all {bs : List Bool} (q : Q (.bool (bs.all id)) m σ) : CallV w c (.top (.builtin "all")) [.fl (bs.map CV.bool)] m σ Q X :=
  .prim (fun _ _ => .builtin) fun T s vs W ra => by
    obtain ⟨v, vs', rfl, r, ra⟩ := ra.cons_inv
    cases ra.nil_inv
    obtain ⟨a, k, vs, rfl, ha, hv⟩ := r.fl_inv
    have ho := W.toW0.frz _ _ ha
    have e := VX.bools hv
    have hl : (vs.toArray).size = bs.length := by refine rwP e ?_; simp
    refine ⟨fun Qr Er hp hq _ => of <| call_all_walk (wpAny_pyIter_list ⟨_, ho, rfl, k, rfl⟩ ?_)⟩
    refine ⟨s.heap.objs.size, _, _, _, _, _, fun i => bs[i]?.getD false, rfl, Walks.list (A := c.A.in1) W.ok.handled s.heap.objs.size a (Nat.ne_of_lt (Heap.lt_size ho)) vs.toArray, And.intro ⟨_, Heap.get?_push_size _ rfl, rfl, rfl⟩ ⟨_, Heap.get?_push_of_some _ ho, rfl, k, rfl⟩, fun i v s Q E hi hQ => ?_, fun h' tk hk => ?_⟩
    · have : vs[i]? = some v := by simpa using hi
      rw [e, List.getElem?_map] at this
      have hQ : Q (bs[i]?.getD false) s := hQ
      cases hb : bs[i]? with
      | none => rw [hb] at this; injection this
      | some b =>
        rw [hb] at this hQ
        obtain rfl := Option.some.inj this
        exact wpAny_truthy_bool hQ
    · refine rwP hl ?_; rw [all_range]
      exact hq _ m σ T _ _ q (W.keeps fun b o e => hk b o (by simp only [List.mem_singleton]; exact Nat.ne_of_lt (Heap.lt_size e)) (Heap.get?_push_of_some _ e)) (.refl T) VR.bool
theorem upL_length : ∀ (k : Nat) (x : Int), (upL x k).length = k
  | 0, _ => rfl
  | k + 1, x => by simp [upL, upL_length k]
theorem upL_get : ∀ (k : Nat) (x : Int) (i : Nat), i < k → (upL x k)[i]? = some (.int (x + i))
  | k + 1, x, 0, _ => by simp [upL]
  | k + 1, x, i + 1, h => by
    rewrite [upL]; refine rwP List.getElem?_cons_succ ?_; refine rwP (upL_get k (x + 1) i (by lia)) ?_
    congr 2; lia
theorem VX.ofItems {T : TM} : ∀ {l : List CV} {vs : List Value}, vs.length = l.length → (∀ (i : Nat) (c : CV) (v : Value), l[i]? = some c → vs[i]? = some v → VR T c v) → VX T l vs
  | [], [], _, _ => .nil
  | c :: l, v :: vs, h, k => .cons (k 0 c v rfl rfl) (VX.ofItems (by simpa using h) fun i c' v' h1 h2 => k (i + 1) c' v' (by simpa using h1) (by simpa using h2))
  | [], _ :: _, h, _ => by injection h
  | _ :: _, [], h, _ => by injection h
theorem J.newL2 {T : TM} {s : Shared} {t : Sem Value} (no : Option Nat) {cs : List CV} (W : Wf w c T m σ s) (q : lstQ no cs m σ Q)
    (h : ∀ (Qr : Value → Shared → Prop) (Er : Value → Shared → Prop), (∀ a h' tk k vs, VX T cs vs → (∀ b o, s.heap.get? b = some o → h'.get? b = some o) → s.heap.get? a = none → h'.get? a = some (lstO vs k) → Qr (.ref a) { s with heap := h', toks := tk }) → wpAny (model c.prog w) c.A t Qr Er s) : J w c VR t T s Q X :=
  ⟨fun Qr Er hp hq he => of <| h Qr Er fun a h' tk k vs r hk hn ha => by
    have W' : Wf w c T m σ { s with heap := h', toks := tk } := W.keeps hk
    have hT := W.toW0.fresh' hn
    induction no with
    | none =>
      have x : Ext T (T.put a (.frz (lstO vs k))) := Ext.put hT
      exact hq _ _ _ _ _ _ q (W'.freeze hT ha) x (VR.fl (TM.put_self ..) (r.mono x))
    | some n =>
      obtain ⟨q1, q2⟩ := q
      obtain ⟨x, W2⟩ := W'.nameNew (o := .list cs) hT ha q1 (fun T' x h => ⟨a, vs, k, h, ha, r.mono x⟩)
      exact hq _ _ _ _ _ _ q2 W2 x (VR.ref (TM.put_self ..))⟩
theorem CallV.listRange (no : Option Nat) {a b : Int} (h1 : -1000000 ≤ a) (h2 : a ≤ 1000000) (h3 : -1000000 ≤ b) (h4 : b ≤ 1000000) (q : lstQ no (upL a (b - a).toNat) m σ Q) : CallV w c (.top (.type "list")) [.rng a b] m σ Q X :=
  .prim (fun _ _ => .type) fun T s vs W ra => by
    obtain ⟨v, vs', rfl, r, ra⟩ := ra.cons_inv
    cases ra.nil_inv
    obtain ⟨rr, t, u, z, rfl, ha⟩ := r.rng_inv
    have ho := W.toW0.frz _ _ ha
    have hsm : Builtin.Range.small a b 1 = true := by
      have e : Builtin.Range.rangeSize a b 1 = if a < b then b - a - 1 + 1 else 0 := by rewrite [Builtin.Range.rangeSize]; refine rwP (if_pos (by decide)) ?_; rw [Int.ediv_one]
      have hf : ∀ x : Int, -4000000 ≤ x → x ≤ 4000000 → Builtin.Range.rangeFitsLong x = true := fun x h1 h2 => by
        unfold Builtin.Range.rangeFitsLong; simp; lia
      unfold Builtin.Range.small
      refine rwP (hf a (by lia) (by lia)) ?_; refine rwP (hf b (by lia) (by lia)) ?_; refine rwP (hf 1 (by lia) (by lia)) ?_; refine rwP (if_pos (by decide)) ?_; refine rwP (hf (b + (1 - 1)) (by lia) (by lia)) ?_; refine rwP e ?_; refine rwP (hf _ (by split <;> lia) (by split <;> lia)) ?_
      simp
    have hsz : Builtin.Range.rangeSize a b 1 = ((b - a).toNat : Nat) := by
      unfold Builtin.Range.rangeSize
      refine rwP (if_pos (by decide)) ?_; rw [Int.ediv_one]
      split <;> lia
    refine J.newL2 no W q fun Qr Er h => call_list_range W.ok.handled ho hsm hsz (by lia) fun h' tk acc' c' hk hg hi => ?_
    have hx : VX T (upL a (b - a).toNat) acc'.toList := by
      refine VX.ofItems (by rewrite [upL_length]; refine rwP Array.length_toList ?_; refine rwP hi.1 ?_; rfl) fun i cc v h1 h2 => ?_
      have hlt : i < (b - a).toNat := by
        have := (List.getElem?_eq_some_iff.mp h1).1
        rwa [upL_length] at this
      rw [upL_get _ _ _ hlt] at h1
      obtain rfl := Option.some.inj h1
      obtain ⟨t, rfl⟩ := hi.2 i v (by simpa using h2)
      refine rwP (show a + (i : Int) * 1 = a + i by lia) ?_
      exact VR.int
    exact h _ h' tk c' acc'.toList hx hk (get?_size_none _) (by refine rwP hg ?_; rfl)
end
end Mine
end
section
namespace Mine
theorem fillK8 (w : World) (h : Heap) : (PySem.Challenge.rw_nm0141_01 = PySem.Challenge.rw_nm0141_01) → (kk.heap_1 w.params).In h → True := by
  k_fill
  intros; trivial
set_option maxHeartbeats 1000000
section
variable {w : World} {c : Cx} {m : Lm} {σ : CH} {X : CH → Prop}
theorem CmpV.inHeap {Q : Bool → Lm → CH → Prop} {n : Int} (q : Q (n == -16 || n == -17) m σ) : CmpV w c .In (.int n) (.top (.ref 66)) m σ Q X := fun T s v1 v2 W r1 r2 => by
  obtain ⟨t, rfl⟩ := r1.int_inv
  refine rwP r2.top_inv ?_
  obtain ⟨p, lo, mg, mb, TT, XX⟩ := Topped.ns W.toW0
  rw [KF_eq] at XX
  have ho := XX _ _ (show (kk.heap_1 w.params).lookup 66 = some _ by k_is)
  have hd : s.heap.DictOf (intKind c.prog w) 66 [(-16, .str "func" 279), (-17, .str "extern" 280)] :=
    ⟨_, _, _, ho, ⟨rfl, rfl, rfl⟩, rfl, fun e he => by
      simp only [List.mem_toArray, List.mem_cons, List.not_mem_nil, or_false] at he
      rcases he with rfl | rfl
      · exact ⟨-16, rfl, by kernel_rfl⟩
      · exact ⟨-17, rfl, by kernel_rfl⟩, .cons rfl rfl (.cons rfl rfl .nil), by decide⟩
  refine ⟨fun Qr Er hp hq _ => of <| wpAny_in_of (intKind_is c.prog w n t) (by decide) hd.mapOf ?_⟩
  have e : (valueAt [((-16 : Int), Value.str "func" 279), (-17, .str "extern" 280)] n).isSome = (n == -16 || n == -17) := by
    unfold valueAt
    simp only [List.find?_cons, List.find?_nil]
    by_cases h1 : n = -16
    · subst h1; rfl
    · by_cases h2 : n = -17
      · subst h2; rfl
      · have e1 : decide ((-16 : Int) = n) = false := decide_eq_false fun e => h1 e.symm
        have e2 : decide ((-17 : Int) = n) = false := decide_eq_false fun e => h2 e.symm
        refine rwP e1 ?_; refine rwP e2 ?_
        simp [h1, h2]
  refine rwP e ?_
  exact hq _ _ _ _ _ _ ⟨_, rfl, q⟩ (W.tok _) (.refl T) VR.bool
inductive PR (T : TM) : List (CV × CV) → List (Value × Value) → Prop
  | nil : PR T [] []
  | cons {a b u v l vs} : VR T a u → VR T b v → PR T l vs → PR T ((a, b) :: l) ((u, v) :: vs)
noncomputable def EP (w : World) (c : Cx) (pos : Pos) (ks : List (Option Expr)) (vs : List Expr) (m : Lm) (σ : CH) (Q : List (CV × CV) → Lm → CH → Prop) (X : CH → Prop) : Prop :=
  ∀ T s, Wf w c T m σ s → J w c PR (evalPairs (pairTrees ks vs c.env pos)) T s Q X
theorem EP.nil {pos : Pos} {Q : List (CV × CV) → Lm → CH → Prop} (q : Q [] m σ) : EP w c pos [] [] m σ Q X := fun T s W => J.pure W q .nil
theorem EP.cons {pos : Pos} {k v : Expr} {ks : List (Option Expr)} {vs : List Expr} {Q : List (CV × CV) → Lm → CH → Prop}
    (h : EV w c k m σ (fun ck m1 σ1 => EV w c v m1 σ1 (fun cv m2 σ2 => EP w c pos ks vs m2 σ2 (fun l => Q ((ck, cv) :: l)) X) X) X) : EP w c pos (some k :: ks) (v :: vs) m σ Q X := fun T s W => by
  rw [pairTrees, evalPairs]
  refine J.bind (h T s W) fun ck m1 σ1 T1 s1 v1 q1 W1 x1 r1 => ?_
  refine J.bind (J.holding (J.bind (q1 T1 s1 W1) fun cv m2 σ2 T2 s2 v2 q2 W2 x2 r2 => J.standAt (J.pure (Q := fun cv' m' σ' => EP w c pos ks vs m' σ' (fun l => Q ((ck, cv') :: l)) X) W2 q2 r2))) fun cv m2 σ2 T2 s2 v2 q2 W2 x2 r2 => ?_
  refine J.bind (J.holding (q2 T2 s2 W2)) fun l m3 σ3 T3 s3 v3 q3 W3 x3 r3 => ?_
  exact J.pure W3 q3 (.cons (r1.mono (x2.trans x3)) (r2.mono x3) r3)
theorem PR.strs {T : TM} : ∀ {es : List (Str × CV)} {vs : List (Value × Value)}, PR T (es.map fun p => (CV.str p.1, p.2)) vs → allStrKeys vs = true ∧ KR T es (strPairs vs)
  | [], _, h => by cases h; exact ⟨rfl, .nil⟩
  | (x, cv) :: es, _, h => by
    cases h with
    | cons a b r =>
      obtain ⟨t, rfl⟩ := a.str_inv
      obtain ⟨h1, h2⟩ := PR.strs (es := es) r
      exact ⟨h1, .cons b h2⟩
theorem KR.keys {T : TM} {es : List (Str × CV)} {kvs : List (Str × Value)} (r : KR T es kvs) : kvs.map (·.1) = es.map (·.1) := by
  induction r with
  | nil => rfl
  | cons _ _ ih => simp [ih]
theorem wpI_Dict {prog : Program} {w : World} {K : Type} [DecidableEq K] {knd : KeyKind prog w K} {A : Around} {E : Value → Shared → Prop} {s : Shared} {env : Env} {keys : List (Option Expr)} {values : List Expr} {pos : Pos} {Q : Value → Shared → Prop}
    (hall : keys.all (·.isSome) = true) (hl : keys.length = values.length) (h0 : keys ≠ []) (hlen : keys.length ≤ 15)
    (h : wpI (model prog w) A (evalPairs (pairTrees keys values env pos)) (fun vs s₁ => ∃ kvs, Carries knd vs kvs ∧ s₁.heap.DictOf knd s.heap.objs.size [] ∧
      ∀ h', h'.DictOf knd s.heap.objs.size (merged [] kvs) → Heap.SameBut s.heap.objs.size s₁.heap h' → Q (.ref s.heap.objs.size) { s₁ with heap := h', toks := s₁.toks + vs.length }) E
      { s with heap := s.heap.push { cls := .type "dict", data := .dict #[] } }) :
    wpI (model prog w) A (eval (.Dict keys values pos) env) Q E s := by
  have hn := pairTrees_length keys values env pos hall hl
  generalize hp : pairTrees keys values env pos = pairs at *
  have hlen : pairs.length ≤ 15 := by refine rwP hn ?_; exact hlen
  rewrite [arm_eval_Dict]; refine rwP (zip_pairTrees keys values env pos hall hl) ?_; refine rwP hp ?_; refine rwP (dictDisplay_pairs pairs (fun he => by rw [he] at hn; exact h0 (List.length_eq_zero_iff.mp hn.symm)) (by lia)) ?_
  refine wpI_bind (wpI_standAt (wpI_bind ?_))
  refine wpI_bind (of (wpAny_alloc ?_))
  refine wpI_bind (wpI_holding ?_)
  refine rwP (if_pos hlen) ?_
  have hw : wpI (model prog w) A (evalPairs pairs) (fun vs s₁ => vs.length = pairs.length ∧ ∃ kvs, Carries knd vs kvs ∧ s₁.heap.DictOf knd s.heap.objs.size [] ∧
      ∀ h', h'.DictOf knd s.heap.objs.size (merged [] kvs) → Heap.SameBut s.heap.objs.size s₁.heap h' → Q (.ref s.heap.objs.size) { s₁ with heap := h', toks := s₁.toks + vs.length }) E
      { s with heap := s.heap.push { cls := .type "dict", data := .dict #[] } } := fun Γ p hΓ n1 n2 => wp_evalPairs_len _ Γ pairs _ _ p _ (h Γ p hΓ n1 n2)
  refine wpI_bind (wpI_mono hw (fun vs s₁ h₁ => ?_) fun _ _ e => e)
  refine hide fun Ph hPh => ?_
  obtain ⟨hvl, kvs, hc, hm, hQ⟩ := h₁
  refine hPh ?_
  have hsz : ([] : List (K × Value)).length + kvs.length ≤ sizeLine := by
    have e := hc.length
    refine rwP sizeLine_eq ?_; refine rwP List.length_nil ?_; lia
  exact wpI_holding (wpI_bind (of (wpAny_storeAll (knd := knd) vs kvs [] s₁ _ hc hm hsz fun h' hm' hs' => wpI_pure (wpI_pure (wpI_pure (hQ h' hm' hs'))))))
theorem EV.dict {n : Nat} {ks : List (Option Expr)} {vs : List Expr} {pos : Pos} {Q : CV → Lm → CH → Prop} (hn : σ n = none)
    (h : ∀ o1, EP w c pos ks vs m (σ.set n o1) (fun l m1 σ1 => σ1 n = some o1 ∧ ∃ es : List (Str × CV), l = es.map (fun p => (CV.str p.1, p.2)) ∧ (es.map (·.1)).Nodup ∧ Q (.ref n) m1 (σ1.set n (.dict es))) X)
    (hall : ks.all (·.isSome) = true) (hl : ks.length = vs.length) (h0 : ks ≠ []) (hlen : ks.length ≤ 15) : EV w c (.Dict ks vs pos) m σ Q X := fun T s W => by
  refine ⟨fun Qr Er hp hq he => wpI_Dict (knd := strKind c.prog w) hall hl h0 hlen ?_⟩
  obtain ⟨x0, W0⟩ := W.named (n := n) (o := .at s.heap.objs.size { cls := .type "dict", data := .dict #[] }) (ob := { cls := .type "dict", data := .dict #[] }) rfl hn (fun T' x h' g => ⟨h', g⟩)
  refine (h _ _ _ W0).run _ Er hp (fun l m1 σ1 T1 s1 vs1 q1 W1 x1 r1 => ?_) (fun m' σ' T' s' e hx hW hxt => he m' σ' T' s' e hx hW (x0.trans hxt))
  refine hide fun Ph hPh => ?_
  obtain ⟨hσ, es, rfl, hnd, q⟩ := q1
  obtain ⟨hk, hkr⟩ := PR.strs r1
  refine hPh ?_
  have hnd' : ((strPairs vs1).map (·.1)).Nodup := by refine rwP hkr.keys ?_; exact hnd
  obtain ⟨ht, hg⟩ := W1.toW0.own _ _ hσ
  have hd0 : s1.heap.DictOf (strKind c.prog w) s.heap.objs.size [] := ⟨_, _, _, hg, ⟨rfl, rfl, rfl⟩, rfl, fun e he => by simp at he, .nil, List.nodup_nil⟩
  refine display_done_str hk hnd' hd0 fun h' hD hs => ?_
  refine hide fun Ph hPh => ?_
  obtain ⟨od, _, _, ho, _⟩ := id hD
  refine hPh ?_
  have W2 := W1.write (n := n) (o := .dict es) (h' := h') (tk := s1.toks + vs1.length) (d := s.heap.objs.size) (od := od) ⟨_, ht⟩ (fun a ob ha e => (hs.2 a ha).trans e) ho ⟨_, _, _, ht, hD, hkr⟩
  exact hq _ _ _ _ _ _ q W2 (x0.trans x1) (VR.ref ht)
noncomputable def lookI : List (Int × CV) → Int → Option CV
  | [], _ => none
  | (j, v) :: l, i => if j = i then some v else lookI l i
theorem PR.ints {T : TM} : ∀ {es : List (Int × CV)} {vs : List (Value × Value)}, PR T (es.map fun p => (CV.int p.1, p.2)) vs → allIntKeys vs = true ∧ (intKeyPairs vs).map (·.1) = es.map (·.1) ∧ ∀ i cv, lookI es i = some cv → ∃ v, valueAt (intKeyPairs vs) i = some v ∧ VR T cv v
  | [], _, h => by cases h; exact ⟨rfl, rfl, fun _ _ h => by injection h⟩
  | (x, cv) :: es, _, h => by
    cases h with
    | @cons _ _ _ u _ ws a b r =>
      obtain ⟨t, rfl⟩ := a.int_inv
      obtain ⟨h1, h2, h3⟩ := PR.ints (es := es) r
      refine ⟨h1, by simp [intKeyPairs, h2], fun i cv' e => ?_⟩
      unfold lookI at e
      show ∃ v, valueAt ((x, u) :: intKeyPairs ws) i = some v ∧ _
      unfold valueAt
      refine rwP List.find?_cons ?_
      by_cases hx : x = i
      · rw [if_pos hx] at e
        obtain rfl := Option.some.inj e
        refine rwP (decide_eq_true hx) ?_
        exact ⟨u, rfl, b⟩
      · rw [if_neg hx] at e
        refine rwP (decide_eq_false hx) ?_
        exact h3 i cv' e
theorem EV.pick {n : Nat} {ks : List (Option Expr)} {vs : List Expr} {slice : Expr} {pos p : Pos} {Q : CV → Lm → CH → Prop} (hn : σ n = none)
    (h : ∀ o1, EP w c pos ks vs m (σ.set n o1) (fun l m1 σ1 => σ1 n = some o1 ∧ ∃ es : List (Int × CV), l = es.map (fun p => (CV.int p.1, p.2)) ∧ (es.map (·.1)).Nodup ∧
      ∀ o2, EV w c slice m1 (σ1.set n o2) (fun ci m2 σ2 => ∃ i cv, σ2 n = some o2 ∧ ci = .int i ∧ lookI es i = some cv ∧ Q cv m2 σ2) X) X)
    (hs : ∀ o i, subscripted slice false o i = PySem.operate [o, i] (getItem o i))
    (hall : ks.all (·.isSome) = true) (hl : ks.length = vs.length) (h0 : ks ≠ []) (hlen : ks.length ≤ 15) : EV w c (.Subscript (.Dict ks vs pos) slice p) m σ Q X := fun T s W => by
  refine ⟨fun Qr Er hp hq he => ?_⟩
  rw [arm_eval_Subscript]
  refine wpI_bind (wpI_Dict (knd := intKind c.prog w) hall hl h0 hlen ?_)
  obtain ⟨x0, W0⟩ := W.named (n := n) (o := .at s.heap.objs.size { cls := .type "dict", data := .dict #[] }) (ob := { cls := .type "dict", data := .dict #[] }) rfl hn (fun T' x h' g => ⟨h', g⟩)
  refine (h _ _ _ W0).run _ Er hp (fun l m1 σ1 T1 s1 vs1 q1 W1 x1 r1 => ?_) (fun m' σ' T' s' e hx hW hxt => he m' σ' T' s' e hx hW (x0.trans hxt))
  refine hide fun Ph hPh => ?_
  obtain ⟨hσ, es, rfl, hnd, q⟩ := q1
  obtain ⟨hk, hkk, hkr⟩ := PR.ints r1
  refine hPh ?_
  have hnd' : ((intKeyPairs vs1).map (·.1)).Nodup := by refine rwP hkk ?_; exact hnd
  obtain ⟨ht, hg⟩ := W1.toW0.own _ _ hσ
  have hd0 : s1.heap.DictOf (intKind c.prog w) s.heap.objs.size [] := ⟨_, _, _, hg, ⟨rfl, rfl, rfl⟩, rfl, fun e he => by simp at he, .nil, List.nodup_nil⟩
  refine display_done_int hk hnd' hd0 fun h' hD hs' => ?_
  refine hide fun Ph hPh => ?_
  obtain ⟨od, es', ep', ho, hrest⟩ := id hD
  refine hPh ?_
  have W2 := W1.write (n := n) (o := .at s.heap.objs.size od) (h' := h') (tk := s1.toks + vs1.length) (d := s.heap.objs.size) (od := od) ⟨_, ht⟩ (fun a ob ha e => (hs'.2 a ha).trans e) ho ⟨ht, ho⟩
  refine wpI_bind (wpI_holding ((q _ T1 _ W2).run _ Er hp (fun ci m2 σ2 T2 s2 v2 q2 W3 x2 r2 => ?_) (fun m' σ' T' s' e hx hW hxt => he m' σ' T' s' e hx hW ((x0.trans x1).trans hxt))))
  refine hide fun Ph hPh => ?_
  obtain ⟨i, cv, hσ2, rfl, hi, qq⟩ := q2
  obtain ⟨t, rfl⟩ := r2.int_inv
  obtain ⟨v, hv, rv⟩ := hkr i cv hi
  obtain ⟨ht2, hg2⟩ := W3.toW0.own _ _ hσ2
  refine hPh ?_
  have hD2 : s2.heap.DictOf (intKind c.prog w) s.heap.objs.size (intKeyPairs vs1) := ⟨od, es', ep', hg2, hrest⟩
  refine of <| wpAny_bind (wpAny_standAt ?_)
  refine tail_any hD2.typeIs slot_dict_getitem.lookup (wpAny_getItem_of (intKind_is c.prog w i t) hD2.mapOf hv ?_) (hs _ _)
  exact hq _ _ _ _ _ _ qq (W3.tok _) ((x0.trans x1).trans x2) (rv.mono x2)
end
end Mine
end
section
open Builtin
namespace Mine
theorem by_int_bytes : typeLookup (.type "int") "__bytes__" = pure none := by rewrite [typeLookup_type]; refine rwP builtinLookup_eq_fast ?_; kernel_rfl
theorem by_int_index : typeLookup (.type "int") "__index__" = pure (some (.builtin "int.__index__")) := by rewrite [typeLookup_type]; refine rwP builtinLookup_eq_fast ?_; kernel_rfl
theorem by_ba_bytes : typeLookup (.type "bytearray") "__bytes__" = pure none := by rewrite [typeLookup_type]; refine rwP builtinLookup_eq_fast ?_; kernel_rfl
theorem by_ba_index : typeLookup (.type "bytearray") "__index__" = pure none := by rewrite [typeLookup_type]; refine rwP builtinLookup_eq_fast ?_; kernel_rfl
theorem by_ba_buffer : typeLookup (.type "bytearray") "__buffer__" = pure (some (.builtin "bytearray.__buffer__")) := by rewrite [typeLookup_type]; refine rwP builtinLookup_eq_fast ?_; kernel_rfl
theorem by_b_buffer : typeLookup (.type "bytes") "__buffer__" = pure (some (.builtin "bytes.__buffer__")) := by rewrite [typeLookup_type]; refine rwP builtinLookup_eq_fast ?_; kernel_rfl
section
variable {prog : Program} {w : World} {A : Around} {E : Value → Shared → Prop} {s : Shared}
theorem bytesInt_new {n : Int} {t : Tok} {Q : Value → Shared → Prop} (h0 : 0 ≤ n) (h1 : n ≤ 100000) (hQ : ∀ t' k, Q (.bytes (Array.replicate n.toNat 0) t') { s with toks := k }) :
    codeAny (model prog w) A (.call (.builtin "bytes.__new__") ⟨[.type "bytes", .int n t], []⟩) (wants Q E) s := by
  refine codeAny_of_tree ?_
  show wpAny _ A.in1 (do checkBuiltinCall "bytes.__new__" ⟨[.type "bytes", .int n t], []⟩; again (.builtin "bytes.__new__" ⟨[.type "bytes", .int n t], []⟩)) _ _ s
  refine wpAny_bind (wpAny_of_eq (F.bm_newCall _) (wpAny_pure ⟨plainId_quiet F.bm_plain _, codeAny_builtin F.bm_entry ?_⟩))
  refine rwP (Around.under_plainId F.bm_plain _) ?_
  have hT : s.TypeIs (.int n t) "int" := rfl
  refine wpAny_bind (wpAny_of_eq (a := true) rfl ?_)
  refine bm_if_false rfl ?_
  refine wpAny_bind (wpAny_of_eq F.bm_sub ?_)
  refine bm_if_false rfl ?_
  refine wpAny_bind (wpAny_of_eq (F.bm_bind _) ?_)
  refine wpAny_bind (wpAny_of_eq (a := ()) rfl ?_)
  refine wpAny_bind (wpAny_of_eq (a := ()) rfl ?_)
  refine bm_if_false rfl ?_
  refine wpAny_bind (wpAny_specialOf hT by_int_bytes ?_)
  refine wpAny_bind (wpAny_bind ?_)
  show wpAny _ _ (pure none) _ _ _
  refine wpAny_pure (wpAny_pure ?_)
  refine bm_if_false rfl ?_
  refine wpAny_bind (wpAny_specialOf hT by_int_index ?_)
  refine bm_if_false rfl ?_
  refine wpAny_bind (wpAny_attempt (wpAny_of_eq (rfl : asIndex (.int n t) = pure n) ?_))
  refine bm_if_false (by unfold Bytes.fitsIndex; simp; lia) ?_
  refine rwP (if_neg (by lia)) ?_; refine rwP (if_neg (by lia)) ?_
  refine bm_if_false (by unfold Bytes.tooLong; refine rwP sizeLine_eq ?_; simp; lia) ?_
  refine wpAny_bind (wpAny_rule (wpAny_bind (wpAny_mkBytes ?_ (by refine rwP sizeLine_eq ?_; simp; lia))))
  show wpAny _ _ (if (Value.type "bytes" == Value.type "bytes") = true then _ else _) _ _ _
  refine bm_if_true (by decide) ?_
  first
    | exact wpAny_pure (hQ _ _)
    | exact wpAny_bind (wpAny_pure (wpAny_pure (hQ _ _)))
theorem call_bytes_int {n : Int} {t : Tok} {Q : Value → Shared → Prop} (h0 : 0 ≤ n) (h1 : n ≤ 100000) (hQ : ∀ t' k, Q (.bytes (Array.replicate n.toNat 0) t') { s with toks := k }) :
    wpAny (model prog w) A (call (.type "bytes") [.int n t]) Q E s := by
  refine callType_codes (Q₁ := fun obj s₁ => s₁.TypeIs obj "bytes" ∧ Q obj s₁) F.bm_called (F.bm_typeCall _) F.entry_object_init
    (bytesInt_new h0 h1 fun t' k => ⟨PySem.W.typeIs_bytes _ _ _, hQ t' k⟩) fun obj s₁ h₁ => ?_
  exact ⟨h₁.1, F.args_object_init_2 obj _, object_init_meets F.bm_called.init.lookup F.bm_called.made (by decide) prog w A.in1 _ s₁ ⟨h₁.1, rfl, h₁.2⟩⟩
theorem ba_sub : isSubtype (.type "bytearray") (.type "bytearray") = pure true := by rw [isSubtype_type]; kernel_rfl
theorem ba_rel : typeLookup (.type "bytearray") "__release_buffer__" = pure (some (.builtin "bytearray.__release_buffer__")) := by rewrite [typeLookup_type]; refine rwP builtinLookup_eq_fast ?_; kernel_rfl
theorem b_rel : typeLookup (.type "bytes") "__release_buffer__" = pure none := by rewrite [typeLookup_type]; refine rwP builtinLookup_eq_fast ?_; kernel_rfl
theorem bae1 : ("bytearray.__buffer__".endsWith ("." ++ "__buffer__")) = true := by decide +kernel
theorem bae2 : ("bytearray.__buffer__".dropRight ("__buffer__".length + 1)) = "bytearray" := by decide +kernel
theorem bae3 : ("bytearray.__release_buffer__".endsWith ("." ++ "__release_buffer__")) = true := by decide +kernel
theorem bae4 : ("bytearray.__release_buffer__".dropRight ("__release_buffer__".length + 1)) = "bytearray" := by decide +kernel
theorem bae5 : ("bytes.__buffer__".endsWith ("." ++ "__buffer__")) = true := by decide +kernel
theorem bae6 : ("bytes.__buffer__".dropRight ("__buffer__".length + 1)) = "bytes" := by decide +kernel
theorem slotOwn {v : Value} {T nm id : String} (hT : s.TypeIs v T) (hl : typeLookup (.type T) (nm : Str) = pure (some (.builtin id))) (he : id.endsWith ("." ++ nm) = true) (hd : id.dropRight (nm.length + 1) = T)
    (hs : isSubtype (.type T) (.type T) = pure true) {Q : Bool → Shared → Prop} (h : Q true s) : wpAny (model prog w) A (Bytes.slotIsOwn v nm) Q E s := by
  refine wpAny_bind (wpAny_specialOf hT hl ?_)
  refine bm_if_false (by refine rwP he ?_; rfl) ?_
  refine rwP hd ?_
  exact wpAny_isInstance hT hs h
theorem slotNone {v : Value} {T nm : String} (hT : s.TypeIs v T) (hl : typeLookup (.type T) (nm : Str) = pure none) {Q : Bool → Shared → Prop} (h : Q true s) : wpAny (model prog w) A (Bytes.slotIsOwn v nm) Q E s := by
  refine wpAny_bind (wpAny_specialOf hT hl ?_)
  exact wpAny_pure h
theorem ba_release {a : Addr} (hT : s.TypeIs (.ref a) "bytearray") {Q : Bool → Shared → Prop} (h : Q false s) : wpAny (model prog w) A (Bytes.ownRelease (.ref a)) Q E s := by
  exact wpAny_bind (slotOwn hT ba_rel bae3 bae4 ba_sub (wpAny_pure h))
theorem bytesBa_new {a : Addr} {b : Array UInt8} {k0 : Nat} {Q : Value → Shared → Prop} (ho : s.heap.get? a = some { cls := .type "bytearray", data := .bytearray b k0 }) (hz : b.size ≤ 100000) (hQ : ∀ t' k, Q (.bytes b t') { s with toks := k }) :
    codeAny (model prog w) A (.call (.builtin "bytes.__new__") ⟨[.type "bytes", .ref a], []⟩) (wants Q E) s := by
  refine codeAny_of_tree ?_
  show wpAny _ A.in1 (do checkBuiltinCall "bytes.__new__" ⟨[.type "bytes", .ref a], []⟩; again (.builtin "bytes.__new__" ⟨[.type "bytes", .ref a], []⟩)) _ _ s
  refine wpAny_bind (wpAny_of_eq (F.bm_newCall _) (wpAny_pure ⟨plainId_quiet F.bm_plain _, codeAny_builtin F.bm_entry ?_⟩))
  refine rwP (Around.under_plainId F.bm_plain _) ?_
  have hT : s.TypeIs (.ref a) "bytearray" := ⟨_, ho, rfl⟩
  refine wpAny_bind (wpAny_of_eq (a := true) rfl ?_)
  refine bm_if_false rfl ?_
  refine wpAny_bind (wpAny_of_eq F.bm_sub ?_)
  refine bm_if_false rfl ?_
  refine wpAny_bind (wpAny_of_eq (F.bm_bind _) ?_)
  refine wpAny_bind (wpAny_of_eq (a := ()) rfl ?_)
  refine wpAny_bind (wpAny_of_eq (a := ()) rfl ?_)
  refine bm_if_false rfl ?_
  refine wpAny_bind (wpAny_specialOf hT by_ba_bytes ?_)
  refine wpAny_bind (wpAny_bind ?_)
  show wpAny _ _ (load a >>= _) _ _ _
  refine wpAny_bind (wpAny_load ho ?_)
  refine wpAny_pure (wpAny_pure ?_)
  refine bm_if_false rfl ?_
  refine wpAny_bind (wpAny_specialOf hT by_ba_index ?_)
  refine bm_if_true rfl ?_
  show wpAny _ _ (Builtin.Bytes.buffer? "bytes.__new__" (.ref a) true >>= _) _ _ _
  refine wpAny_bind ?_
  unfold Builtin.Bytes.buffer?
  refine wpAny_bind (wpAny_specialOf hT by_ba_buffer ?_)
  refine wpAny_bind (slotOwn hT by_ba_buffer bae1 bae2 ba_sub ?_)
  refine bm_if_false rfl ?_
  refine wpAny_bind (wpAny_specialOf hT by_ba_buffer ?_)
  show wpAny _ _ (Bytes.ownRelease (.ref a) >>= _) _ _ _
  refine wpAny_bind (ba_release hT ?_)
  refine bm_if_false rfl ?_
  refine wpAny_bind ?_
  unfold Bytes.payload Bytes.payload?
  refine wpAny_bind (wpAny_bind (wpAny_load ho ?_))
  refine wpAny_pure (wpAny_pure (wpAny_pure ?_))
  try dsimp only
  refine wpAny_bind (wpAny_rule (wpAny_bind (wpAny_mkBytes ?_ (by refine rwP sizeLine_eq ?_; lia))))
  show wpAny _ _ (if (Value.type "bytes" == Value.type "bytes") = true then _ else _) _ _ _
  refine bm_if_true (by decide) ?_
  first
    | exact wpAny_pure (hQ _ _)
    | exact wpAny_bind (wpAny_pure (wpAny_pure (hQ _ _)))
theorem call_bytes_ba {a : Addr} {b : Array UInt8} {k0 : Nat} {Q : Value → Shared → Prop} (ho : s.heap.get? a = some { cls := .type "bytearray", data := .bytearray b k0 }) (hz : b.size ≤ 100000) (hQ : ∀ t' k, Q (.bytes b t') { s with toks := k }) :
    wpAny (model prog w) A (call (.type "bytes") [.ref a]) Q E s := by
  refine callType_codes (Q₁ := fun obj s₁ => s₁.TypeIs obj "bytes" ∧ Q obj s₁) F.bm_called (F.bm_typeCall _) F.entry_object_init
    (bytesBa_new ho hz fun t' k => ⟨PySem.W.typeIs_bytes _ _ _, hQ t' k⟩) fun obj s₁ h₁ => ?_
  exact ⟨h₁.1, F.args_object_init_2 obj _, object_init_meets F.bm_called.init.lookup F.bm_called.made (by decide) prog w A.in1 _ s₁ ⟨h₁.1, rfl, h₁.2⟩⟩
end
end Mine
end
section
open Builtin
namespace Mine
theorem owner_ba : Manifest.owners.lookup (String.ofList ['y', 'a', 'r', 'r', 'a', 'e', 't', 'y', 'b'].reverse) = some Manifest.sig_bytearray := by kernel_rfl
theorem ba_mro : mroOf (.type "bytearray") = pure [.type "bytearray", .type "object"] := by rw [mroOf_type]; kernel_rfl
theorem ba_lookup_new : typeLookup (.type "bytearray") "__new__" = pure (some (.builtin "bytearray.__new__")) := by rewrite [typeLookup_type]; refine rwP builtinLookup_eq_fast ?_; kernel_rfl
theorem ba_slot_init : Slot "bytearray" "__init__" "bytearray.__init__" :=
  .of (owner := "bytearray") (n := "__init__") (by rewrite [typeLookup_type]; refine rwP builtinLookup_eq_fast ?_; kernel_rfl) (by decide +kernel) (by decide +kernel) (by decide +kernel)
    (by first | exact .inl (by decide +kernel) | exact .inr (by decide +kernel)) (by rw [isSubtype_type]; kernel_rfl)
theorem ba_called : TypeCalled "bytearray" "bytearray.__new__" "bytearray.__init__" :=
  ⟨by decide +kernel, by decide +kernel, ⟨_, _, ba_mro⟩, madeBy_type ba_mro ba_lookup_new (by decide +kernel), by decide +kernel, by rw [isSubtype_type]; kernel_rfl, ba_slot_init⟩
theorem ba_typeCall (a : Value) : checkTypeCall "bytearray" ⟨[a], []⟩ = pure () := by kernel_rfl
theorem ba_newCall (a : Value) : checkBuiltinCall "bytearray.__new__" ⟨[.type "bytearray", a], []⟩ = pure () := by kernel_rfl
theorem ba_plain : plainId "bytearray.__new__" = true := by decide +kernel
theorem ba_entry : entryFor table "bytearray.__new__" = some Builtin.«list.__new__» := entryFor_alias (id' := "list.__new__") (by rw [fastTable_eq_tree]; kernel_rfl) (by first | rfl | decide +kernel) (by decide +kernel) (by rw [fastTable_eq_tree]; kernel_rfl)
theorem ba_entry_init : entryFor table "bytearray.__init__" = some Builtin.«bytearray.__init__» := entryFor_of_tree (by kernel_rfl)
theorem ba_args_init (a b : Value) : argsOk "bytearray.__init__" ⟨[a, b], []⟩ := by
  unfold argsOk; refine rwP (signature?_of (id := "bytearray.__init__") (n := ['_', '_', 't', 'i', 'n', 'i', '_', '_']) (o := ['y', 'a', 'r', 'r', 'a', 'e', 't', 'y', 'b']) (by kernel_rfl) owner_ba) ?_; kernel_rfl
theorem ba_bind (v : Value) : Bytes.bindOptional "bytearray.__init__" "bytearray" ["source", "encoding", "errors"] [v] [] = pure [some v, none, none] := by kernel_rfl
theorem slot_ba_len : Slot "bytearray" "__len__" "bytearray.__len__" :=
  .of (owner := "bytearray") (n := "__len__") (by rewrite [typeLookup_type]; refine rwP builtinLookup_eq_fast ?_; kernel_rfl) (by decide +kernel) (by decide +kernel) (by decide +kernel)
    (by first | exact .inl (by decide +kernel) | exact .inr (by decide +kernel)) (by rw [isSubtype_type]; kernel_rfl)
theorem entry_ba_len : entryFor table "bytearray.__len__" = some Builtin.«bytearray.__len__» := entryFor_of_tree (by kernel_rfl)
theorem args_ba_len (a : Value) : argsOk "bytearray.__len__" ⟨[a], []⟩ := by
  unfold argsOk; refine rwP (signature?_of (id := "bytearray.__len__") (n := ['_', '_', 'n', 'e', 'l', '_', '_']) (o := ['y', 'a', 'r', 'r', 'a', 'e', 't', 'y', 'b']) (by kernel_rfl) owner_ba) ?_; kernel_rfl
theorem slot_ba_extend : Slot "bytearray" "extend" "bytearray.extend" :=
  .of (owner := "bytearray") (n := "extend") (by rewrite [typeLookup_type]; refine rwP builtinLookup_eq_fast ?_; kernel_rfl) (by decide +kernel) (by decide +kernel) (by decide +kernel)
    (by first | exact .inl (by decide +kernel) | exact .inr (by decide +kernel)) (by rw [isSubtype_type]; kernel_rfl)
theorem entry_ba_extend : entryFor table "bytearray.extend" = some Builtin.«bytearray.extend» := entryFor_of_tree (by kernel_rfl)
theorem args_ba_extend (a b : Value) : argsOk "bytearray.extend" ⟨[a, b], []⟩ := by
  unfold argsOk; refine rwP (signature?_of (id := "bytearray.extend") (n := ['d', 'n', 'e', 't', 'x', 'e']) (o := ['y', 'a', 'r', 'r', 'a', 'e', 't', 'y', 'b']) (by kernel_rfl) owner_ba) ?_; kernel_rfl
theorem type_ba_extend : typeOf (.builtin "bytearray.extend") = pure (.type "method_descriptor") := by show builtinType _ = _; refine rwP builtinType_eq_fast ?_; kernel_rfl
theorem plainAttrs_ba : PlainAttrs "bytearray" :=
  ⟨⟨"bytearray.__getattribute__", by rewrite [typeLookup_type]; refine rwP builtinLookup_eq_fast ?_; kernel_rfl, by decide +kernel⟩, by rewrite [typeLookup_type]; refine rwP builtinLookup_eq_fast ?_; kernel_rfl⟩
section
variable {prog : Program} {w : World} {A : Around} {E : Value → Shared → Prop} {s : Shared}
theorem code_ba_new (a : Value) {Q₁ : Value → Shared → Prop}
    (h : Q₁ (.ref s.heap.objs.size) { s with heap := s.heap.push { cls := .type "bytearray", data := .bytearray #[] } }) :
    codeAny (model prog w) A (.call (.builtin "bytearray.__new__") ⟨[.type "bytearray", a], []⟩) (wants Q₁ E) s := by
  refine codeAny_of_tree ?_
  show wpAny _ A.in1 (do checkBuiltinCall "bytearray.__new__" ⟨[.type "bytearray", a], []⟩; again (.builtin "bytearray.__new__" ⟨[.type "bytearray", a], []⟩)) _ _ s
  refine wpAny_bind (wpAny_of_eq (ba_newCall a) (wpAny_pure ⟨plainId_quiet ba_plain _, codeAny_builtin_stack ba_entry rfl fun p st => ?_⟩))
  refine rwP (Around.under_plainId ba_plain _) ?_
  have hsub := ba_sub
  have hown : ("bytearray.__new__".splitOn ".__new__").headD "" = "bytearray" := by refine rwP split_bytearray ?_; rfl
  obtain ⟨hp, g, d, tk, os⟩ := s
  simp only [hown]
  wp_walk
  exact h
theorem gives_ba_len {a : Addr} {b : Array UInt8} {k0 : Nat} : Meets (Builtin.«bytearray.__len__» ⟨[.ref a], []⟩) (fun _ R s => s.heap.get? a = some { cls := .type "bytearray", data := .bytearray b k0 } ∧ R (.ok (.ret (.int b.size s.toks))) { s with toks := s.toks + 1 }) := by
  refine fun prog w A R s h => ?_
  obtain ⟨ho, hR⟩ := h
  show wpAny _ _ (do retInt (← Bytes.payload (.ref a)).size) _ _ s
  unfold Bytes.payload Bytes.payload?
  refine wpAny_bind (wpAny_bind (wpAny_bind (wpAny_load ho ?_)))
  refine wpAny_pure (wpAny_pure ?_)
  exact wpAny_bind (wpAny_mkInt (wpAny_pure hR))
theorem len_ba {a : Addr} {b : Array UInt8} {k0 : Nat} {Q : Value → Shared → Prop} (ho : s.heap.get? a = some { cls := .type "bytearray", data := .bytearray b k0 }) (hz : b.size ≤ 1000000)
    (h : Q (.int b.size (s.toks + 1)) { s with toks := s.toks + 1 + 1 }) : wpAny (model prog w) A (call (.builtin "len") [.ref a]) Q E s :=
  call_len_slot ⟨_, ho, rfl⟩ slot_ba_len (fun Q' h => call_meets slot_ba_len ⟨_, ho, rfl⟩ entry_ba_len (args_ba_len _) gives_ba_len ⟨ho, h⟩) (by lia) (by lia) h
end
end Mine
end
section
open Builtin
namespace Mine
section
variable {w : World} {c : Cx} {m : Lm} {σ : CH} {X : CH → Prop} {Q : CV → Lm → CH → Prop} {T : TM} {s : Shared}
noncomputable abbrev barO (b : Array UInt8) : Obj := { cls := .type "bytearray", data := .bytearray b 0 }
theorem Wf.barrAt (W : Wf w c T m σ s) {n : Nat} {b : Array UInt8} {v : Value} (r : VR T (.ref n) v) (h : σ n = some (.barr b)) : ∃ a, v = .ref a ∧ T a = some (.nam n true) ∧ s.heap.get? a = some (barO b) := by
  obtain ⟨a, rfl, ha⟩ := r.ref_inv
  obtain ⟨a', hb, ho⟩ := W.own _ _ h
  have := W.uniq a a' _ ha hb; subst this
  exact ⟨a, rfl, ha, ho⟩
theorem CallV.bytesInt {n : Int} (h0 : 0 ≤ n) (h1 : n ≤ 100000) (q : Q (.bytes (Array.replicate n.toNat 0)) m σ) : CallV w c (.top (.type "bytes")) [.int n] m σ Q X :=
  .prim (fun _ _ => .type) fun T s vs W ra => by
    obtain ⟨v, vs', rfl, r, ra⟩ := ra.cons_inv
    cases ra.nil_inv
    obtain ⟨t, rfl⟩ := r.int_inv
    exact ⟨fun Qr Er hp hq _ => of <| call_bytes_int h0 h1 fun t' k => hq _ m σ T _ _ q (W.tok k) (.refl T) VR.bytes⟩
theorem CallV.bytesBa {n : Nat} {b : Array UInt8} (h : σ n = some (.barr b)) (hz : b.size ≤ 100000) (q : Q (.bytes b) m σ) : CallV w c (.top (.type "bytes")) [.ref n] m σ Q X :=
  .prim (fun _ _ => .type) fun T s vs W ra => by
    obtain ⟨v, vs', rfl, r, ra⟩ := ra.cons_inv
    cases ra.nil_inv
    obtain ⟨a, rfl, ha, ho⟩ := W.barrAt r h
    exact ⟨fun Qr Er hp hq _ => of <| call_bytes_ba ho hz fun t' k => hq _ m σ T _ _ q (W.tok k) (.refl T) VR.bytes⟩
theorem CallV.lenBa {n : Nat} {b : Array UInt8} (h : σ n = some (.barr b)) (hz : b.size ≤ 100000) (q : Q (.int b.size) m σ) : CallV w c (.top (.builtin "len")) [.ref n] m σ Q X :=
  .prim (fun _ _ => .builtin) fun T s vs W ra => by
    obtain ⟨v, vs', rfl, r, ra⟩ := ra.cons_inv
    cases ra.nil_inv
    obtain ⟨a, rfl, ha, ho⟩ := W.barrAt r h
    exact ⟨fun Qr Er hp hq _ => of <| len_ba ho (by lia) (hq _ m σ T _ _ q (W.tok (s.toks + 1 + 1)) (.refl T) VR.int)⟩
theorem MethV.ba {n : Nat} {b : Array UInt8} {Q : CV → List CV → Prop} (h : σ n = some (.barr b)) (q : Q (.top (.builtin "bytearray.extend")) [.ref n]) : MethV w c (.ref n) "extend" m σ Q := fun T s ov pl W r => by
  obtain ⟨a, rfl, ha, ho⟩ := W.barrAt r h
  refine ⟨_, _, _, [.ref a], q, VR.top, .cons (VR.ref ha) .nil, fun Qr Er h => ?_⟩
  exact getMethod_builtin ⟨_, ho, rfl⟩ plainAttrs_ba slot_ba_extend type_ba_extend (fun a' e => by (injection e with e; subst e); exact ⟨_, ho, rfl⟩) (h s.toks)
end
end Mine
namespace Mine
section
variable {prog : Program} {w : World} {A : Around} {E : Value → Shared → Prop} {s : Shared}
theorem any_nice {f : Code × Pos → Bool} {l : List (Code × Pos)} (hl : ∀ x ∈ l, nice x.1 = true) (hf : ∀ x, nice x.1 = true → f x = false) : l.any f = false := by
  rw [List.any_eq_false]
  intro x hx
  refine rwP (hf x (hl x hx)) ?_
  exact Bool.false_ne_true
theorem not_held {i : String} {args : Args} (hn : nice (.builtin i args) = true) : Bytes.decodersThatHold.contains i = false := by
  have h1 : badIds.contains i = false := by simpa [nice] using hn
  unfold badIds at h1
  cases h : Bytes.decodersThatHold.contains i with
  | false => rfl
  | true =>
    have : i ∈ Bytes.decodersThatHold := by simpa using h
    have h2 : i ∉ ["bytearray.__contains__", "bytearray.find.held", "bytearray.__mod__", "bytearray.__rmod__", "_struct.pack_into.held"] ++ Bytes.decodersThatHold := by
      intro z
      have := List.contains_iff_mem.mpr z
      rw [h1] at this; injection this
    exact absurd (List.mem_append_right _ this) h2
theorem nice_ne {i s : String} {a : Args} (h : nice (.builtin i a) = true) (hs : badIds.contains s = true) : i ≠ s := fun e => by
  subst e; have h : (!badIds.contains i) = true := h; rw [hs] at h; injection h
theorem dite_no {α : Type} {c : Prop} [Decidable c] {t : c → α} {e : ¬c → α} {R : α → Prop} (n : ¬c) (h : R (e n)) : R (dite c t e) := by refine rwP (dif_neg n) ?_; exact h
theorem ex_match {i : String} {a : Args} {q : Pos} (hn : nice (.builtin i a) = true) {h1 h2 h3 h4 h5 h6 h7} {R : Bool → Prop} (c6 : ∀ v l k, R (h6 i v l k q)) (c7 : ∀ x, R (h7 x)) : R (Bytes.exported.match_1 (fun _ => Bool) (.builtin i a, q) h1 h2 h3 h4 h5 h6 h7) := by
  delta Bytes.exported.match_1
  refine dite_no (R := R) (nice_ne hn (s := "bytearray.__contains__") rfl) ?_
  refine dite_no (R := R) (nice_ne hn (s := "bytearray.__mod__") rfl) ?_
  refine dite_no (R := R) (nice_ne hn (s := "bytearray.__rmod__") rfl) ?_
  refine dite_no (R := R) (nice_ne hn (s := "_struct.pack_into.held") rfl) ?_
  refine dite_no (R := R) (nice_ne hn (s := "bytearray.find.held") rfl) ?_
  obtain ⟨_ | ⟨v, l⟩, k⟩ := a
  · exact c7 _
  · exact c6 v l k
theorem wpI_exported {M : Model} {self : Value} {Q : Bool → Shared → Prop} (h : Q false s) : wpI M A (Bytes.exported self) Q E s := fun Γ p hΓ n1 n2 => by
  show Q (List.any ((Γ.code, p) :: Γ.below) _) s
  rw [any_nice]
  · exact h
  · intro x hx
    rcases List.mem_cons.mp hx with rfl | hx
    · exact n1
    · exact n2 x hx
  · intro x hn
    obtain ⟨cd, q⟩ := x
    induction cd with
    | builtin i a =>
      exact ex_match hn (R := fun b => b = false) (fun v l k => by refine rwP (not_held hn) ?_; rw [Bool.and_false]) fun _ => rfl
    | _ => rfl
end
end Mine
end
section
open Builtin
namespace Mine
section
variable {prog : Program} {w : World} {A : Around} {E : Value → Shared → Prop} {s : Shared}
theorem ba_write {a : Addr} {b : Array UInt8} {f : Array UInt8 → Array UInt8} {Q : Unit → Shared → Prop} (ho : s.heap.get? a = some (barO b)) (hz : (f b).size ≤ 1000000)
    (h : ∀ h', h'.get? a = some (barO (f b)) → (∀ b o, b ≠ a → s.heap.get? b = some o → h'.get? b = some o) → Q () { s with heap := h' }) : wpAny (model prog w) A (Bytes.write (.ref a) f) Q E s := by
  show wpAny _ _ (updateBytearray a f) _ _ _
  refine wpAny_bind (wpAny_load ho ?_)
  show wpAny _ _ (update a (Obj.mapBytearray f) >>= fun _ => lookBehind a) _ _ _
  refine wpAny_bind (wpAny_update ho ?_)
  have hS : (s.heap.update a (Obj.mapBytearray f)).get? a = some (barO (f b)) := Heap.get?_update_self (Obj.mapBytearray f) ho rfl
  refine wpAny_lookBehind hS ?_ (h _ hS fun b o hb e => (Heap.get?_update_other _ _ (Ne.symm hb)).trans e)
  show (if (f b).size > sizeLine then some "bytearray:memory" else none) = none
  refine rwP (if_neg (by refine rwP sizeLine_eq ?_; lia)) ?_; rfl
end
end Mine
namespace Mine
section
variable {prog : Program} {w : World} {A : Around} {E : Value → Shared → Prop} {s : Shared}
theorem ba_init {a : Addr} {n : Int} {t : Tok} {Q : Fin → Shared → Prop} (ho : s.heap.get? a = some (barO #[])) (h0 : 0 ≤ n) (h1 : n ≤ 100000)
    (hQ : ∀ h' k, h'.get? a = some (barO (Array.replicate n.toNat 0)) → (∀ b o, b ≠ a → s.heap.get? b = some o → h'.get? b = some o) → Q (.done (.ret .none)) { s with heap := h', toks := k }) :
    wpI (model prog w) A (Builtin.«bytearray.__init__» ⟨[.ref a, .int n t], []⟩) Q E s := by
  have hT : s.TypeIs (.ref a) "bytearray" := ⟨_, ho, rfl⟩
  refine wpI_bind (of (ba_release hT ?_))
  refine rwP (if_neg (by decide)) ?_
  refine wpI_bind (of (wpAny_of_eq (ba_bind _) ?_))
  refine wpI_bind (of (wpAny_of_eq (a := ()) rfl ?_))
  refine wpI_bind (of (wpAny_of_eq (a := ()) rfl ?_))
  refine wpI_bind ?_
  refine wpI_bind (wpI_exported ?_)
  refine of ?_
  show PySem.wpAny _ _ (Bytes.exportsOf (.ref a) >>= _) _ _ _
  refine PySem.wpAny_bind (PySem.wpAny_bind (PySem.wpAny_load ho ?_))
  refine PySem.wpAny_pure (PySem.wpAny_pure ?_)
  refine of ?_
  refine bm_if_false (by decide) ?_
  refine PySem.wpAny_bind (ba_write ho (by simp) fun h2 g2 k2 => ?_)
  refine PySem.wpAny_bind (PySem.wpAny_of_eq (a := none) rfl ?_)
  refine bm_if_false rfl ?_
  refine PySem.wpAny_bind (PySem.wpAny_pure ?_)
  refine PySem.wpAny_bind (wpAny_specialOf (rfl : Shared.TypeIs _ (.int n t) "int") by_int_index ?_)
  refine bm_if_true rfl ?_
  refine PySem.wpAny_bind (PySem.wpAny_attempt (PySem.wpAny_of_eq (rfl : asIndex (.int n t) = pure n) ?_))
  refine bm_if_false (by unfold Bytes.fitsIndex; simp; lia) ?_
  refine rwP (if_neg (by lia)) ?_
  refine bm_if_false (by simp; lia) ?_
  refine bm_if_false (by unfold Bytes.tooLong; refine rwP sizeLine_eq ?_; simp; lia) ?_
  refine PySem.wpAny_bind (PySem.wpAny_rule ?_)
  split
  · refine PySem.wpAny_bind (ba_write g2 (by simp; lia) fun h3 g3 k3 => ?_)
    exact PySem.wpAny_pure (hQ h3 _ g3 fun b o hb e => k3 b o hb (k2 b o hb e))
  · have : n = 0 := by lia
    subst this
    exact PySem.wpAny_pure (hQ h2 _ g2 k2)
theorem if_false {α : Type} {M : Model} {c : Bool} {a b : Sem α} {Q : α → Shared → Prop} (hc : c = false) (h : wpI M A b Q E s) : wpI M A (if c = true then a else b) Q E s := by
  subst hc
  exact h
theorem codeI_builtin {R : Result → Shared → Prop} {id : String} {args : Args} {b : Builtin} (hb : entryFor table id = some b)
    (h : wpI (model prog w) (A.under (.builtin id args)) (b args)
      (fun fin s' => match fin with | .done f => R (.ok f) s' | .again c' => c'.quiet = true ∧ nice c' = true ∧ codeI (model prog w) A c' R s') (fun e s' => R (.error e) s') s) :
    codeI (model prog w) A (.builtin id args) R s := by
  refine codeI_of_tree ?_
  show wpI _ _ (match entryFor table id with | some b => b args | none => unsupported ((withoutEnding? id "#data").getD id)) _ _ s
  refine rwP hb ?_; exact h
theorem call_ba {n : Int} {t : Tok} {Q : Value → Shared → Prop} (h0 : 0 ≤ n) (h1 : n ≤ 100000)
    (hQ : ∀ h' k a, s.heap.get? a = none → h'.get? a = some (barO (Array.replicate n.toNat 0)) → (∀ b o, s.heap.get? b = some o → h'.get? b = some o) → Q (.ref a) { s with heap := h', toks := k }) :
    wpI (model prog w) A (PySem.call (.type "bytearray") [.int n t]) Q E s := by
  obtain ⟨c, tl, hmro⟩ := ba_called.mro
  refine wpI_call (codeI_of_tree ?_)
  show wpI _ _ (callAny (.type "bytearray") _) _ _ _
  refine wpI_pure ⟨Code.quiet_builtin _ (by decide +kernel), rfl, codeI_builtin F.entry_type_call ?_⟩
  refine rwP (Around.under_plain (weight_type_call_type "bytearray" [.int n t] []) rfl) ?_
  unfold Builtin.«type.__call__»
  dsimp only
  refine rwP (if_neg (by decide)) ?_
  have h2 := ba_called.canCreate
  with_reducible refine if_false h2 ?_
  refine wpI_bind (of (PySem.wpAny_of_eq (ba_typeCall _) ?_))
  refine wpI_bind (of (PySem.wpAny_of_eq hmro ?_))
  refine if_false rfl ?_
  refine wpI_bind (of (PySem.wpAny_of_eq ba_called.made ?_))
  refine wpI_bind (wpI_pure ?_)
  refine wpI_bind (wpI_holding (wpI_call (codeOf (PySem.codeAny_mono (code_ba_new (Q₁ := fun obj s₁ => obj = .ref s.heap.objs.size ∧ s₁ = { s with heap := s.heap.push (barO #[]) }) (E := E) _ ⟨rfl, rfl⟩) fun r s₁ hr => ?_))))
  rcases r with e | (v | _ | _ | _) <;> first | exact hr | exact hr.elim | skip
  obtain ⟨rfl, rfl⟩ := hr
  have ho : (s.heap.push (barO #[])).get? s.heap.objs.size = some (barO #[]) := Heap.get?_push_size _ rfl
  have hT : Shared.TypeIs { s with heap := s.heap.push (barO #[]) } (.ref s.heap.objs.size) "bytearray" := ⟨_, ho, rfl⟩
  refine wpI_bind (of (wpAny_isInstance hT ba_called.sub ?_))
  refine if_false rfl ?_
  refine wpI_bind (wpI_holding ?_)
  unfold callSpecial?
  refine wpI_bind (of (wpAny_specialOf hT ba_called.init.lookup ?_))
  refine wpI_holding (wpI_bind (of (PySem.wpAny_of_eq (ba_called.init.bind _) ?_)))
  refine wpI_bind (wpI_call (codeI_call_builtin_at (Code.quiet_builtin _ (by decide +kernel)) rfl ba_entry_init (ba_called.init.check _ _ _ _ _ _ _ _ hT (ba_args_init _ _) ?_)))
  refine ba_init ho h0 h1 fun h' k g' k' => ?_
  refine wpI_pure ?_
  refine if_false rfl ?_
  refine wpI_pure (hQ h' k _ (get?_size_none _) g' fun b o e => k' b o (Nat.ne_of_lt (Heap.lt_size e)) (Heap.get?_push_of_some _ e))
end
section
variable {w : World} {c : Cx} {m : Lm} {σ : CH} {X : CH → Prop} {Q : CV → Lm → CH → Prop}
theorem CallV.newBa {k : Nat} {n : Int} (hn : σ k = none) (h0 : 0 ≤ n) (h1 : n ≤ 100000) (q : Q (.ref k) m (σ.set k (.barr (Array.replicate n.toNat 0)))) : CallV w c (.top (.type "bytearray")) [.int n] m σ Q X :=
  .prim (fun _ _ => .type) fun T s vs W ra => by
    obtain ⟨v, vs', rfl, r, ra⟩ := ra.cons_inv
    cases ra.nil_inv
    obtain ⟨t, rfl⟩ := r.int_inv
    refine ⟨fun Qr Er hp hq _ => call_ba h0 h1 fun h' tk a hnone hg hk => ?_⟩
    have W' : Wf w c T m σ { s with heap := h', toks := tk } := W.keeps hk
    obtain ⟨x, W2⟩ := W'.nameNew (o := .barr (Array.replicate n.toNat 0)) (W.toW0.fresh' hnone) hg hn (fun T' x h => ⟨a, h, hg⟩)
    exact hq _ _ _ _ _ _ q W2 x (VR.ref (TM.put_self ..))
end
end Mine
end
section
open Builtin
namespace Mine
theorem b_sub : isSubtype (.type "bytes") (.type "bytes") = pure true := F.bm_sub
section
variable {prog : Program} {w : World} {A : Around} {E : Value → Shared → Prop} {s : Shared}
theorem b_buffer {b : Array UInt8} {t : Tok} {id : String} {full : Bool} {Q : Option (Array UInt8) → Shared → Prop} (h : Q (some b) s) : wpAny (model prog w) A (Bytes.buffer? id (.bytes b t) full) Q E s := by
  have hT : s.TypeIs (.bytes b t) "bytes" := rfl
  unfold Builtin.Bytes.buffer?
  refine wpAny_bind (wpAny_specialOf hT by_b_buffer ?_)
  refine wpAny_bind (slotOwn hT by_b_buffer bae5 bae6 b_sub ?_)
  refine bm_if_false rfl ?_
  refine wpAny_bind (wpAny_specialOf hT by_b_buffer ?_)
  show wpAny _ _ (Bytes.ownRelease (.bytes b t) >>= _) _ _ _
  refine wpAny_bind (wpAny_bind (slotNone hT b_rel (wpAny_pure ?_)))
  refine bm_if_false rfl ?_
  refine wpAny_bind ?_
  unfold Bytes.payload Bytes.payload?
  exact wpAny_bind (wpAny_pure (wpAny_pure (wpAny_pure h)))
theorem b_take {b : Array UInt8} {t : Tok} {id : String} {Q : Option (Array UInt8 × Option Value) → Shared → Prop} (h : Q (some (b, none)) s) : wpAny (model prog w) A (Bytes.takeBufferQuiet? id (.bytes b t) 0) Q E s := by
  have hT : s.TypeIs (.bytes b t) "bytes" := rfl
  unfold Bytes.takeBufferQuiet?
  refine wpAny_bind (wpAny_attempt ?_)
  unfold Bytes.takeBuffer?
  refine wpAny_bind (wpAny_specialOf hT by_b_buffer ?_)
  refine wpAny_bind (slotOwn hT by_b_buffer bae5 bae6 b_sub ?_)
  refine bm_if_false rfl ?_
  refine wpAny_bind (wpAny_specialOf hT by_b_buffer ?_)
  show wpAny _ _ (Bytes.buffer? id (.bytes b t) _ >>= _) _ _ _
  refine wpAny_bind (b_buffer (wpAny_pure ?_))
  exact wpAny_pure h
end
end Mine
namespace Mine
section
variable {prog : Program} {w : World} {A : Around} {E : Value → Shared → Prop} {s : Shared}
theorem if_true {α : Type} {M : Model} {c : Bool} {a b : Sem α} {Q : α → Shared → Prop} (hc : c = true) (h : wpI M A a Q E s) : wpI M A (if c = true then a else b) Q E s := by
  subst hc
  exact h
theorem ba_resize {a : Addr} {b : Array UInt8} (ho : s.heap.get? a = some (barO b)) {Q : Unit → Shared → Prop} (h : Q () s) : wpI (model prog w) A (Bytes.checkResize (.ref a)) Q E s := by
  refine wpI_bind ?_
  refine wpI_bind (wpI_exported ?_)
  refine of ?_
  show PySem.wpAny _ _ (Bytes.exportsOf (.ref a) >>= _) _ _ _
  refine PySem.wpAny_bind (PySem.wpAny_bind (PySem.wpAny_load ho ?_))
  refine PySem.wpAny_pure (PySem.wpAny_pure ?_)
  refine of ?_
  refine bm_if_false (by decide) ?_
  exact PySem.wpAny_pure h
theorem ba_extend {a : Addr} {b c : Array UInt8} {t : Tok} {Q : Fin → Shared → Prop} (ho : s.heap.get? a = some (barO b)) (hz : b.size + c.size ≤ 100000)
    (hQ : ∀ h', h'.get? a = some (barO (b ++ c)) → (∀ b o, b ≠ a → s.heap.get? b = some o → h'.get? b = some o) → Q (.done (.ret .none)) { s with heap := h' }) :
    wpI (model prog w) A (Builtin.«bytearray.extend» ⟨[.ref a, .bytes c t], []⟩) Q E s := by
  refine wpI_bind (of (PySem.wpAny_of_eq (a := (.ref a, .bytes c t)) rfl ?_))
  refine wpI_bind (of (wpAny_specialOf (rfl : Shared.TypeIs _ (.bytes c t) "bytes") by_b_buffer ?_))
  refine if_true rfl ?_
  refine wpI_bind (of (PySem.wpAny_rule ?_))
  refine wpI_bind (of ?_)
  unfold Bytes.payload Bytes.payload?
  refine PySem.wpAny_bind (PySem.wpAny_bind (PySem.wpAny_load ho ?_))
  refine PySem.wpAny_pure (PySem.wpAny_pure ?_)
  refine wpI_bind (of (b_take ?_))
  refine if_true rfl ?_
  have fin : wpI (model prog w) A (Bytes.write (.ref a) (· ++ c) >>= fun _ => ret .none) Q E s :=
    wpI_bind (of (ba_write ho (by simp; lia) fun h' g k => wpI_pure (hQ h' g k)))
  first
    | (show wpI _ _ (if (!c.isEmpty) = true then (Bytes.checkResize (.ref a) >>= fun _ => (Bytes.write (.ref a) (· ++ c) >>= fun _ => ret .none)) else (Bytes.write (.ref a) (· ++ c) >>= fun _ => ret .none)) _ _ _
       split
       · exact wpI_bind (ba_resize ho fin)
       · exact fin)
theorem call_extend {a : Addr} {b c : Array UInt8} {t : Tok} {Q : Value → Shared → Prop} (ho : s.heap.get? a = some (barO b)) (hz : b.size + c.size ≤ 100000)
    (hQ : ∀ h', h'.get? a = some (barO (b ++ c)) → (∀ b o, b ≠ a → s.heap.get? b = some o → h'.get? b = some o) → Q .none { s with heap := h' }) :
    wpI (model prog w) A (PySem.call (.builtin "bytearray.extend") [.ref a, .bytes c t]) Q E s := by
  refine wpI_call (codeI_call_builtin_at (Code.quiet_builtin _ (by decide +kernel)) rfl entry_ba_extend (slot_ba_extend.check _ _ _ _ _ _ _ _ ⟨_, ho, rfl⟩ (args_ba_extend _ _) ?_))
  exact ba_extend ho hz fun h' g k => hQ h' g k
end
section
variable {w : World} {c : Cx} {m : Lm} {σ : CH} {X : CH → Prop} {Q : CV → Lm → CH → Prop}
theorem CallV.extendBa {k : Nat} {b d : Array UInt8} (hn : σ k = some (.barr b)) (hz : b.size + d.size ≤ 100000) (q : Q .none m (σ.set k (.barr (b ++ d)))) : CallV w c (.top (.builtin "bytearray.extend")) [.ref k, .bytes d] m σ Q X :=
  .prim (fun _ _ => .builtin) fun T s vs W ra => by
    obtain ⟨v, vs', rfl, r, ra⟩ := ra.cons_inv
    obtain ⟨v2, vs2, rfl, r2, ra⟩ := ra.cons_inv
    cases ra.nil_inv
    obtain ⟨t, rfl⟩ := r2.bytes_inv
    obtain ⟨a, rfl, ha, ho⟩ := W.barrAt r hn
    refine ⟨fun Qr Er hp hq _ => call_extend ho hz fun h' g k' => ?_⟩
    have W2 := W.write (n := k) (o := .barr (b ++ d)) (h' := h') (tk := s.toks) (d := a) ⟨_, ha⟩ (fun a' ob h e => k' a' ob h e) g ⟨a, ha, g⟩
    exact hq _ _ _ _ _ _ q W2 (.refl T) VR.none
end
end Mine
end
section
namespace Mine
open Builtin in
mutual
noncomputable def shC : CV → Str
  | .none => "None"
  | .bool b => if b then "True" else "False"
  | .int i => toString i
  | .str x => reprText x
  | .bytes b => Bytes.literal b
  | .tup l => tupleText (shCs l)
  | .fl l => listText (shCs l)
  | _ => ""
noncomputable def shCs : List CV → List Str
  | [] => []
  | c :: l => shC c :: shCs l
end
mutual
noncomputable def okB : CV → Bool
  | .none => true
  | .bool _ => true
  | .int i => decide (i.natAbs.log2 < 1920)
  | .str x => decide ((reprText x).length ≤ 100)
  | .bytes b => decide (b.size < 31) && (b == Array.replicate b.size 0)
  | .tup l => okBs l
  | .fl l => okBs l
  | _ => false
noncomputable def okBs : List CV → Bool
  | [] => true
  | c :: l => okB c && okBs l
end
mutual
noncomputable def dpC : CV → Nat
  | .tup l => dpCs l + 1
  | .fl l => dpCs l + 1
  | _ => 0
noncomputable def dpCs : List CV → Nat
  | [] => 0
  | c :: l => max (dpC c) (dpCs l)
end
mutual
noncomputable def lnC : CV → Nat
  | .tup l => lnCs l + 3
  | .fl l => lnCs l + 2
  | .int _ => 1930
  | _ => 200
noncomputable def lnCs : List CV → Nat
  | [] => 0
  | c :: l => lnC c + 2 + lnCs l
end
noncomputable def vC : Value → CV
  | .none => .none
  | .bool b => .bool b
  | .int i _ => .int i
  | .str x _ => .str x
  | .bytes b _ => .bytes b
  | _ => .unb
theorem At.vC {T : TM} {c : CV} {v : Value} (a : At T c v) (o : okB c = true) : vC v = c := by
  cases c with
  | none => exact congrArg Mine.vC (show v = .none from a)
  | bool b => exact congrArg Mine.vC (show v = .bool b from a)
  | int i => exact Exists.elim (show ∃ t, v = .int i t from a) fun t e => congrArg Mine.vC e
  | str i => exact Exists.elim (show ∃ t, v = .str i t from a) fun t e => congrArg Mine.vC e
  | bytes i => exact Exists.elim (show ∃ t, v = .bytes i t from a) fun t e => congrArg Mine.vC e
  | tup => exact a.elim
  | fl => exact a.elim
  | _ => exact (Bool.false_ne_true o).elim
inductive VInv (T : TM) (v : Value) (vs : List Value) : List CV → Prop
  | atom {c l} : At T c v → VX T l vs → VInv T v vs (c :: l)
  | tup {a k l' vs' l} : v = .ref a → T a = some (.frz (tupO vs' k)) → VX T l' vs' → VX T l vs → VInv T v vs (.tup l' :: l)
  | fl {a k l' vs' l} : v = .ref a → T a = some (.frz (lstO vs' k)) → VX T l' vs' → VX T l vs → VInv T v vs (.fl l' :: l)
  | fn {d l' l} : VInv T v vs (.fn d l' :: l)
theorem VX.vinv {T : TM} {v : Value} {vs : List Value} {l : List CV} (h : VX T l (v :: vs)) : VInv T v vs l := by
  cases h with
  | atom a r => exact .atom a r
  | tup a b r => exact .tup rfl a b r
  | fl a b r => exact .fl rfl a b r
  | fn => exact .fn
theorem seq_inj {vs vs' : List Value} {c c' : Value} {k k' : Nat} (h : some (Tag.frz { cls := c, data := .seq vs.toArray k }) = some (Tag.frz { cls := c', data := .seq vs'.toArray k' })) : c = c' ∧ vs = vs' := by
  injection h with e; injection e with e; injection e with h1 _ e; injection e with e
  exact ⟨h1, congrArg Array.toList e⟩
theorem okBs_cons {c : CV} {l : List CV} (h : okBs (c :: l) = true) : okB c = true ∧ okBs l = true := Bool.and_eq_true_iff.mp h
theorem cons_of {c c' : CV} {l l' : List CV} (e : c = c') (h : l = l') : c :: l = c' :: l' := by subst e; subst h; rfl
theorem VX.det {T : TM} {l : List CV} {vs : List Value} (r : VX T l vs) : ∀ {l' : List CV}, VX T l' vs → okBs l = true → okBs l' = true → l = l' := by
  have no : ∀ {c a}, At T c (.ref a) → okB c = true → False := fun x o => Bool.false_ne_true ((congrArg okB (x.vC o)).trans o)
  induction r with
  | nil => intro l' h _ _; cases h; rfl
  | atom a _ ih =>
    intro l' h o1 o2
    induction h.vinv with
    | atom a' r' => exact cons_of ((a.vC (okBs_cons o1).1).symm.trans (a'.vC (okBs_cons o2).1)) (ih r' (okBs_cons o1).2 (okBs_cons o2).2)
    | tup e => subst e; exact (no a (okBs_cons o1).1).elim
    | fl e => subst e; exact (no a (okBs_cons o1).1).elim
    | fn => exact (Bool.false_ne_true (okBs_cons o2).1).elim
  | tup ha h1 h2 i1 i2 =>
    intro l' h o1 o2
    induction h.vinv with
    | atom a' r' => exact (no a' (okBs_cons o2).1).elim
    | tup e ha' h1' h2' =>
      (injection e with e; subst e)
      cases (seq_inj (ha.symm.trans ha')).2
      exact cons_of (congrArg CV.tup (i1 h1' (okBs_cons o1).1 (okBs_cons o2).1)) (i2 h2' (okBs_cons o1).2 (okBs_cons o2).2)
    | fl e ha' => (injection e with e; subst e); exact absurd (seq_inj (ha.symm.trans ha')).1 (by decide)
    | fn => exact (Bool.false_ne_true (okBs_cons o2).1).elim
  | fl ha h1 h2 i1 i2 =>
    intro l' h o1 o2
    induction h.vinv with
    | atom a' r' => exact (no a' (okBs_cons o2).1).elim
    | fl e ha' h1' h2' =>
      (injection e with e; subst e)
      cases (seq_inj (ha.symm.trans ha')).2
      exact cons_of (congrArg CV.fl (i1 h1' (okBs_cons o1).1 (okBs_cons o2).1)) (i2 h2' (okBs_cons o1).2 (okBs_cons o2).2)
    | tup e ha' => (injection e with e; subst e); exact absurd (seq_inj (ha.symm.trans ha')).1 (by decide)
    | fn => exact (Bool.false_ne_true (okBs_cons o2).1).elim
  | fn => intro l' h o1; exact (Bool.false_ne_true (okBs_cons o1).1).elim
end Mine
end
section
namespace Mine
theorem slot_b_repr : Slot "bytes" "__repr__" "bytes.__repr__" :=
  .of (owner := "bytes") (n := "__repr__") (by rewrite [typeLookup_type]; refine rwP builtinLookup_eq_fast ?_; kernel_rfl) (by decide +kernel) (by decide +kernel) (by decide +kernel)
    (by first | exact .inl (by decide +kernel) | exact .inr (by decide +kernel)) (by rw [isSubtype_type]; kernel_rfl)
theorem entry_b_repr : entryFor table "bytes.__repr__" = some Builtin.«bytes.__repr__» := entryFor_of_tree (by kernel_rfl)
theorem args_b_repr (a : Value) : argsOk "bytes.__repr__" ⟨[a], []⟩ := by
  unfold argsOk; refine rwP (signature?_of (id := "bytes.__repr__") (n := ['_', '_', 'r', 'p', 'e', 'r', '_', '_']) (o := ['s', 'e', 't', 'y', 'b']) (by kernel_rfl) FB.owner_bytes) ?_; kernel_rfl
theorem zeros_len : ∀ n, n < 31 → (Builtin.Bytes.literal (Array.replicate n 0)).length ≤ 200 := by decide +kernel
section
variable {prog : Program} {w : World} {A : Around} {E : Value → Shared → Prop} {s : Shared}
theorem b_repr_meets {b : Array UInt8} {t : Tok} (hb : b.size < 31) (hz : (Builtin.Bytes.literal b).length ≤ 200) : Meets (Builtin.«bytes.__repr__» ⟨[.bytes b t], []⟩) (fun _ R s => R (.ok (.ret (.str (Builtin.Bytes.literal b) s.toks))) { s with toks := s.toks + 1 }) := by
  refine fun prog w A R s h => ?_
  show wpAny _ _ (do retStr (← Builtin.Bytes.literalAsked (← Builtin.Bytes.payload (.bytes b t)))) _ _ s
  unfold Builtin.Bytes.payload Builtin.Bytes.payload?
  refine wpAny_bind (wpAny_bind (wpAny_pure (wpAny_pure ?_)))
  refine wpAny_bind ?_
  refine bm_if_false (by unfold Builtin.Bytes.tooLong; refine rwP sizeLine_eq ?_; simp; lia) ?_
  refine wpAny_pure ?_
  exact wpAny_bind (wpAny_mkStr (wpAny_pure h) (by refine rwP sizeLine_eq ?_; lia))
theorem b_repr {b : Array UInt8} {t : Tok} (hb : b.size < 31) (hz : (Builtin.Bytes.literal b).length ≤ 200) {Q : Value → Shared → Prop} (hu : A.units < cLine) (h : Q (.str (Builtin.Bytes.literal b) s.toks) { s with toks := s.toks + 1 }) : wpAny (model prog w) A (pyReprObj (.bytes b t)) Q E s :=
  wpAny_pyReprObj_slot hu rfl slot_b_repr.toG (call_meets slot_b_repr rfl entry_b_repr (args_b_repr _) (b_repr_meets hb hz) ⟨_, _, rfl, h⟩)
end
section
variable {prog : Program} {w : World} {T : TM} {h : Heap}
theorem ReprK.bytes {b : Array UInt8} {t : Tok} (hb : b.size < 31) (hz : (Builtin.Bytes.literal b).length ≤ 200) (as : List Addr) (h₀ : Heap) (d : Nat) : ReprK prog w as h₀ d (.bytes b t) (Builtin.Bytes.literal b) :=
  fun base hbs A g E s Q hg hcl hu hk hQ => by
    have hn' : base ≤ sizeLine := by lia
    refine rwP (pyReprUnder_leaf (v := .bytes b t) hn' (fun _ e => nomatch e)) ?_
    exact wpAny_bind (b_repr hb hz (by lia) (wpAny_pure (hQ s.heap _ fun _ _ e => e)))
inductive InD (T : TM) (n : Nat) (a : Addr) : Prop
  | mk (l : List CV) (vs : List Value) (c : Value) (k : Nat) : T a = some (.frz { cls := c, data := .seq vs.toArray k }) → VX T l vs → okBs l = true → dpCs l < n → InD T n a
theorem InD.mono {n m : Nat} {a : Addr} (h : InD T n a) (hnm : n ≤ m) : InD T m a :=
  h.rec fun l vs c k h1 h3 h4 h5 => ⟨l, vs, c, k, h1, h3, h4, Nat.lt_of_lt_of_le h5 hnm⟩
theorem InD.not {l : List CV} {vs : List Value} {c : Value} {k : Nat} {a : Addr} (ha : T a = some (.frz { cls := c, data := .seq vs.toArray k })) (r : VX T l vs) (ok : okBs l = true) (h : InD T (dpCs l) a) : False :=
  h.rec fun l' vs' c' k' h1 h3 h4 h5 => Nat.lt_irrefl _ (Nat.lt_of_lt_of_le h5 (Nat.le_of_eq (congrArg dpCs (VX.det r ((seq_inj (ha.symm.trans h1)).2 ▸ h3) ok h4))))
theorem ReprAllK.two {x : CV} {l l1 : List CV} {vs : List Value} {as1 as2 : List Addr} {a : Addr} (hx : dpC x = dpCs l1 + 1) (ha : InD T (dpCs l1 + 1) a) (d1 : ∀ b ∈ as1, InD T (dpCs l1) b) (d2 : ∀ b ∈ as2, InD T (dpCs l) b)
    (R1 : ReprK prog w (a :: as1) h (dpCs l1 + 1) (.ref a) (shC x)) (r2 : ReprAllK prog w as2 h (dpCs l) vs (shCs l)) : ∃ as, (∀ a ∈ as, InD T (dpCs (x :: l)) a) ∧ ReprAllK prog w as h (dpCs (x :: l)) (.ref a :: vs) (shCs (x :: l)) := by
  have e : dpCs (x :: l) = max (dpCs l1 + 1) (dpCs l) := congrArg (fun z => max z (dpCs l)) hx
  refine rwP e ?_
  refine ⟨(a :: as1) ++ as2, fun b hb => ?_, .cons ((R1.more fun b hb => List.mem_append_left _ hb).level_le (Nat.le_max_left _ _)) (r2.more_le (fun b hb => List.mem_append_right _ hb) (Nat.le_max_right _ _))⟩
  rcases List.mem_append.mp hb with hb | hb
  · refine InD.mono ?_ (Nat.le_max_left _ _)
    rcases List.mem_cons.mp hb with rfl | hb
    · exact ha
    · exact (d1 b hb).mono (Nat.le_succ _)
  · exact (d2 b hb).mono (Nat.le_max_right _ _)
theorem ReprAllK.of_vx (hf : ∀ a o, T a = some (.frz o) → h.get? a = some o) {l : List CV} {vs : List Value} (r : VX T l vs) : okBs l = true → ∃ as, (∀ a ∈ as, InD T (dpCs l) a) ∧ ReprAllK prog w as h (dpCs l) vs (shCs l) := by
  induction r with
  | nil => intro _; exact ⟨[], fun a ha => absurd ha List.not_mem_nil, .nil⟩
  | @atom c v l vs a _ ih =>
    intro ok
    have ok1 := (okBs_cons ok).1
    have f : ∀ {v'}, v = v' → (∀ as, ReprK prog w as h (dpCs l) v' (shC c)) → ∃ as, (∀ a ∈ as, InD T (dpCs (c :: l)) a) ∧ ReprAllK prog w as h (dpCs (c :: l)) (v :: vs) (shCs (c :: l)) := fun e x => by
      have hd : dpCs (c :: l) = dpCs l := by
        have : dpC c = 0 := by cases c <;> first | rfl | exact a.elim
        exact (congrArg (fun z => max z (dpCs l)) this).trans (Nat.max_eq_right (Nat.zero_le _))
      refine rwP hd ?_
      exact (ih (okBs_cons ok).2).elim fun as h => ⟨as, h.1, .cons (e ▸ x as) h.2⟩
    clear ih ok
    cases c with
    | none => exact f a fun as => .of_is .none as h _
    | bool => exact f a fun as => .of_is (.bool _) as h _
    | int i => exact a.elim fun t e => f e fun as => .of_is (.int t (of_decide_eq_true ok1)) as h _
    | str x => exact a.elim fun t e => f e fun as => .of_is (.str _ t (Nat.le_trans (of_decide_eq_true ok1) (by refine rwP sizeLine_eq ?_; decide))) as h _
    | bytes b => exact a.elim fun t e => f e fun as => ReprK.bytes (of_decide_eq_true (Bool.and_eq_true_iff.mp ok1).1) (by refine rwP (eq_of_beq (Bool.and_eq_true_iff.mp ok1).2) ?_; exact zeros_len _ (of_decide_eq_true (Bool.and_eq_true_iff.mp ok1).1)) as h _
    | tup => exact a.elim
    | fl => exact a.elim
    | _ => exact (Bool.false_ne_true ok1).elim
  | @tup a k l1 vs1 l vs ha h1 h2 i1 i2 =>
    intro ok
    obtain ⟨as1, d1, r1⟩ := i1 (okBs_cons ok).1
    obtain ⟨as2, d2, r2⟩ := i2 (okBs_cons ok).2
    exact ReprAllK.two (x := .tup l1) rfl ⟨l1, vs1, _, k, ha, h1, (okBs_cons ok).1, Nat.lt_succ_self _⟩ d1 d2 (ReprK.tuple (prog := prog) (w := w) (d := dpCs l1) (ts := shCs l1) (hf _ _ ha) rfl rfl (fun hm => InD.not ha h1 (okBs_cons ok).1 (d1 a hm)) r1) r2
  | @fl a k l1 vs1 l vs ha h1 h2 i1 i2 =>
    intro ok
    obtain ⟨as1, d1, r1⟩ := i1 (okBs_cons ok).1
    obtain ⟨as2, d2, r2⟩ := i2 (okBs_cons ok).2
    refine ReprAllK.two (x := .fl l1) rfl ⟨l1, vs1, _, k, ha, h1, (okBs_cons ok).1, Nat.lt_succ_self _⟩ d1 d2 ?_ r2
    have hna : a ∉ as1 := fun hm => InD.not ha h1 (okBs_cons ok).1 (d1 a hm)
    have ha := hf _ _ ha
    cases vs1 with
    | nil =>
      cases h1
      show ReprK prog w (a :: as1) h (dpCs [] + 1) (.ref a) (listText [])
      refine rwP listText_nil ?_
      exact ReprK.listEmpty ha rfl rfl
    | cons => exact ReprK.list ha rfl rfl hna r1.length_eq (fun i y e => r1.item i y (by simpa using e))
  | fn => intro o; exact (Bool.false_ne_true (okBs_cons o).1).elim
end
end Mine
end
section
namespace Mine
theorem listText_le (ts : List Str) : (listText ts).length ≤ piled ts + 2 := by
  induction ts with
  | nil => refine rwP listText_nil ?_; decide
  | cons t r =>
    have h := textFrom_length_pos r 1 (("[" : Str) ++ (if (0 : Nat) > 0 then ", " else "" : String) ++ t) (Nat.succ_pos 0)
    have e : ((("[" : Str) ++ (if (0 : Nat) > 0 then ", " else "" : String) ++ t)).length = 1 + t.length := by
      rw [strLen_append, strLen_append]; rfl
    have : (listText (t :: r)).length = (textFrom 1 (("[" : Str) ++ (if (0 : Nat) > 0 then ", " else "" : String) ++ t) r).length + 1 := by
      show (textFrom 1 _ r ++ "]").length = _
      rw [strLen_append]; rfl
    refine rwP this ?_; refine rwP h ?_; refine rwP e ?_; rw [piled_cons]; lia
theorem tupleText_le (ts : List Str) : (tupleText ts).length ≤ piled ts + 3 := by
  unfold tupleText
  rw [strLen_append, strLen_append]
  have e1 : ((("(" : String) : Str)).length = 1 := rfl
  have e3 : (((if ts.length == 1 then ",)" else ")" : String) : Str)).length ≤ 2 := by split <;> decide
  induction ts with
  | nil => have : (Str.join ", " ([] : List Str)).length = 0 := rfl
           refine rwP e1 ?_; refine rwP this ?_; lia
  | cons t r =>
    have := join_length_add (t :: r) (List.cons_ne_nil _ _)
    refine rwP e1 ?_; lia
mutual
theorem shC_len : ∀ c, okB c = true → (shC c).length ≤ lnC c
  | .none, _ => Nat.le_of_ble_eq_true rfl
  | .bool b, _ => by cases b <;> exact Nat.le_of_ble_eq_true rfl
  | .int i, h => Nat.le_trans (int_text_len_1921 (of_decide_eq_true h)) (Nat.le_of_ble_eq_true rfl)
  | .str x, h => Nat.le_trans (of_decide_eq_true h) (Nat.le_of_ble_eq_true rfl)
  | .bytes b, h => Nat.le_trans (Nat.le_of_eq (congrArg (fun z => (Builtin.Bytes.literal z).length) (eq_of_beq (Bool.and_eq_true_iff.mp h).2))) (zeros_len _ (of_decide_eq_true (Bool.and_eq_true_iff.mp h).1))
  | .tup l, h => Nat.le_trans (tupleText_le _) (Nat.add_le_add_right (shCs_len l h) 3)
  | .fl l, h => Nat.le_trans (listText_le _) (Nat.add_le_add_right (shCs_len l h) 2)
  | .top _, h => (Bool.false_ne_true h).elim
  | .ref _, h => (Bool.false_ne_true h).elim
  | .unb, h => (Bool.false_ne_true h).elim
  | .fn _ _, h => (Bool.false_ne_true h).elim
  | .rng _ _, h => (Bool.false_ne_true h).elim
theorem shCs_len : ∀ l, okBs l = true → piled (shCs l) ≤ lnCs l
  | [], _ => Nat.le_refl 0
  | c :: l, h => Nat.le_trans (Nat.le_of_eq (piled_cons _ _)) (Nat.add_le_add (Nat.add_le_add_right (shC_len c (okBs_cons h).1) 2) (shCs_len l (okBs_cons h).2))
end
section
variable {w : World} {c : Cx} {m : Lm} {σ : CH} {X : CH → Prop} {Q : CV → Lm → CH → Prop}
theorem CallV.repr {cv : CV} (ok : okB cv = true) (hz : lnC cv ≤ 1000000) (hd : dpC cv ≤ 100) (q : Q (.str (shC cv)) m σ) : CallV w c (.top (.builtin "repr")) [cv] m σ Q X :=
  .prim (fun _ _ => .builtin) fun T s vs W ra => by
    obtain ⟨v, vs', rfl, r, ra⟩ := ra.cons_inv
    cases ra.nil_inv
    refine ⟨fun Qr Er hp hq _ => of <| ?_⟩
    have hlen := shC_len cv ok
    have hsz : (shC cv).length ≤ sizeLine := by refine rwP sizeLine_eq ?_; lia
    have hu : c.A.units + 200 < cLine := by have := W.ok.units; have := W.ok.lvl; have : cLine = 9900 := rfl; lia
    have fin : ∀ h' u tk, (∀ b o, s.heap.get? b = some o → h'.get? b = some o) → Qr (.str (shC cv) u) { s with heap := h', toks := tk } := fun h' u tk hk => hq _ _ _ _ _ _ q (W.keeps hk) (.refl T) VR.str
    cases cv with
    | none => refine rwP r.none_inv ?_; exact P.repr_of_none (fin s.heap s.toks (s.toks + 1) fun _ _ e => e)
    | bool b => refine rwP r.bool_inv ?_; exact P.repr_of_bool (fin s.heap s.toks (s.toks + 1) fun _ _ e => e)
    | int i =>
      obtain ⟨t, rfl⟩ := r.int_inv
      exact P.repr_of_int (of_decide_eq_true ok) (fin s.heap s.toks (s.toks + 1) fun _ _ e => e)
    | str x =>
      obtain ⟨t, rfl⟩ := r.str_inv
      exact P.repr_of_str (fin s.heap s.toks (s.toks + 1) fun _ _ e => e) hsz
    | bytes b =>
      obtain ⟨t, rfl⟩ := r.bytes_inv
      have ok := Bool.and_eq_true_iff.mp ok
      exact call_repr_slot (by lia) rfl slot_b_repr.toG (call_meets slot_b_repr rfl entry_b_repr (args_b_repr _) (b_repr_meets (of_decide_eq_true ok.1) (shC_len (.bytes b) (Bool.and_eq_true_iff.mpr ok))) ⟨_, _, rfl, fin s.heap s.toks (s.toks + 1) fun _ _ e => e⟩)
    | tup l =>
      obtain ⟨a, k, vs, rfl, ha, hv⟩ := r.tup_inv
      have hd : dpCs l + 1 ≤ 100 := hd
      obtain ⟨as, d1, r1⟩ := ReprAllK.of_vx (prog := c.prog) (w := w) (W.toW0.frz) hv ok
      have hna : a ∉ as := fun hm => InD.not ha hv ok (d1 a hm)
      exact call_repr_slot (by lia) ⟨_, W.toW0.frz _ _ ha, rfl⟩ F.slot_tuple_repr (call_tuple_reprK (W.toW0.frz _ _ ha) rfl rfl hna (by simpa using r1) W.ok.guards (fun b _ => Clear.nil b) (by show c.A.units + 1 + (dpCs l + 1) < cLine; lia) (fun _ _ e => e) (fun h' u tk hk => ⟨_, _, rfl, fin h' u tk hk⟩) hsz)
    | fl l =>
      obtain ⟨a, k, vs, rfl, ha, hv⟩ := r.fl_inv
      have hd : dpCs l + 1 ≤ 100 := hd
      obtain ⟨as, d1, r1⟩ := ReprAllK.of_vx (prog := c.prog) (w := w) (W.toW0.frz) hv ok
      have hna : a ∉ as := fun hm => InD.not ha hv ok (d1 a hm)
      have ho := W.toW0.frz _ _ ha
      induction vs with
      | nil =>
        cases hv
        have fin : ∀ h' u tk, _ → Qr (.str (listText []) u) { s with heap := h', toks := tk } := fin
        rw [listText_nil] at fin
        exact call_repr_slot (by lia) ⟨_, ho, rfl⟩ F.slot_list_repr.toG (call_list_repr_empty ⟨_, ho, rfl⟩ ho rfl ⟨_, _, rfl, fin s.heap _ _ fun _ _ e => e⟩)
      | cons x vs =>
        exact call_repr_slot (by lia) ⟨_, ho, rfl⟩ F.slot_list_repr.toG (call_list_reprK ho rfl rfl hna (by simpa using r1.length_eq) (fun i y e => r1.item i y (by simpa using e)) W.ok.guards (fun b _ => Clear.nil b) (by show c.A.units + 1 + (dpCs l + 1) < cLine; lia) (fun _ _ e => e) (fun h' u tk hk => ⟨_, _, rfl, fin h' u tk hk⟩) hsz)
    | _ => exact (Bool.false_ne_true ok).elim
end
end Mine
end
section
namespace Mine
noncomputable def AttrOk (w : World) (C : Addr) (name : Str) : Prop := ∃ attr, plainGet (kk.heap_1 w.params) C name = true ∧ hasDictIn (kk.heap_1 w.params) C = true ∧ findIn (kk.heap_1 w.params) (.ref C) name = some attr ∧ noGet (kk.heap_1 w.params) attr = true
noncomputable def MethOk (w : World) (C : Addr) (name : Str) (f : Addr) : Prop := plainGet (kk.heap_1 w.params) C name = true ∧ findIn (kk.heap_1 w.params) (.ref C) name = some (some (.ref f)) ∧ isFn (kk.heap_1 w.params) (.ref f) = true
noncomputable def ValOk (w : World) (C : Addr) (name : Str) : Prop := plainGet (kk.heap_1 w.params) C name = true ∧ hasDictIn (kk.heap_1 w.params) C = true ∧ findIn (kk.heap_1 w.params) (.ref C) name = some none
section
variable {w : World} {c : Cx} {T : TM} {s : Shared} {m : Lm} {σ : CH} {X : CH → Prop} {sc : Scope}
theorem StOk.loc {x : Str} (h : c.sc = sc) (k : sc.names.lookup x = some .local) : StOk c m x := .inl (by refine rwP h ?_; exact k)
theorem EV.gl {Q : CV → Lm → CH → Prop} {x : Str} {pos : Pos} {v : Value} (h : c.sc = sc) (k : sc.names.lookup x = some .globalImplicit) (e : nsIn (kk.heap_1 w.params) mainGlobals x = some (some v)) (q : Q (.top v) m σ) (hd : (x == dbg) = false) : EV w c (.Name x pos) m σ Q X :=
  EV.globK (by refine rwP h ?_; exact k) e q hd
theorem EV.bi {Q : CV → Lm → CH → Prop} {x : Str} {pos : Pos} {v : Value} (h : c.sc = sc) (k : sc.names.lookup x = some .globalImplicit) (e : nsIn (kk.heap_1 w.params) mainGlobals x = some Option.none ∧ bootBuiltins x = some v) (q : Q (.top v) m σ) (hn : x ≠ "__name__") (hd : (x == dbg) = false) : EV w c (.Name x pos) m σ Q X :=
  EV.builtK (by refine rwP h ?_; exact k) e.1 e.2 q hn hd
theorem EV.attr2 {Q : CV → Lm → CH → Prop} {o : Expr} {name : Str} {p : Pos}
    (h : EV w c o m σ (fun co m1 σ1 => ∃ n C es cv, co = .ref n ∧ σ1 n = some (.inst C es) ∧ AttrOk w C name ∧ es.lookup name = some cv ∧ (∀ u, cv ≠ .top u) ∧ Q cv m1 σ1) X)
    (hb : attributeBase o name c.env (eval o c.env) = eval o c.env) : EV w c (.Attribute o name p) m σ Q X := fun T s W => by
  rewrite [arm_eval_Attribute]; refine rwP hb ?_
  refine J.bind (h T s W) fun co m1 σ1 T1 s1 ov q1 W1 x1 r1 => ?_
  refine hide fun Ph hPh => ?_
  obtain ⟨n, C, es, cv, rfl, hn', ⟨attr, hg, hh, ha, hn⟩, hl, hnt, q⟩ := q1
  obtain ⟨a, dx, rs, k, rfl, h1, h2, ho, hd, hr, I⟩ := W1.instAt r1 hn'
  refine hPh ?_
  have hgl := hr.getL name
  rw [hl] at hgl
  refine hide fun Ph hPh => ?_
  obtain ⟨v, hv, rv⟩ := hgl
  obtain ⟨pp, lo, mg, mb, TT, XX⟩ := Topped.ns W1.toW0
  refine hPh ?_
  rw [KF_eq] at XX
  generalize kk.heap_1 w.params = K at *
  refine J.standAt ?_
  refine ⟨fun Qr Er hp hq he => ?_⟩
  refine of <| wpAny_bind (wpAny_holding ?_)
  refine get_value XX I (plainGet_of hg).1 (findObj_own hh ha hn hv) (rv.handed hnt) ?_
  refine wpAny_bind (wpAny_letTemporaryGo (wpAny_pure ?_))
  exact hq cv m1 σ1 T1 _ v q (W1.tok _) (.refl _) rv
theorem MethV.own {n : Nat} {C f : Addr} {es : List (Str × CV)} {name : Str} {Q : CV → List CV → Prop} (h : σ n = some (.inst C es)) (k : MethOk w C name f) (hl : es.lookup name = none) (q : Q (.top (.ref f)) [.ref n]) : MethV w c (.ref n) name m σ Q :=
  MethV.inst k.1 k.2.1 k.2.2 h hl q
theorem MethV.val {n : Nat} {C : Addr} {es : List (Str × CV)} {name : Str} {cv : CV} {Q : CV → List CV → Prop} (hn : σ n = some (.inst C es)) (k : ValOk w C name) (hl : es.lookup name = some cv) (hnt : ∀ u, cv ≠ .top u) (q : Q cv []) : MethV w c (.ref n) name m σ Q := fun T s ov pl W r => by
  obtain ⟨hg, hh, ha⟩ := k
  obtain ⟨a, dx, rs, k, rfl, h1, h2, ho, hd, hr, I⟩ := W.instAt r hn
  have hgl := hr.getL name
  rw [hl] at hgl
  refine hide fun Ph hPh => ?_
  obtain ⟨v, hv, rv⟩ := hgl
  obtain ⟨pp, lo, mg, mb, TT, XX⟩ := Topped.ns W.toW0
  refine hPh ?_
  rw [KF_eq] at XX
  generalize kk.heap_1 w.params = K at *
  refine ⟨cv, [], v, [], q, rv, .nil, fun Qr Er h => ?_⟩
  refine method_usual XX I (plainGet_of hg).1 (plainGet_of hg).2 ha rfl ?_
  refine get_value XX I (plainGet_of hg).1 (findObj_own hh ha rfl hv) (rv.handed hnt) ?_
  exact h _
end
end Mine
end
section
namespace Mine
theorem fillA2 (w : World) (h : Heap) : (PySem.Challenge.rw_nm0141_01 = PySem.Challenge.rw_nm0141_01) → (kk.heap_1 w.params).In h → True := by
  k_fill
  intros; trivial
section
variable {w : World}
theorem g_Misused : nsIn (kk.heap_1 w.params) mainGlobals "Misused" = some (some (.ref 63)) := by k_is
theorem g_is_ref : nsIn (kk.heap_1 w.params) mainGlobals "is_ref" = some (some (.ref 95)) := by k_is
theorem k_is_ref : keepIn (kk.heap_1 w.params) (.ref 95) = true := by k_is
theorem g_bits_of : nsIn (kk.heap_1 w.params) mainGlobals "bits_of" = some (some (.ref 102)) := by k_is
theorem k_bits_of : keepIn (kk.heap_1 w.params) (.ref 102) = true := by k_is
theorem g_limits_fit : nsIn (kk.heap_1 w.params) mainGlobals "limits_fit" = some (some (.ref 109)) := by k_is
theorem k_limits_fit : keepIn (kk.heap_1 w.params) (.ref 109) = true := by k_is
theorem g_does_fit : nsIn (kk.heap_1 w.params) mainGlobals "does_fit" = some (some (.ref 128)) := by k_is
theorem k_does_fit : keepIn (kk.heap_1 w.params) (.ref 128) = true := by k_is
theorem g_do_fit : nsIn (kk.heap_1 w.params) mainGlobals "do_fit" = some (some (.ref 133)) := by k_is
theorem k_do_fit : keepIn (kk.heap_1 w.params) (.ref 133) = true := by k_is
theorem g_grown : nsIn (kk.heap_1 w.params) mainGlobals "grown" = some (some (.ref 140)) := by k_is
theorem k_grown : keepIn (kk.heap_1 w.params) (.ref 140) = true := by k_is
theorem g_of_sort : nsIn (kk.heap_1 w.params) mainGlobals "of_sort" = some (some (.ref 147)) := by k_is
theorem k_of_sort : keepIn (kk.heap_1 w.params) (.ref 147) = true := by k_is
theorem g_Memory : nsIn (kk.heap_1 w.params) mainGlobals "Memory" = some (some (.ref 248)) := by k_is
theorem k_Memory : keepIn (kk.heap_1 w.params) (.ref 248) = true := by k_is
theorem g_Table : nsIn (kk.heap_1 w.params) mainGlobals "Table" = some (some (.ref 339)) := by k_is
theorem k_Table : keepIn (kk.heap_1 w.params) (.ref 339) = true := by k_is
theorem g_Cell : nsIn (kk.heap_1 w.params) mainGlobals "Cell" = some (some (.ref 388)) := by k_is
theorem k_Cell : keepIn (kk.heap_1 w.params) (.ref 388) = true := by k_is
theorem g_HostFunc : nsIn (kk.heap_1 w.params) mainGlobals "HostFunc" = some (some (.ref 423)) := by k_is
theorem k_HostFunc : keepIn (kk.heap_1 w.params) (.ref 423) = true := by k_is
theorem g_Store : nsIn (kk.heap_1 w.params) mainGlobals "Store" = some (some (.ref 555)) := by k_is
theorem k_Store : keepIn (kk.heap_1 w.params) (.ref 555) = true := by k_is
theorem g_Sizes : nsIn (kk.heap_1 w.params) mainGlobals "Sizes" = some (some (.ref 84)) := by k_is
theorem k_Sizes : keepIn (kk.heap_1 w.params) (.ref 84) = true := by k_is
theorem g_HEAP_NAMES : nsIn (kk.heap_1 w.params) mainGlobals "HEAP_NAMES" = some (some (.ref 66)) := by k_is
theorem g_law_draw : nsIn (kk.heap_1 w.params) mainGlobals "_law_draw" = some (some (.ref 566)) := by k_is
theorem k_law_draw : keepIn (kk.heap_1 w.params) (.ref 566) = true := by k_is
theorem g_law_heard : nsIn (kk.heap_1 w.params) mainGlobals "_law_heard" = some (some (.ref 573)) := by k_is
theorem k_law_heard : keepIn (kk.heap_1 w.params) (.ref 573) = true := by k_is
theorem g_law_kinds : nsIn (kk.heap_1 w.params) mainGlobals "_law_kinds" = some (some (.ref 580)) := by k_is
theorem k_law_kinds : keepIn (kk.heap_1 w.params) (.ref 580) = true := by k_is
theorem g_law_fits : nsIn (kk.heap_1 w.params) mainGlobals "_law_fits" = some (some (.ref 587)) := by k_is
theorem k_law_fits : keepIn (kk.heap_1 w.params) (.ref 587) = true := by k_is
theorem g_law_do_fit : nsIn (kk.heap_1 w.params) mainGlobals "_law_do_fit" = some (some (.ref 592)) := by k_is
theorem k_law_do_fit : keepIn (kk.heap_1 w.params) (.ref 592) = true := by k_is
theorem g_law_value : nsIn (kk.heap_1 w.params) mainGlobals "_law_value" = some (some (.ref 599)) := by k_is
theorem k_law_value : keepIn (kk.heap_1 w.params) (.ref 599) = true := by k_is
theorem g_law_values : nsIn (kk.heap_1 w.params) mainGlobals "_law_values" = some (some (.ref 604)) := by k_is
theorem k_law_values : keepIn (kk.heap_1 w.params) (.ref 604) = true := by k_is
theorem g_law_host : nsIn (kk.heap_1 w.params) mainGlobals "_law_host" = some (some (.ref 611)) := by k_is
theorem k_law_host : keepIn (kk.heap_1 w.params) (.ref 611) = true := by k_is
theorem g_law_calls_right : nsIn (kk.heap_1 w.params) mainGlobals "_law_calls_right" = some (some (.ref 618)) := by k_is
theorem k_law_calls_right : keepIn (kk.heap_1 w.params) (.ref 618) = true := by k_is
theorem g_law_put_right : nsIn (kk.heap_1 w.params) mainGlobals "_law_put_right" = some (some (.ref 625)) := by k_is
theorem k_law_put_right : keepIn (kk.heap_1 w.params) (.ref 625) = true := by k_is
theorem g_law_found_right : nsIn (kk.heap_1 w.params) mainGlobals "_law_found_right" = some (some (.ref 632)) := by k_is
theorem k_law_found_right : keepIn (kk.heap_1 w.params) (.ref 632) = true := by k_is
theorem g_law_limits_right : nsIn (kk.heap_1 w.params) mainGlobals "_law_limits_right" = some (some (.ref 637)) := by k_is
theorem k_law_limits_right : keepIn (kk.heap_1 w.params) (.ref 637) = true := by k_is
theorem g_law_grow_right : nsIn (kk.heap_1 w.params) mainGlobals "_law_grow_right" = some (some (.ref 644)) := by k_is
theorem k_law_grow_right : keepIn (kk.heap_1 w.params) (.ref 644) = true := by k_is
theorem g_law_is_same : nsIn (kk.heap_1 w.params) mainGlobals "_law_is_same" = some (some (.ref 649)) := by k_is
theorem k_law_is_same : keepIn (kk.heap_1 w.params) (.ref 649) = true := by k_is
theorem g_law_made : nsIn (kk.heap_1 w.params) mainGlobals "_law_made" = some (some (.ref 656)) := by k_is
theorem k_law_made : keepIn (kk.heap_1 w.params) (.ref 656) = true := by k_is
theorem g_I32 : ∃ t, nsIn (kk.heap_1 w.params) mainGlobals "I32" = some (some (.int (-1) t)) := ⟨_, by k_is⟩
theorem g_I64 : ∃ t, nsIn (kk.heap_1 w.params) mainGlobals "I64" = some (some (.int (-2) t)) := ⟨_, by k_is⟩
theorem g_FUNCREF : ∃ t, nsIn (kk.heap_1 w.params) mainGlobals "FUNCREF" = some (some (.int (-16) t)) := ⟨_, by k_is⟩
theorem g_FUNCTION : ∃ t, nsIn (kk.heap_1 w.params) mainGlobals "FUNCTION" = some (some (.int (0) t)) := ⟨_, by k_is⟩
theorem g_TABLE : ∃ t, nsIn (kk.heap_1 w.params) mainGlobals "TABLE" = some (some (.int (1) t)) := ⟨_, by k_is⟩
theorem g_MEMORY : ∃ t, nsIn (kk.heap_1 w.params) mainGlobals "MEMORY" = some (some (.int (2) t)) := ⟨_, by k_is⟩
theorem g_GLOBAL : ∃ t, nsIn (kk.heap_1 w.params) mainGlobals "GLOBAL" = some (some (.int (3) t)) := ⟨_, by k_is⟩
theorem g_REFUSED : ∃ t, nsIn (kk.heap_1 w.params) mainGlobals "REFUSED" = some (some (.int (4294967295) t)) := ⟨_, by k_is⟩
theorem bi_len : nsIn (kk.heap_1 w.params) mainGlobals "len" = some Option.none ∧ bootBuiltins "len" = some (.builtin "len") := ⟨by k_is, by boot_fast⟩
theorem bi_isinstance : nsIn (kk.heap_1 w.params) mainGlobals "isinstance" = some Option.none ∧ bootBuiltins "isinstance" = some (.builtin "isinstance") := ⟨by k_is, by boot_fast⟩
theorem bi_all : nsIn (kk.heap_1 w.params) mainGlobals "all" = some Option.none ∧ bootBuiltins "all" = some (.builtin "all") := ⟨by k_is, by boot_fast⟩
theorem bi_repr : nsIn (kk.heap_1 w.params) mainGlobals "repr" = some Option.none ∧ bootBuiltins "repr" = some (.builtin "repr") := ⟨by k_is, by boot_fast⟩
theorem bi_zip : nsIn (kk.heap_1 w.params) mainGlobals "zip" = some Option.none ∧ bootBuiltins "zip" = some (.type "zip") := ⟨by k_is, by boot_fast⟩
theorem bi_range : nsIn (kk.heap_1 w.params) mainGlobals "range" = some Option.none ∧ bootBuiltins "range" = some (.type "range") := ⟨by k_is, by boot_fast⟩
theorem bi_list : nsIn (kk.heap_1 w.params) mainGlobals "list" = some Option.none ∧ bootBuiltins "list" = some (.type "list") := ⟨by k_is, by boot_fast⟩
theorem bi_tuple : nsIn (kk.heap_1 w.params) mainGlobals "tuple" = some Option.none ∧ bootBuiltins "tuple" = some (.type "tuple") := ⟨by k_is, by boot_fast⟩
theorem bi_bytes : nsIn (kk.heap_1 w.params) mainGlobals "bytes" = some Option.none ∧ bootBuiltins "bytes" = some (.type "bytes") := ⟨by k_is, by boot_fast⟩
theorem bi_type : nsIn (kk.heap_1 w.params) mainGlobals "type" = some Option.none ∧ bootBuiltins "type" = some (.type "type") := ⟨by k_is, by boot_fast⟩
theorem bi_int : nsIn (kk.heap_1 w.params) mainGlobals "int" = some Option.none ∧ bootBuiltins "int" = some (.type "int") := ⟨by k_is, by boot_fast⟩
theorem bi_bool : nsIn (kk.heap_1 w.params) mainGlobals "bool" = some Option.none ∧ bootBuiltins "bool" = some (.type "bool") := ⟨by k_is, by boot_fast⟩
theorem at_Sizes_page : AttrOk w 84 "page" := ⟨_, by k_is, by k_is, by k_is, by k_is⟩
theorem st_Sizes_page : StoreOk w 84 "page" := ⟨by k_is, by k_is, by k_is, by k_is⟩
theorem at_Sizes_pages : AttrOk w 84 "pages" := ⟨_, by k_is, by k_is, by k_is, by k_is⟩
theorem st_Sizes_pages : StoreOk w 84 "pages" := ⟨by k_is, by k_is, by k_is, by k_is⟩
theorem at_Sizes_elements : AttrOk w 84 "elements" := ⟨_, by k_is, by k_is, by k_is, by k_is⟩
theorem st_Sizes_elements : StoreOk w 84 "elements" := ⟨by k_is, by k_is, by k_is, by k_is⟩
theorem st_Sizes_depth : StoreOk w 84 "depth" := ⟨by k_is, by k_is, by k_is, by k_is⟩
theorem st_Sizes_fuel : StoreOk w 84 "fuel" := ⟨by k_is, by k_is, by k_is, by k_is⟩
theorem at_Memory_most : AttrOk w 248 "most" := ⟨_, by k_is, by k_is, by k_is, by k_is⟩
theorem st_Memory_most : StoreOk w 248 "most" := ⟨by k_is, by k_is, by k_is, by k_is⟩
theorem at_Memory_page : AttrOk w 248 "page" := ⟨_, by k_is, by k_is, by k_is, by k_is⟩
theorem st_Memory_page : StoreOk w 248 "page" := ⟨by k_is, by k_is, by k_is, by k_is⟩
theorem at_Memory_pages : AttrOk w 248 "pages" := ⟨_, by k_is, by k_is, by k_is, by k_is⟩
theorem st_Memory_pages : StoreOk w 248 "pages" := ⟨by k_is, by k_is, by k_is, by k_is⟩
theorem at_Memory_data : AttrOk w 248 "data" := ⟨_, by k_is, by k_is, by k_is, by k_is⟩
theorem st_Memory_data : StoreOk w 248 "data" := ⟨by k_is, by k_is, by k_is, by k_is⟩
theorem at_Table_kind : AttrOk w 339 "kind" := ⟨_, by k_is, by k_is, by k_is, by k_is⟩
theorem st_Table_kind : StoreOk w 339 "kind" := ⟨by k_is, by k_is, by k_is, by k_is⟩
theorem at_Table_most : AttrOk w 339 "most" := ⟨_, by k_is, by k_is, by k_is, by k_is⟩
theorem st_Table_most : StoreOk w 339 "most" := ⟨by k_is, by k_is, by k_is, by k_is⟩
theorem at_Table_elements : AttrOk w 339 "elements" := ⟨_, by k_is, by k_is, by k_is, by k_is⟩
theorem st_Table_elements : StoreOk w 339 "elements" := ⟨by k_is, by k_is, by k_is, by k_is⟩
theorem at_Table_items : AttrOk w 339 "items" := ⟨_, by k_is, by k_is, by k_is, by k_is⟩
theorem st_Table_items : StoreOk w 339 "items" := ⟨by k_is, by k_is, by k_is, by k_is⟩
theorem at_Cell_kind : AttrOk w 388 "kind" := ⟨_, by k_is, by k_is, by k_is, by k_is⟩
theorem st_Cell_kind : StoreOk w 388 "kind" := ⟨by k_is, by k_is, by k_is, by k_is⟩
theorem at_Cell_mutable : AttrOk w 388 "mutable" := ⟨_, by k_is, by k_is, by k_is, by k_is⟩
theorem st_Cell_mutable : StoreOk w 388 "mutable" := ⟨by k_is, by k_is, by k_is, by k_is⟩
theorem at_Cell_value : AttrOk w 388 "value" := ⟨_, by k_is, by k_is, by k_is, by k_is⟩
theorem st_Cell_value : StoreOk w 388 "value" := ⟨by k_is, by k_is, by k_is, by k_is⟩
theorem at_HostFunc_kind : AttrOk w 423 "kind" := ⟨_, by k_is, by k_is, by k_is, by k_is⟩
theorem st_HostFunc_kind : StoreOk w 423 "kind" := ⟨by k_is, by k_is, by k_is, by k_is⟩
theorem st_HostFunc_action : StoreOk w 423 "action" := ⟨by k_is, by k_is, by k_is, by k_is⟩
theorem at_Store_sizes : AttrOk w 555 "sizes" := ⟨_, by k_is, by k_is, by k_is, by k_is⟩
theorem st_Store_sizes : StoreOk w 555 "sizes" := ⟨by k_is, by k_is, by k_is, by k_is⟩
theorem at_Store_funcs : AttrOk w 555 "funcs" := ⟨_, by k_is, by k_is, by k_is, by k_is⟩
theorem st_Store_funcs : StoreOk w 555 "funcs" := ⟨by k_is, by k_is, by k_is, by k_is⟩
theorem at_Store_tables : AttrOk w 555 "tables" := ⟨_, by k_is, by k_is, by k_is, by k_is⟩
theorem st_Store_tables : StoreOk w 555 "tables" := ⟨by k_is, by k_is, by k_is, by k_is⟩
theorem at_Store_memories : AttrOk w 555 "memories" := ⟨_, by k_is, by k_is, by k_is, by k_is⟩
theorem st_Store_memories : StoreOk w 555 "memories" := ⟨by k_is, by k_is, by k_is, by k_is⟩
theorem at_Store_globals : AttrOk w 555 "globals" := ⟨_, by k_is, by k_is, by k_is, by k_is⟩
theorem st_Store_globals : StoreOk w 555 "globals" := ⟨by k_is, by k_is, by k_is, by k_is⟩
theorem va_HostFunc_action : ValOk w 423 "action" := ⟨by k_is, by k_is, by k_is⟩
theorem mk_Sizes : makesIn (kk.heap_1 w.params) 84 = true ∧ findIn (kk.heap_1 w.params) (.ref 84) "__init__" = some (some (.ref 81)) ∧ isFn (kk.heap_1 w.params) (.ref 81) = true := ⟨by k_is, by k_is, by k_is⟩
theorem mk_Memory : makesIn (kk.heap_1 w.params) 248 = true ∧ findIn (kk.heap_1 w.params) (.ref 248) "__init__" = some (some (.ref 161)) ∧ isFn (kk.heap_1 w.params) (.ref 161) = true := ⟨by k_is, by k_is, by k_is⟩
theorem me_Memory_size : MethOk w 248 "size" 168 := ⟨by k_is, by k_is, by k_is⟩
theorem km_Memory_size : keepIn (kk.heap_1 w.params) (.ref 168) = true := by k_is
theorem me_Memory_kind : MethOk w 248 "kind" 175 := ⟨by k_is, by k_is, by k_is⟩
theorem km_Memory_kind : keepIn (kk.heap_1 w.params) (.ref 175) = true := by k_is
theorem me_Memory_grow : MethOk w 248 "grow" 182 := ⟨by k_is, by k_is, by k_is⟩
theorem km_Memory_grow : keepIn (kk.heap_1 w.params) (.ref 182) = true := by k_is
theorem me_Memory_plain : MethOk w 248 "plain" 245 := ⟨by k_is, by k_is, by k_is⟩
theorem km_Memory_plain : keepIn (kk.heap_1 w.params) (.ref 245) = true := by k_is
theorem mk_Table : makesIn (kk.heap_1 w.params) 339 = true ∧ findIn (kk.heap_1 w.params) (.ref 339) "__init__" = some (some (.ref 266)) ∧ isFn (kk.heap_1 w.params) (.ref 266) = true := ⟨by k_is, by k_is, by k_is⟩
theorem me_Table_table_kind : MethOk w 339 "table_kind" 280 := ⟨by k_is, by k_is, by k_is⟩
theorem km_Table_table_kind : keepIn (kk.heap_1 w.params) (.ref 280) = true := by k_is
theorem me_Table_grow : MethOk w 339 "grow" 308 := ⟨by k_is, by k_is, by k_is⟩
theorem km_Table_grow : keepIn (kk.heap_1 w.params) (.ref 308) = true := by k_is
theorem me_Table_plain : MethOk w 339 "plain" 336 := ⟨by k_is, by k_is, by k_is⟩
theorem km_Table_plain : keepIn (kk.heap_1 w.params) (.ref 336) = true := by k_is
theorem mk_Cell : makesIn (kk.heap_1 w.params) 388 = true ∧ findIn (kk.heap_1 w.params) (.ref 388) "__init__" = some (some (.ref 357)) ∧ isFn (kk.heap_1 w.params) (.ref 357) = true := ⟨by k_is, by k_is, by k_is⟩
theorem me_Cell_global_kind : MethOk w 388 "global_kind" 364 := ⟨by k_is, by k_is, by k_is⟩
theorem km_Cell_global_kind : keepIn (kk.heap_1 w.params) (.ref 364) = true := by k_is
theorem me_Cell_get : MethOk w 388 "get" 371 := ⟨by k_is, by k_is, by k_is⟩
theorem km_Cell_get : keepIn (kk.heap_1 w.params) (.ref 371) = true := by k_is
theorem me_Cell_put : MethOk w 388 "put" 378 := ⟨by k_is, by k_is, by k_is⟩
theorem km_Cell_put : keepIn (kk.heap_1 w.params) (.ref 378) = true := by k_is
theorem me_Cell_plain : MethOk w 388 "plain" 385 := ⟨by k_is, by k_is, by k_is⟩
theorem km_Cell_plain : keepIn (kk.heap_1 w.params) (.ref 385) = true := by k_is
theorem mk_HostFunc : makesIn (kk.heap_1 w.params) 423 = true ∧ findIn (kk.heap_1 w.params) (.ref 423) "__init__" = some (some (.ref 406)) ∧ isFn (kk.heap_1 w.params) (.ref 406) = true := ⟨by k_is, by k_is, by k_is⟩
theorem me_HostFunc_run : MethOk w 423 "run" 420 := ⟨by k_is, by k_is, by k_is⟩
theorem km_HostFunc_run : keepIn (kk.heap_1 w.params) (.ref 420) = true := by k_is
theorem mk_Store : makesIn (kk.heap_1 w.params) 555 = true ∧ findIn (kk.heap_1 w.params) (.ref 555) "__init__" = some (some (.ref 442)) ∧ isFn (kk.heap_1 w.params) (.ref 442) = true := ⟨by k_is, by k_is, by k_is⟩
theorem me_Store_things : MethOk w 555 "things" 449 := ⟨by k_is, by k_is, by k_is⟩
theorem km_Store_things : keepIn (kk.heap_1 w.params) (.ref 449) = true := by k_is
theorem me_Store_thing : MethOk w 555 "thing" 456 := ⟨by k_is, by k_is, by k_is⟩
theorem km_Store_thing : keepIn (kk.heap_1 w.params) (.ref 456) = true := by k_is
theorem me_Store_added : MethOk w 555 "added" 463 := ⟨by k_is, by k_is, by k_is⟩
theorem km_Store_added : keepIn (kk.heap_1 w.params) (.ref 463) = true := by k_is
theorem me_Store_add_func : MethOk w 555 "add_func" 470 := ⟨by k_is, by k_is, by k_is⟩
theorem km_Store_add_func : keepIn (kk.heap_1 w.params) (.ref 470) = true := by k_is
theorem me_Store_add_table : MethOk w 555 "add_table" 477 := ⟨by k_is, by k_is, by k_is⟩
theorem km_Store_add_table : keepIn (kk.heap_1 w.params) (.ref 477) = true := by k_is
theorem me_Store_add_memory : MethOk w 555 "add_memory" 484 := ⟨by k_is, by k_is, by k_is⟩
theorem km_Store_add_memory : keepIn (kk.heap_1 w.params) (.ref 484) = true := by k_is
theorem me_Store_add_global : MethOk w 555 "add_global" 491 := ⟨by k_is, by k_is, by k_is⟩
theorem km_Store_add_global : keepIn (kk.heap_1 w.params) (.ref 491) = true := by k_is
theorem me_Store_make_table : MethOk w 555 "make_table" 498 := ⟨by k_is, by k_is, by k_is⟩
theorem km_Store_make_table : keepIn (kk.heap_1 w.params) (.ref 498) = true := by k_is
theorem me_Store_make_memory : MethOk w 555 "make_memory" 505 := ⟨by k_is, by k_is, by k_is⟩
theorem km_Store_make_memory : keepIn (kk.heap_1 w.params) (.ref 505) = true := by k_is
theorem me_Store_make_global : MethOk w 555 "make_global" 512 := ⟨by k_is, by k_is, by k_is⟩
theorem km_Store_make_global : keepIn (kk.heap_1 w.params) (.ref 512) = true := by k_is
theorem me_Store_make_host : MethOk w 555 "make_host" 519 := ⟨by k_is, by k_is, by k_is⟩
theorem km_Store_make_host : keepIn (kk.heap_1 w.params) (.ref 519) = true := by k_is
theorem me_Store_func_kind : MethOk w 555 "func_kind" 526 := ⟨by k_is, by k_is, by k_is⟩
theorem km_Store_func_kind : keepIn (kk.heap_1 w.params) (.ref 526) = true := by k_is
theorem me_Store_about : MethOk w 555 "about" 533 := ⟨by k_is, by k_is, by k_is⟩
theorem km_Store_about : keepIn (kk.heap_1 w.params) (.ref 533) = true := by k_is
theorem me_Store_want_values : MethOk w 555 "want_values" 540 := ⟨by k_is, by k_is, by k_is⟩
theorem km_Store_want_values : keepIn (kk.heap_1 w.params) (.ref 540) = true := by k_is
theorem me_Store_marks : MethOk w 555 "marks" 547 := ⟨by k_is, by k_is, by k_is⟩
theorem km_Store_marks : keepIn (kk.heap_1 w.params) (.ref 547) = true := by k_is
theorem me_Store_plain : MethOk w 555 "plain" 552 := ⟨by k_is, by k_is, by k_is⟩
theorem km_Store_plain : keepIn (kk.heap_1 w.params) (.ref 552) = true := by k_is
end
end Mine
namespace Mine
theorem boot_ba : bootBuiltins "bytearray" = some (.type "bytearray") := by first | kernel_rfl | decide +kernel
theorem bi_bytearray {w : World} : nsIn (kk.heap_1 w.params) mainGlobals "bytearray" = some Option.none ∧ bootBuiltins "bytearray" = some (.type "bytearray") := ⟨by k_is, boot_ba⟩
end Mine
end
section
namespace Mine
section
variable {w : World} {c : Cx} {T : TM} {s : Shared} {m : Lm} {σ : CH} {X : CH → Prop} {sc : Scope}
theorem EV.gi2 {Q : CV → Lm → CH → Prop} {x : Str} {pos : Pos} {i : Int} (h : c.sc = sc) (k : sc.names.lookup x = some .globalImplicit) (e : ∃ t, nsIn (kk.heap_1 w.params) mainGlobals x = some (some (.int i t))) (q : Q (.int i) m σ) (hd : (x == dbg) = false) : EV w c (.Name x pos) m σ Q X :=
  by obtain ⟨_, e⟩ := e; exact EV.globI (by refine rwP h ?_; exact k) e q hd
theorem XV.expr2 {Q : Fl → Lm → CH → Prop} {e : Expr} {p : Pos} (hc : c.sc = sc) (hk : sc.kind = .function) (h : EV w c e m σ (fun _ m' σ' => Q .next m' σ') X) (hs : swapsWith e none p.line c.env = Pure.pure false) : XV w c (.Expr e p) m σ Q X :=
  XV.expr h (by unfold interactive; refine rwP (show c.env.scope.kind = .function by show c.sc.kind = _; refine rwP hc ?_; refine rwP hk ?_; rfl) ?_; rfl) hs
end
section
variable {w : World} {c : Cx} {m : Lm} {σ : CH} {X : CH → Prop} {Q : Bool → Lm → CH → Prop}
theorem TV.call {f : Expr} {args : List Expr} {kw : List Keyword} {p : Pos} (h : EV w c (.Call f args kw p) m σ (fun cv m' σ' => ∃ b, cv = .bool b ∧ Q b m' σ') X) : TV w c (.Call f args kw p) m σ Q X :=
  TV.plain h (by generalize eval _ _ = t; rfl)
theorem TVs.nilA (q : Q true m σ) : TVs w c .And [] m σ Q X := TVs.nil q
theorem TVs.nilO (q : Q false m σ) : TVs w c .Or [] m σ Q X := TVs.nil q
theorem TV.notM {e : Expr} {p : Pos} (h : TV w c e m σ (fun b m' σ' => match b with | true => Q false m' σ' | false => Q true m' σ') X) : TV w c (.UnaryOp .Not e p) m σ Q X :=
  TV.not (by intro T s W; exact (h T s W).mono (fun b m' σ' q => by cases b <;> exact q) fun _ h => h)
theorem TV.name {x : Str} {p : Pos} (h : EV w c (.Name x p) m σ (fun cv m' σ' => ∃ b, cv = .bool b ∧ Q b m' σ') X) : TV w c (.Name x p) m σ Q X :=
  TV.plain h (by generalize eval _ _ = t; rfl)
end
noncomputable def isUnb : CV → Bool
  | .unb => true
  | _ => false
theorem EV.nm {w : World} {c : Cx} {m : Lm} {σ : CH} {X : CH → Prop} {Q : CV → Lm → CH → Prop} {x : Str} {pos : Pos} {cv : CV} (h : m.lookup x = some cv) (hu : isUnb cv = false) (q : Q cv m σ) (hd : (x == dbg) = false) : EV w c (.Name x pos) m σ Q X :=
  EV.name h q (fun e => by rw [e] at hu; injection hu) hd
inductive VV where
  | none | int (i : Int) | bool (b : Bool) | str0 | lst0
noncomputable def VV.c : VV → CV
  | .none => .none
  | .int i => .int i
  | .bool b => .bool b
  | .str0 => .str "0"
  | .lst0 => .fl [.int 0]
theorem VV.notUnb (v : VV) : isUnb v.c = false := by cases v <;> rfl
noncomputable def refK (k : Int) : Bool := k == -16 || k == -17
noncomputable def fitV (k : Int) : VV → Bool
  | .none => refK k
  | .int i => decide (0 ≤ i) && (refK k || ((k == -1 || k == -2) && decide (i < 2 ^ (if k = -1 then 32 else 64))))
  | _ => false
end Mine
end
section
namespace Mine
theorem VV.notTop (v : VV) : ∀ u, v.c ≠ .top u := by cases v <;> exact fun _ h => nomatch h
theorem optC_notTop (m : Option Int) : ∀ u, optC m ≠ .top u := by cases m <;> exact fun _ h => nomatch h
theorem optC_notUnb (m : Option Int) : isUnb (optC m) = false := by cases m <;> rfl
noncomputable abbrev szO (pg : Int) : CObj := .inst 84 [("page", .int pg), ("pages", .int 5), ("elements", .int 6), ("depth", .int 200), ("fuel", .none)]
noncomputable abbrev celO (k mu : Int) (v : CV) : CObj := .inst 388 [("kind", .int k), ("mutable", .int mu), ("value", v)]
noncomputable abbrev tabO (k : Int) (mo : Option Int) (e : Int) (j : Nat) : CObj := .inst 339 [("kind", .int k), ("most", optC mo), ("elements", .int e), ("items", .ref j)]
noncomputable abbrev memO (mo : Option Int) (pg : Int) (j : Nat) : CObj := .inst 248 [("most", optC mo), ("page", .int pg), ("pages", .int 5), ("data", .ref j)]
noncomputable abbrev hosO (k act : CV) : CObj := .inst 423 [("kind", k), ("action", act)]
noncomputable abbrev stoO (s f t m g : Nat) : CObj := .inst 555 [("sizes", .ref s), ("funcs", .ref f), ("tables", .ref t), ("memories", .ref m), ("globals", .ref g)]
theorem lstQ_none {l : List CV} {m : Lm} {σ : CH} {Q : CV → Lm → CH → Prop} (q : Q (.fl l) m σ) : lstQ none l m σ Q := q
theorem lstQ_some {n : Nat} {l : List CV} {m : Lm} {σ : CH} {Q : CV → Lm → CH → Prop} (h : σ n = none) (q : Q (.ref n) m (σ.set n (.list l))) : lstQ (some n) l m σ Q := ⟨h, q⟩
theorem cmpIs {σ : CH} {a : CV} {Q : Bool → Prop} (b : Bool) (h : isNoneQ a = some b) (q : Q b) : cmpQ σ .Is a .none Q := .is b h q
theorem cmpIsNot {σ : CH} {a : CV} {Q : Bool → Prop} (b : Bool) (h : isNoneQ a = some b) (q : Q (!b)) : cmpQ σ .IsNot a .none Q := .isNot b h q
theorem binMul {no : Option Nat} {n : Int} {m : Lm} {σ : CH} {Q : CV → Lm → CH → Prop} (a : CV) (h0 : 0 ≤ n) (h1 : n ≤ 1000) (q : lstQ no (List.replicate n.toNat a) m σ Q) : binQ no .Mult (.fl [a]) (.int n) m σ Q :=
  .mulL (List.cons_ne_nil _ _) h0 h1 (Nat.le_of_ble_eq_true rfl) (by refine rwP (show (List.replicate n.toNat [a]).flatten = List.replicate n.toNat a by generalize n.toNat = k; induction k with | zero => rfl | succ k ih => refine rwP List.replicate_succ ?_; refine rwP List.flatten_cons ?_; refine rwP ih ?_; rfl) ?_; exact q)
theorem MethV.lapp {w : World} {c : Cx} {m : Lm} {σ : CH} {n : Nat} {l : List CV} {Q : CV → List CV → Prop} (h : σ n = some (.list l)) (q : Q (.top (.builtin "list.append")) [.ref n]) : MethV w c (.ref n) "append" m σ Q := MethV.list h F.slot_list_append (by kernel_rfl) q
theorem MethV.lext {w : World} {c : Cx} {m : Lm} {σ : CH} {n : Nat} {l : List CV} {Q : CV → List CV → Prop} (h : σ n = some (.list l)) (q : Q (.top (.builtin "list.extend")) [.ref n]) : MethV w c (.ref n) "extend" m σ Q := MethV.list h F.slot_list_extend (by kernel_rfl) q
theorem MethV.lclr {w : World} {c : Cx} {m : Lm} {σ : CH} {n : Nat} {l : List CV} {Q : CV → List CV → Prop} (h : σ n = some (.list l)) (q : Q (.top (.builtin "list.clear")) [.ref n]) : MethV w c (.ref n) "clear" m σ Q := MethV.list h F.slot_list_clear (by kernel_rfl) q
theorem itemTup {l : List CV} {k : Int} {cv : CV} {σ : CH} {Q : CV → Prop} (h0 : 0 ≤ k) (h1 : k < 2 ^ 63) (e : l[k.toNat]? = some cv) (q : Q cv) : itemQ (.tup l) (.int k) σ Q := .tup h0 h1 e q
theorem itemFl {l : List CV} {k : Int} {cv : CV} {σ : CH} {Q : CV → Prop} (h0 : 0 ≤ k) (h1 : k < 2 ^ 63) (e : l[k.toNat]? = some cv) (q : Q cv) : itemQ (.fl l) (.int k) σ Q := .fl h0 h1 e q
theorem itemNam {n : Nat} {l : List CV} {k : Int} {cv : CV} {σ : CH} {Q : CV → Prop} (h : σ n = some (.list l)) (h0 : 0 ≤ k) (h1 : k < 2 ^ 63) (e : l[k.toNat]? = some cv) (q : Q cv) : itemQ (.ref n) (.int k) σ Q := .nam h0 h1 h e q
theorem itemDic {n : Nat} {es : List (Str × CV)} {x : Str} {cv : CV} {σ : CH} {Q : CV → Prop} (h : σ n = some (.dict es)) (e : es.lookup x = some cv) (q : Q cv) : itemQ (.ref n) (.str x) σ Q := .dic h e q
theorem cmpIsNotT {σ : CH} {a : CV} {Q : Bool → Prop} (h : isNoneQ a = some false) (q : Q true) : cmpQ σ .IsNot a .none Q := cmpIsNot false h q
theorem cmpIsNotF {σ : CH} {a : CV} {Q : Bool → Prop} (h : isNoneQ a = some true) (q : Q false) : cmpQ σ .IsNot a .none Q := cmpIsNot true h q
theorem XV.raise2 {w : World} {c : Cx} {m : Lm} {σ : CH} {X : CH → Prop} {sc : Scope} {t : Str} {np p1 cpos pos : Pos} {k0 : Nat} {Q : Fl → Lm → CH → Prop} (hc : c.sc = sc) (hk : sc.names.lookup ("Misused" : Str) = some NameKind.globalImplicit) (hX : X σ) :
    XV w c (.Raise (some (.Call (.Name "Misused" np) [.Constant (.str t) k0 p1] [] cpos)) none pos) m σ Q X := XV.raise g_Misused (by refine rwP hc ?_; exact hk) (by decide) hX
noncomputable def Free (σ : CH) : Prop := ∃ B, ∀ k, B ≤ k → σ k = none
theorem Free.pick {σ : CH} (h : Free σ) : ∃ n, 100 ≤ n ∧ σ n = none := by
  obtain ⟨B, h⟩ := h
  exact ⟨max 100 B, by lia, h _ (by lia)⟩
theorem Free.set {σ : CH} (h : Free σ) (n : Nat) (o : CObj) : Free (σ.set n o) := by
  obtain ⟨B, h⟩ := h
  exact ⟨max B (n + 1), fun k hk => by refine rwP (CH.set_ne _ _ (by lia)) ?_; exact h k (by lia)⟩
theorem Free.but {σ σ' : CH} {n : Nat} (h : Free σ) (e : ∀ k, k ≠ n → σ' k = σ k) : Free σ' := by
  obtain ⟨B, h⟩ := h
  exact ⟨max B (n + 1), fun k hk => by refine rwP (e k (by lia)) ?_; exact h k (by lia)⟩
noncomputable def Up (σ σ' : CH) : Prop := (∀ k, (k < 100 ∨ σ k ≠ none) → σ' k = σ k) ∧ Free σ'
theorem Up.refl {σ : CH} (h : Free σ) : Up σ σ := ⟨fun _ _ => rfl, h⟩
theorem Up.free {σ σ' : CH} (h : Up σ σ') : Free σ' := h.2
theorem Up.trans {σ σ' σ'' : CH} (h : Up σ σ') (h' : Up σ' σ'') : Up σ σ'' :=
  ⟨fun k hk => by
    have e := h.1 k hk
    refine rwB e ?_
    exact h'.1 k (hk.imp id fun q => by refine rwP e ?_; exact q), h'.2⟩
theorem Up.at {σ σ' : CH} (h : Up σ σ') {n : Nat} {o : CObj} (e : σ n = some o) : σ' n = some o := by
  refine rwP (h.1 n (.inr (by refine rwP e ?_; exact Option.some_ne_none _))) ?_; refine rwP e ?_; rfl
theorem Up.low {σ σ' : CH} (h : Up σ σ') {n : Nat} (hn : n < 100) : σ' n = σ n := h.1 n (.inl hn)
theorem Up.new {σ : CH} (h : Free σ) {n : Nat} (hn : 100 ≤ n) (e : σ n = none) (o : CObj) : Up σ (σ.set n o) :=
  ⟨fun k hk => CH.set_ne _ _ (by rintro rfl; rcases hk with hk | hk; lia; exact hk e), h.set n o⟩
theorem Up.tmp {σ σ' σ'' : CH} (h : Up σ σ') {n : Nat} (hn : 100 ≤ n) (e : σ n = none) (k : ∀ k, k ≠ n → σ'' k = σ' k) : Up σ σ'' :=
  ⟨fun j hj => (k j (by rintro rfl; rcases hj with hj | hj; lia; exact hj e)).trans (h.1 j hj), h.2.but k⟩
noncomputable def UpH (σ σ' : CH) : Prop := (∀ k, k ≠ 1 → (k < 100 ∨ σ k ≠ none) → σ' k = σ k) ∧ Free σ'
noncomputable def HandAt (σ : CH) (N : Nat) : Prop := ∃ a : Int, σ 1 = some (.dict [("at", .int a)]) ∧ 0 ≤ a ∧ a ≤ N
theorem Up.h {σ σ' : CH} (h : Up σ σ') : UpH σ σ' := ⟨fun k _ hk => h.1 k hk, h.2⟩
theorem UpH.free {σ σ' : CH} (h : UpH σ σ') : Free σ' := h.2
theorem UpH.trans {σ σ' σ'' : CH} (h : UpH σ σ') (h' : UpH σ' σ'') : UpH σ σ'' :=
  ⟨fun k h1 hk => by
    have e := h.1 k h1 hk
    refine rwB e ?_
    exact h'.1 k h1 (hk.imp id fun q => by refine rwP e ?_; exact q), h'.2⟩
theorem UpH.low {σ σ' : CH} (h : UpH σ σ') {n : Nat} (h1 : n ≠ 1) (hn : n < 100) : σ' n = σ n := h.1 n h1 (.inl hn)
theorem UpH.hand {σ : CH} (h : Free σ) (o : CObj) : UpH σ (σ.set 1 o) := ⟨fun k h1 _ => CH.set_ne _ _ h1, h.set 1 o⟩
theorem UpH.tmp {σ σ' σ'' : CH} (h : UpH σ σ') {n : Nat} (hn : 100 ≤ n) (e : σ n = none) (k : ∀ k, k ≠ n → σ'' k = σ' k) : UpH σ σ'' :=
  ⟨fun j h1 hj => (k j (by rintro rfl; rcases hj with hj | hj; lia; exact hj e)).trans (h.1 j h1 hj), h.2.but k⟩
theorem HandAt.up {σ σ' : CH} {N : Nat} (h : HandAt σ N) (u : Up σ σ') : HandAt σ' N := by
  obtain ⟨a, e, r⟩ := h; exact ⟨a, u.at e, r⟩
theorem HandAt.mono {σ : CH} {N M : Nat} (h : HandAt σ N) (hm : N ≤ M) : HandAt σ M := by
  obtain ⟨a, e, h1, h2⟩ := h; exact ⟨a, e, h1, by lia⟩
theorem HandAt.but {σ σ' : CH} {N n : Nat} (h : HandAt σ N) (hn : 100 ≤ n) (k : ∀ k, k ≠ n → σ' k = σ k) : HandAt σ' N := by
  obtain ⟨a, e, r⟩ := h; exact ⟨a, (k 1 (by lia)).trans e, r⟩
inductive F2 (E : CV → CV → Prop) : List CV → List CV → Prop
  | nil : F2 E [] []
  | cons {x y l l'} : E x y → F2 E l l' → F2 E (x :: l) (y :: l')
noncomputable abbrev noX : CH → Prop := fun _ => False
theorem CW.map {α : Type} {w : World} {P : Cx → Prop} {tg elt : Expr} {n : Nat} {C : CH → Prop} {Q : List CV → CH → Prop} (f g : α → CV) (S : CH → Prop)
    (hC : ∀ σ, S σ → C σ) (hS : ∀ σ σ', S σ → (∀ k, k ≠ n → σ' k = σ k) → S σ') :
    ∀ (xs : List α) (acc : List CV) (m : Lm) (σ : CH),
    (∀ x ∈ xs, ∀ c, P c → ∀ m σ o, S σ → σ n = some o → ∀ K : CV → Lm → CH → Prop, (∀ m' σ', S σ' → σ' n = some o → K (g x) m' σ') → AV w c tg (f x) m σ (fun m1 σ1 => EV w c elt m1 σ1 K noX) noX) →
    S σ → (∀ σ', S σ' → Q (acc ++ xs.map g) σ') → CW w P tg elt n C Q (xs.map f) acc m σ
  | [], acc, m, σ, _, hs, fin => ⟨hC _ hs, fun σ' k => by simpa using fin σ' (hS _ _ hs k)⟩
  | x :: l, acc, m, σ, step, hs, fin => by
    refine ⟨hC _ hs, fun c hc o' => step x (.head _) c hc m (σ.set n o') o' (hS _ _ hs fun k hk => CH.set_ne _ _ hk) (CH.set_self ..) _ fun m' σ' hs' ho => ⟨ho, ?_⟩⟩
    exact CW.map f g S hC hS l (acc ++ [g x]) m' σ' (fun y hy => step y (.tail _ hy)) hs' fun σ'' s'' => by
      rw [List.append_assoc]; exact fin σ'' s''
theorem FV.run {w : World} {c : Cx} {tg : Expr} {body : List Stmt} {n : Nat} {C : CH → Prop} {Q : Fl → Lm → CH → Prop} {X : CH → Prop} (M : Lm → Prop) (S : Nat → CH → Prop)
    (hC : ∀ i σ, S i σ → C σ) (hS : ∀ i σ σ', S i σ → (∀ k, k ≠ n → σ' k = σ k) → S i σ') :
    ∀ (l : List CV) (m : Lm) (σ : CH) (i : Nat),
    (∀ j x, l[j]? = some x → ∀ m σ o, M m → S (i + j) σ → σ n = some o → ∀ K : Fl → Lm → CH → Prop, (∀ m' σ', M m' → S (i + j + 1) σ' → σ' n = some o → K .next m' σ') → (∀ cv m' σ', Q (.ret cv) m' σ' → K (.ret cv) m' σ') → AV w c tg x m σ (fun m1 σ1 => XVs w c body m1 σ1 K X) X) →
    M m → S i σ → (∀ m' σ', M m' → S (i + l.length) σ' → Q .next m' σ') → FV w c tg body n C Q X l m σ
  | [], m, σ, i, _, hm, hs, fin => ⟨hC _ _ hs, fun σ' k => fin m σ' hm (hS _ _ _ hs k)⟩
  | x :: l, m, σ, i, step, hm, hs, fin => by
    refine ⟨hC _ _ hs, fun o' => step 0 x rfl m (σ.set n o') o' hm (hS _ _ _ hs fun k hk => CH.set_ne _ _ hk) (CH.set_self ..) _ (fun m' σ' hm' hs' ho => ⟨ho, ?_⟩) fun cv m' σ' q => q⟩
    refine FV.run M S hC hS l m' σ' (i + 1) (fun j y hj m σ o h1 h2 h3 K k1 k2 => step (j + 1) y (by simpa using hj) m σ o h1 (by refine rwP (show i + (j + 1) = i + 1 + j by lia) ?_; exact h2) h3 K (fun m' σ' a b c => k1 m' σ' a (by refine rwP (show i + 1 + j + 1 = i + (j + 1) + 1 by lia) ?_; exact b) c) k2) hm' (by simpa using hs') fun m'' σ'' a b => fin m'' σ'' a (by refine rwP List.length_cons ?_; refine rwP (show i + (l.length + 1) = i + 1 + l.length by lia) ?_; exact b)
end Mine
end
section
namespace Mine
theorem CW.mapM {α : Type} {w : World} {P : Cx → Prop} {tg elt : Expr} {n : Nat} {C : CH → Prop} {Q : List CV → CH → Prop} (f g : α → CV) (M : Lm → Prop) (S : CH → Prop)
    (hC : ∀ σ, S σ → C σ) (hS : ∀ σ σ', S σ → (∀ k, k ≠ n → σ' k = σ k) → S σ') :
    ∀ (xs : List α) (acc : List CV) (m : Lm) (σ : CH),
    (∀ x ∈ xs, ∀ c, P c → ∀ m σ o, M m → S σ → σ n = some o → ∀ K : CV → Lm → CH → Prop, (∀ m' σ', M m' → S σ' → σ' n = some o → K (g x) m' σ') → AV w c tg (f x) m σ (fun m1 σ1 => EV w c elt m1 σ1 K noX) noX) →
    M m → S σ → (∀ σ', S σ' → Q (acc ++ xs.map g) σ') → CW w P tg elt n C Q (xs.map f) acc m σ
  | [], acc, m, σ, _, _, hs, fin => ⟨hC _ hs, fun σ' k => by simpa using fin σ' (hS _ _ hs k)⟩
  | x :: l, acc, m, σ, step, hm, hs, fin => by
    refine ⟨hC _ hs, fun c hc o' => step x (.head _) c hc m (σ.set n o') o' hm (hS _ _ hs fun k hk => CH.set_ne _ _ hk) (CH.set_self ..) _ fun m' σ' hm' hs' ho => ⟨ho, ?_⟩⟩
    exact CW.mapM f g M S hC hS l (acc ++ [g x]) m' σ' (fun y hy => step y (.tail _ hy)) hm' hs' fun σ'' s'' => by
      rw [List.append_assoc]; exact fin σ'' s''
noncomputable def Iter (w : World) (c : Cx) (cv : CV) (m : Lm) (σ : CH) (tg : Expr) (l : List CV) : Prop :=
  ∀ n, σ n = none → ∃ C o, IterTo w c cv m σ n (σ.set n o) ∧ Src w tg n C l o ∧ Itr w n o ∧ ∀ σ', Up σ σ' → C σ'
section
variable {w : World} {c : Cx} {m : Lm} {σ : CH} {X : CH → Prop} {tg : Expr}
theorem Iter.list {j : Nat} {l : List CV} (h : σ j = some (.list l)) (ht : ∀ v u, letOwnedTupleGo tg v u = pure ()) : Iter w c (.ref j) m σ tg l := fun n hn =>
  ⟨_, _, iter_list h hn, src_nit ht l l 0 rfl, itr_nit, fun σ' u => u.at h⟩
theorem Iter.fl {l : List CV} (ht : ∀ v u, letOwnedTupleGo tg v u = pure ()) : Iter w c (.fl l) m σ tg l := fun n hn =>
  ⟨_, _, iter_fl hn, src_lit ht l l 0 rfl, itr_lit, fun _ _ => trivial⟩
theorem Iter.rng {a b : Int} (ha : -1000000 ≤ a) (ha' : a ≤ 1000000) (hb : -1000000 ≤ b) (hb' : b ≤ 1000000) (ht : ∀ v u, letOwnedTupleGo tg v u = pure ()) : Iter w c (.rng a b) m σ tg (upL a (b - a).toNat) := fun n hn =>
  ⟨_, _, iter_rng (by lia) (by lia) (by lia) (by lia) hn, src_rit ht _ _, itr_rit, fun _ _ => trivial⟩
theorem EV.compM {α : Type} {elt iter : Expr} {scope : Scope} {pos : Pos} {caps : List CV} {Q : CV → Lm → CH → Prop} (f g : α → CV) (xs : List α) (M : Lm → Prop) (K : CompOk c scope m caps) (hM : M ((frees scope.names).reverse.zip caps))
    (h : EV w c iter m σ (fun cv m1 σ1 => Free σ1 ∧ xs.length ≤ 1000000 ∧ Iter w c cv m1 σ1 tg (xs.map f) ∧
      (∀ x ∈ xs, ∀ c2, c2.sc = relabel scope c.env → c2.lv = c.lv → ∀ m σ2, M m → Up σ1 σ2 → ∀ K : CV → Lm → CH → Prop, (∀ m' σ', M m' → Up σ2 σ' → K (g x) m' σ') → AV w c2 tg (f x) m σ2 (fun m3 σ3 => EV w c2 elt m3 σ3 K noX) noX) ∧
      ∀ σ', Up σ1 σ' → Q (.fl (xs.map g)) m1 σ') X)
    (hs : ∀ x, foldedSetIterable iter c.env x = Pure.pure x := by intro _; rfl) : EV w c (.ListComp elt [⟨tg, iter, [], 0⟩] scope pos) m σ Q X := by
  refine EV.comp K (fun T s W => (h T s W).mono (fun cv m1 σ1 q => ?_) fun _ h => h) hs
  refine hide fun Ph hPh => ?_
  obtain ⟨hF, hz, hi, hb, q⟩ := q
  obtain ⟨n, hn1, hn2⟩ := hF.pick
  obtain ⟨C, o, i1, i2, i3, i4⟩ := hi n hn2
  refine hPh ?_
  refine ⟨n, _, C, _, o, i1, CH.set_self .., i2, i3, by rw [List.length_map]; exact hz, ?_⟩
  refine CW.mapM f g M (fun σ' => Up σ1 σ') (fun _ u => i4 _ u) (fun _ _ u k => u.tmp hn1 hn2 k) xs [] _ _ (fun x hx c2 hc2 m σ2 o hm hu ho K hK => hb x hx c2 hc2.1 hc2.2 m σ2 hm hu K fun m' σ' hm' hu' => hK m' σ' hm' (hu.trans hu') (hu'.at ho)) hM (Up.new hF hn1 hn2 _) q
end
end Mine
end
section
namespace Mine
noncomputable def Sh (n : Nat) (c : CV) : Prop := okD c = true ∧ PyData.canLay0 (toD c) = true ∧ PyData.depth (toD c) ≤ n
noncomputable def ShL (n : Nat) (l : List CV) : Prop := okDs l = true ∧ PyData.canLayAll0 (toDs l) = true ∧ PyData.depthAll (toDs l) ≤ n
theorem ShL.nil {n : Nat} : ShL n [] := ⟨rfl, rfl, Nat.zero_le _⟩
theorem ShL.cons {n : Nat} {c : CV} {l : List CV} (h : Sh n c) (t : ShL n l) : ShL n (c :: l) := ⟨Bool.and_eq_true_iff.mpr ⟨h.1, t.1⟩, Bool.and_eq_true_iff.mpr ⟨h.2.1, t.2.1⟩, Nat.max_le.mpr ⟨h.2.2, t.2.2⟩⟩
theorem Sh.tup {n : Nat} {l : List CV} (t : ShL n l) : Sh (n + 1) (.tup l) := ⟨t.1, t.2.1, Nat.succ_le_succ t.2.2⟩
theorem Sh.fl {n : Nat} {l : List CV} (t : ShL n l) : Sh (n + 1) (.fl l) := ⟨t.1, t.2.1, Nat.succ_le_succ t.2.2⟩
theorem Sh.ok {n : Nat} {c : CV} (h : Sh n c) (hn : n ≤ 64) : okD c = true ∧ SeqAt.shaped (toD c) = true := ⟨h.1, Bool.and_eq_true_iff.mpr ⟨h.2.1, decide_eq_true (Nat.le_trans h.2.2 hn)⟩⟩
theorem VV.sh (v : VV) (n : Nat) : Sh (n + 1) v.c := by
  cases v with
  | none => exact ⟨rfl, rfl, Nat.zero_le _⟩
  | int i => exact ⟨rfl, rfl, Nat.zero_le _⟩
  | bool i => exact ⟨rfl, rfl, Nat.zero_le _⟩
  | str0 => exact ⟨by decide +kernel, by decide +kernel, Nat.zero_le _⟩
  | lst0 => exact ⟨by decide +kernel, by decide +kernel, Nat.succ_le_succ (Nat.zero_le _)⟩
theorem vals_shaped (vs : List VV) (n : Nat) : ShL (n + 1) (vs.map VV.c) := by
  induction vs with
  | nil => exact .nil
  | cons v vs ih => exact .cons (v.sh n) ih
theorem cmpNeSame {σ : CH} {a b x : CV} {Q : Bool → Prop} (ha : res σ a = x) (hb : res σ b = x) (o : okD x = true) (h : SeqAt.shaped (toD x) = true) (q : Q false) (h1 : ∀ i, a ≠ .int i) (h2 : ∀ i, a ≠ .str i) (h3 : ∀ i, a ≠ .bool i) : cmpQ σ .NotEq a b Q :=
  .neD (ha.trans hb.symm) (ha ▸ o) (ha ▸ h) q
theorem shL (vs : List VV) : okD (.fl (vs.map VV.c)) = true ∧ SeqAt.shaped (toD (.fl (vs.map VV.c))) = true := (Sh.fl (vals_shaped vs 0)).ok (by decide)
theorem shLL (vs : List VV) : okD (.fl [.fl (vs.map VV.c)]) = true ∧ SeqAt.shaped (toD (.fl [.fl (vs.map VV.c)])) = true := (Sh.fl (ShL.cons (Sh.fl (vals_shaped vs 0)) .nil)).ok (by decide)
theorem shTL (vs : List VV) : okD (.tup [.str "told", .fl (vs.map VV.c)]) = true ∧ SeqAt.shaped (toD (.tup [.str "told", .fl (vs.map VV.c)])) = true :=
  (Sh.tup (ShL.cons ⟨rfl, by decide +kernel, Nat.zero_le _⟩ (ShL.cons (Sh.fl (vals_shaped vs 0)) .nil))).ok (by decide)
theorem cmpEqSame {σ : CH} {l : List CV} {x : CV} {Q : Bool → Prop} (ha : res σ (.fl l) = x) (o : okD x = true) (h : SeqAt.shaped (toD x) = true) (q : Q true) : cmpQ σ .Eq (.fl l) (.fl l) Q := .eqD rfl (ha ▸ o) (ha ▸ h) q
theorem res_ref {σ : CH} {n : Nat} {l : List CV} (h : σ n = some (.list l)) : res σ (.ref n) = .fl l := by
  show (match σ n with | some (.list l) => CV.fl l | _ => CV.ref n) = _
  refine rwP h ?_; rfl
theorem res_vals {σ : CH} (vs : List VV) : res σ (.fl (vs.map VV.c)) = .fl (vs.map VV.c) := by
  show CV.fl ((vs.map VV.c).map (res0 σ)) = _
  refine rwP List.map_map ?_; congr 1
  exact List.map_congr_left fun v _ => by cases v <;> rfl
end Mine
end
section
namespace Mine
noncomputable abbrev KE := CV → Lm → CH → Prop
noncomputable abbrev KB := Bool → Lm → CH → Prop
noncomputable abbrev KF' := Fl → Lm → CH → Prop
noncomputable abbrev KL := List CV → Lm → CH → Prop
noncomputable abbrev KA := Lm → CH → Prop
inductive Job where
  | E (e : Expr) (k : KE) | Es (es : List Expr) (k : KL) | T (e : Expr) (k : KB) | Ts (op : BoolOp) (es : List Expr) (k : KB) | B (op : BoolOp) (es : List Expr) (k : KE)
  | X (st : Stmt) (k : KF') | Xs (sts : List Stmt) (k : KF') | A (t : Expr) (cv : CV) (k : KA) | As (ts : List Expr) (cs : List CV) (k : KA)
structure SE (w : World) (c : Cx) (X : CH → Prop) (e : Expr) (k : KE) (m : Lm) (σ : CH) : Prop where
  h : EV w c e m σ k X
structure SX (w : World) (c : Cx) (X : CH → Prop) (st : Stmt) (k : KF') (m : Lm) (σ : CH) : Prop where
  h : XV w c st m σ k X
structure SA (w : World) (c : Cx) (X : CH → Prop) (t : Expr) (cv : CV) (k : KA) (m : Lm) (σ : CH) : Prop where
  h : AV w c t cv m σ k X
structure SC (w : World) (c : Cx) (X : CH → Prop) (f : CV) (l : List CV) (k : KE) (m : Lm) (σ : CH) : Prop where
  h : CallV w c f l m σ k X
structure SM (w : World) (c : Cx) (o : CV) (name : Str) (k : CV → List CV → Prop) (m : Lm) (σ : CH) : Prop where
  h : MethV w c o name m σ k
structure SV (w : World) (c : Cx) (X : CH → Prop) (op : CmpOp) (a b : CV) (k : KB) (m : Lm) (σ : CH) : Prop where
  h : CmpV w c op a b m σ k X
inductive SG (w : World) : CV → Str → KE → Lm → CH → Prop
  | mk {n C es name cv k m σ} (o : σ n = some (.inst C es)) (a : AttrOk w C name) (l : es.lookup name = some cv) (t : ∀ u, cv ≠ .top u) (q : k cv m σ) : SG w (.ref n) name k m σ
inductive SS (w : World) : CV → Str → CV → KA → Lm → CH → Prop
  | mk {n C es name cv k m σ} (o : σ n = some (.inst C es)) (a : StoreOk w C name) (l : (Nat.ble es.length 100 && decide (es.map (·.1)).Nodup) = true) (q : k m (σ.set n (.inst C (storedC es name cv)))) : SS w (.ref n) name cv k m σ
inductive SB (op : Operator) (a b : CV) (k : KE) (m : Lm) (σ : CH) : Prop
  | mk (no : Option Nat) (h : binI no m σ k op a b) : SB op a b k m σ
inductive SL (l : List CV) (k : KE) (m : Lm) (σ : CH) : Prop
  | mk (no : Option Nat) (h : lstQ no l m σ k) : SL l k m σ
structure SP (o i v : CV) (k : CH → Prop) (σ : CH) : Prop where
  h : setQ o i v σ k
noncomputable def starE (e : Expr) : Bool := e.ctorIdx == 22
noncomputable def plainX (e : Expr) : Bool := !(e.ctorIdx == 8 || e.ctorIdx == 9 || e.ctorIdx == 10)
noncomputable def simpT (e : Expr) : Bool := e.ctorIdx == 23 || e.ctorIdx == 21 || e.ctorIdx == 20
noncomputable def sliceE (e : Expr) : Bool := e.ctorIdx == 26
noncomputable def nameE (e : Expr) : Bool := e.ctorIdx == 23
noncomputable def callE : Expr → Bool
  | .Call f .. => nameE f
  | _ => false
noncomputable def dictE (e : Expr) : Bool := e.ctorIdx == 6
noncomputable def ifB (b : Bool) (p q : Prop) : Prop := match b with
  | true => p
  | false => q
theorem ifB_elim {b : Bool} {p q : Prop} (h : ifB b p q) : (b = true ∧ p) ∨ (b = false ∧ q) := match b, h with
  | true, h => .inl ⟨rfl, h⟩
  | false, h => .inr ⟨rfl, h⟩
noncomputable def boolK (cv : CV) (k : KB) (m : Lm) (σ : CH) : Prop := match cv with
  | .bool b => k b m σ
  | _ => False
noncomputable def cmpK (ops : List CmpOp) (bs : List Expr) (one : CmpOp → Expr → Prop) (two : CmpOp → CmpOp → Expr → Expr → Prop) (z : Prop) : Prop := match ops with
  | [] => z
  | op :: ops => (match bs with
    | [] => z
    | b :: bs => (match ops with
      | [] => (match bs with
        | [] => one op b
        | _ :: _ => z)
      | op2 :: ops => (match ops with
        | _ :: _ => z
        | [] => (match bs with
          | [] => z
          | b2 :: bs => (match bs with
            | [] => two op op2 b b2
            | _ :: _ => z)))))
noncomputable def lenK (l : List CV) (p : Prop) : Prop := ifB (Nat.ble l.length 1000) p False
noncomputable abbrev KJ := Job → Lm → CH → Prop
noncomputable def atK (k : KE) (m : Lm) (σ : CH) (cv : CV) : Prop := k cv m σ
noncomputable def atB (k : KB) (m : Lm) (σ : CH) (b : Bool) : Prop := k b m σ
noncomputable def kBl (k : KE) (b : Bool) : Lm → CH → Prop := k (.bool b)
noncomputable def kCall2 (w : World) (c : Cx) (X : CH → Prop) (k : KE) (fv : CV) (l : List CV) (m : Lm) (σ : CH) : Prop := SC w c X fv l k m σ
noncomputable def kCall (w : World) (c : Cx) (X : CH → Prop) (r : KJ) (args : List Expr) (k : KE) (fv : CV) (m : Lm) (σ : CH) : Prop := r (.Es args (kCall2 w c X k fv)) m σ
noncomputable def kM3 (w : World) (c : Cx) (X : CH → Prop) (k : KE) (f : CV) (l0 l : List CV) (m : Lm) (σ : CH) : Prop := SC w c X f (l0 ++ l) k m σ
noncomputable def kM2 (w : World) (c : Cx) (X : CH → Prop) (r : KJ) (args : List Expr) (k : KE) (m : Lm) (σ : CH) (f : CV) (l0 : List CV) : Prop := r (.Es args (kM3 w c X k f l0)) m σ
noncomputable def kMeth (w : World) (c : Cx) (X : CH → Prop) (r : KJ) (name : Str) (args : List Expr) (k : KE) (ov : CV) (m : Lm) (σ : CH) : Prop := SM w c ov name (kM2 w c X r args k m σ) m σ
noncomputable def kAttr (w : World) (name : Str) (k : KE) (ov : CV) (m : Lm) (σ : CH) : Prop := SG w ov name k m σ
noncomputable def kSub2 (k : KE) (c1 c2 : CV) (m : Lm) (σ : CH) : Prop := itemI σ (atK k m σ) c1 c2
noncomputable def kSub (r : KJ) (slice : Expr) (k : KE) (c1 : CV) (m : Lm) (σ : CH) : Prop := r (.E slice (kSub2 k c1)) m σ
noncomputable def kTup (k : KE) (l : List CV) (m : Lm) (σ : CH) : Prop := lenK l (k (.tup l) m σ)
noncomputable def kLst (fz : Bool) (k : KE) (l : List CV) (m : Lm) (σ : CH) : Prop := lenK l (ifB fz (k (.fl l) m σ) (SL l k m σ))
noncomputable def kCons (k : KL) (cv : CV) (l : List CV) : Lm → CH → Prop := k (cv :: l)
noncomputable def kEs (r : KJ) (es : List Expr) (k : KL) (cv : CV) (m : Lm) (σ : CH) : Prop := r (.Es es (kCons k cv)) m σ
noncomputable def kNot (k : KB) (b : Bool) (m : Lm) (σ : CH) : Prop := ifB b (k false m σ) (k true m σ)
noncomputable def k2d (o2 : CmpOp) (k : KB) (c2 c3 : CV) (m : Lm) (σ : CH) : Prop := cmpI σ (atB k m σ) o2 c2 c3
noncomputable def k2c (r : KJ) (o2 : CmpOp) (r2 : Expr) (k : KB) (c2 : CV) (m : Lm) (σ : CH) (b : Bool) : Prop := ifB b (r (.E r2 (k2d o2 k c2)) m σ) (k false m σ)
noncomputable def k2b (r : KJ) (o1 o2 : CmpOp) (r2 : Expr) (k : KB) (c1 c2 : CV) (m : Lm) (σ : CH) : Prop := cmpI σ (k2c r o2 r2 k c2 m σ) o1 c1 c2
noncomputable def k2a (r : KJ) (o1 o2 : CmpOp) (r1 r2 : Expr) (k : KB) (c1 : CV) (m : Lm) (σ : CH) : Prop := r (.E r1 (k2b r o1 o2 r2 k c1)) m σ
noncomputable def kBool (k : KB) (cv : CV) (m : Lm) (σ : CH) : Prop := boolK cv k m σ
noncomputable def kRet (k : KF') (cv : CV) (m : Lm) (σ : CH) : Prop := k (.ret cv) m σ
noncomputable def kExpr (k : KF') (_ : CV) (m : Lm) (σ : CH) : Prop := k .next m σ
noncomputable def kIf (r : KJ) (b o : List Stmt) (k : KF') (z : Bool) (m : Lm) (σ : CH) : Prop := ifB z (r (.Xs b k) m σ) (r (.Xs o k) m σ)
noncomputable def kAsgT (r : KJ) (t : Expr) (k : KF') (cv : CV) (m : Lm) (σ : CH) : Prop := r (.A t cv (k .next)) m σ
noncomputable def kAs2 (cv : CV) (k : KA) (co ci : CV) (m : Lm) (σ : CH) : Prop := SP co ci cv (k m) σ
noncomputable def kAs (r : KJ) (i : Expr) (cv : CV) (k : KA) (co : CV) (m : Lm) (σ : CH) : Prop := r (.E i (kAs2 cv k co)) m σ
noncomputable def kAa (w : World) (name : Str) (cv : CV) (k : KA) (co : CV) (m : Lm) (σ : CH) : Prop := SS w co name cv k m σ
noncomputable def kAss (r : KJ) (ts : List Expr) (cs : List CV) (k : KA) (m : Lm) (σ : CH) : Prop := r (.As ts cs k) m σ
section
variable (w : World) (c : Cx) (sc : Scope) (gt : List (Str × CV)) (fz : Bool) (X : CH → Prop) (r : Job → Lm → CH → Prop)
noncomputable def nameK (x : Str) (k : KE) (m : Lm) (σ : CH) : Prop := match sc.names.lookup x with
  | none => False
  | some n => (match n with
    | .globalImplicit => (match gt.lookup x with
      | some cv => k cv m σ
      | none => False)
    | .local => (match m.lookup x with
      | some cv => k cv m σ
      | none => False)
    | _ => (match m.lookup x with
      | some cv => isUnb cv = false ∧ k cv m σ
      | none => False))
noncomputable def storeK (x : Str) (cv : CV) (k : KA) (m : Lm) (σ : CH) : Prop := match sc.names.lookup x with
  | none => False
  | some n => (match n with
    | .local => k ((x, cv) :: m) σ
    | _ => (match m.lookup x with
      | none => False
      | some u => ifB (isUnb u) (k ((x, cv) :: m) σ) False))
noncomputable def constK (e : Expr) (v : Const) (k : KE) (m : Lm) (σ : CH) : Prop := match v with
  | .int i => k (.int i) m σ
  | .str i => k (.str i) m σ
  | .none => k .none m σ
  | .bool b => k (.bool b) m σ
  | _ => SE w c X e k m σ
noncomputable def callK (e f : Expr) (args : List Expr) (kws : List Keyword) (pos : Pos) (k : KE) (m : Lm) (σ : CH) : Prop := match kws with
  | _ :: _ => SE w c X e k m σ
  | [] => (match f with
    | .Name x p => ifB (args.any starE) (SE w c X e k m σ) (r (.E (.Name x p) (kCall w c X r args k)) m σ)
    | .Attribute o name ap => ifB (args.any starE || !Nat.blt args.length 30 || !(ap.endLine == pos.line) || callE o) (SE w c X e k m σ)
      (r (.E o (kMeth w c X r name args k)) m σ)
    | _ => SE w c X e k m σ)
noncomputable def topC : CV → Bool
  | .top _ => true
  | _ => false
theorem nT {c : CV} (h : topC c = false) : ∀ u, c ≠ .top u := fun u e => by subst e; injection h
noncomputable def topName (e : Expr) : Bool := match e with
  | .Name x _ => (match gt.lookup x with
    | some cv => topC cv
    | none => false)
  | _ => false
noncomputable def binK (op : Operator) (a b : CV) (k : KE) (m : Lm) (σ : CH) : Prop := match a with
  | .int i => (match b with
    | .int j => (match op with
      | .Add => k (.int (i + j)) m σ
      | .Sub => k (.int (i - j)) m σ
      | _ => SB op (.int i) (.int j) k m σ)
    | _ => SB op (.int i) b k m σ)
  | _ => SB op a b k m σ
noncomputable def negK (e o : Expr) (op : UnaryOp) (k : KE) (m : Lm) (σ : CH) : Prop := match op with
  | .USub => (match o with
    | .Constant v _ _ => (match v with
      | .int i => k (.int (-i)) m σ
      | _ => SE w c X e k m σ)
    | _ => SE w c X e k m σ)
  | _ => SE w c X e k m σ
noncomputable def kBin2 (op : Operator) (k : KE) (c1 c2 : CV) (m : Lm) (σ : CH) : Prop := binK op c1 c2 k m σ
noncomputable def kBin (op : Operator) (b : Expr) (k : KE) (c1 : CV) (m : Lm) (σ : CH) : Prop := r (.E b (kBin2 op k c1)) m σ
noncomputable def kCmp2 (op : CmpOp) (b : Expr) (k : KB) (c1 c2 : CV) (m : Lm) (σ : CH) : Prop := ifB (topName gt b) (SV w c X op c1 c2 k m σ) (cmpI σ (atB k m σ) op c1 c2)
noncomputable def kCmp (op : CmpOp) (b : Expr) (k : KB) (c1 : CV) (m : Lm) (σ : CH) : Prop := r (.E b (kCmp2 w c gt X op b k c1)) m σ
noncomputable def stepE (e : Expr) (k : KE) (m : Lm) (σ : CH) : Prop := match e with
  | .Name x _ => nameK sc gt x k m σ
  | .Constant v _ _ => constK w c X e v k m σ
  | .Call f args kws pos => callK w c X r e f args kws pos k m σ
  | .Attribute o name _ => ifB (callE o) (SE w c X e k m σ) (r (.E o (kAttr w name k)) m σ)
  | .Subscript value slice _ => ifB (sliceE slice || dictE value) (SE w c X e k m σ) (r (.E value (kSub r slice k)) m σ)
  | .BinOp a op b _ => r (.E a (kBin r op b k)) m σ
  | .Compare a ops bs _ => cmpK ops bs (fun op b => ifB (behindInMarks op b) False (r (.E a (kCmp w c gt X r op b (kBl k))) m σ)) (fun _ _ _ _ => False) False
  | .Tuple es _ _ => ifB (es.any starE) (SE w c X e k m σ) (r (.Es es (kTup k)) m σ)
  | .List es _ => ifB (es.any starE) (SE w c X e k m σ) (r (.Es es (kLst fz k)) m σ)
  | .UnaryOp op o _ => negK w c X e o op k m σ
  | .BoolOp op es _ => r (.B op es k) m σ
  | _ => SE w c X e k m σ
noncomputable def stepEs (es : List Expr) (k : KL) (m : Lm) (σ : CH) : Prop := match es with
  | [] => k [] m σ
  | e :: es => r (.E e (kEs r es k)) m σ
noncomputable def stepT (e : Expr) (k : KB) (m : Lm) (σ : CH) : Prop := match e with
  | .UnaryOp op o _ => (match op with
    | .Not => r (.T o (kNot k)) m σ
    | _ => False)
  | .BoolOp op es _ => r (.Ts op es k) m σ
  | .Compare a ops bs _ => cmpK ops bs (fun op b => ifB (behindInMarks op b) False (r (.E a (kCmp w c gt X r op b k)) m σ))
    (fun o1 o2 r1 r2 => ifB (behindInMarks o1 r1 || behindInMarks o2 r2) False (r (.E a (k2a r o1 o2 r1 r2 k)) m σ)) False
  | .Call f args kws pos => r (.E (.Call f args kws pos) (kBool k)) m σ
  | .Name x p => r (.E (.Name x p) (kBool k)) m σ
  | _ => False
noncomputable def andor (op : BoolOp) (b : Bool) (stop go : Prop) : Prop := match op with
  | .And => ifB b go stop
  | .Or => ifB b stop go
noncomputable def kTs (op : BoolOp) (es : List Expr) (k : KB) (b : Bool) (m : Lm) (σ : CH) : Prop := andor op b (k b m σ) (r (.Ts op es k) m σ)
noncomputable def kBo (op : BoolOp) (es : List Expr) (k : KE) (b : Bool) (m : Lm) (σ : CH) : Prop := andor op b (k (.bool b) m σ) (r (.B op es k) m σ)
noncomputable def stepTs (op : BoolOp) (es : List Expr) (k : KB) (m : Lm) (σ : CH) : Prop := match es with
  | [] => (match op with
    | .And => k true m σ
    | .Or => k false m σ)
  | e :: es => r (.T e (kTs r op es k)) m σ
noncomputable def stepB (op : BoolOp) (es : List Expr) (k : KE) (m : Lm) (σ : CH) : Prop := match es with
  | [] => False
  | e :: es => (match es with
    | [] => r (.E e k) m σ
    | e2 :: es => r (.E e (kBool (kBo r op (e2 :: es) k))) m σ)
noncomputable def kAsg (x : Str) (k : KF') (cv : CV) (m : Lm) (σ : CH) : Prop := storeK sc x cv (k .next) m σ
noncomputable def asgK (st : Stmt) (t e : Expr) (k : KF') (m : Lm) (σ : CH) : Prop := match t with
  | .Name x _ => ifB (plainX e) (r (.E e (kAsg sc x k)) m σ) (SX w c X st k m σ)
  | .Subscript .. => ifB (plainX e) (r (.E e (kAsgT r t k)) m σ) (SX w c X st k m σ)
  | .Attribute .. => ifB (plainX e) (r (.E e (kAsgT r t k)) m σ) (SX w c X st k m σ)
  | _ => SX w c X st k m σ
noncomputable def stepX (st : Stmt) (k : KF') (m : Lm) (σ : CH) : Prop := match st with
  | .If t b o _ => r (.T t (kIf r b o k)) m σ
  | .Return e _ => (match e with
    | some e => r (.E e (kRet k)) m σ
    | none => SX w c X st k m σ)
  | .Assign ts e _ => (match ts with
    | [] => SX w c X st k m σ
    | t :: ts => (match ts with
      | [] => asgK w c sc X r st t e k m σ
      | _ :: _ => SX w c X st k m σ))
  | .Expr e _ => ifB (plainX e) (r (.E e (kExpr k)) m σ) (SX w c X st k m σ)
  | _ => SX w c X st k m σ
noncomputable def flK (f : Fl) (n : Prop) (q : CV → Prop) : Prop := match f with
  | .next => n
  | .ret cv => q cv
noncomputable def kXs (sts : List Stmt) (k : KF') (f : Fl) (m : Lm) (σ : CH) : Prop := flK f (r (.Xs sts k) m σ) fun cv => k (.ret cv) m σ
noncomputable def stepXs (sts : List Stmt) (k : KF') (m : Lm) (σ : CH) : Prop := match sts with
  | [] => k .next m σ
  | st :: sts => r (.X st (kXs r sts k)) m σ
noncomputable def stepA (t : Expr) (cv : CV) (k : KA) (m : Lm) (σ : CH) : Prop := match t with
  | .Name x _ => storeK sc x cv k m σ
  | .Subscript o i _ => r (.E o (kAs r i cv k)) m σ
  | .Attribute o name _ => r (.E o (kAa w name cv k)) m σ
  | _ => SA w c X t cv k m σ
noncomputable def stepAs (ts : List Expr) (cs : List CV) (k : KA) (m : Lm) (σ : CH) : Prop := match ts with
  | [] => k m σ
  | t :: ts => (match cs with
    | [] => False
    | cv :: cs => ifB (starE t) False (r (.A t cv (kAss r ts cs k)) m σ))
noncomputable def step (j : Job) : Lm → CH → Prop := match j with
  | .E e k => stepE w c sc gt fz X r e k
  | .Es es k => stepEs r es k
  | .T e k => stepT w c gt X r e k
  | .Ts op es k => stepTs r op es k
  | .B op es k => stepB r op es k
  | .X st k => stepX w c sc X r st k
  | .Xs sts k => stepXs r sts k
  | .A t cv k => stepA w c sc X r t cv k
  | .As ts cs k => stepAs r ts cs k
end
structure Stc where
  sc : Scope
  gt : List (Str × CV)
  fz : Bool
noncomputable def wp (w : World) (c : Cx) (X : CH → Prop) (S : Stc) : Nat → Job → Lm → CH → Prop
  | 0, _ => fun _ _ => False
  | n + 1, j => step w c S.sc S.gt S.fz X (wp w c X S n) j
end Mine
end
section
namespace Mine
inductive Gt (w : World) : List (Str × CV) → Prop
  | nil : Gt w []
  | top {x v l} (h : nsIn (kk.heap_1 w.params) mainGlobals x = some (some v)) (r : Gt w l) : Gt w ((x, .top v) :: l)
  | int {x i l} (h : ∃ t, nsIn (kk.heap_1 w.params) mainGlobals x = some (some (.int i t))) (r : Gt w l) : Gt w ((x, .int i) :: l)
  | bi {x v l} (h : nsIn (kk.heap_1 w.params) mainGlobals x = some Option.none ∧ bootBuiltins x = some v) (hn : x ≠ "__name__") (r : Gt w l) : Gt w ((x, .top v) :: l)
section
variable {w : World} {c : Cx} {m : Lm} {σ : CH} {X : CH → Prop}
theorem EV.mono {e : Expr} {k k' : KE} (h : EV w c e m σ k X) (q : ∀ v m σ, k v m σ → k' v m σ) : EV w c e m σ k' X := fun T s W => (h T s W).mono q fun _ h => h
theorem EVs.mono {p : Pos} {e : List Expr} {k k' : KL} (h : EVs w c p e m σ k X) (q : ∀ v m σ, k v m σ → k' v m σ) : EVs w c p e m σ k' X := fun T s W => (h T s W).mono q fun _ h => h
theorem TV.mono {e : Expr} {k k' : KB} (h : TV w c e m σ k X) (q : ∀ v m σ, k v m σ → k' v m σ) : TV w c e m σ k' X := fun T s W => (h T s W).mono q fun _ h => h
theorem XV.mono {e : Stmt} {k k' : KF'} (h : XV w c e m σ k X) (q : ∀ v m σ, k v m σ → k' v m σ) : XV w c e m σ k' X := fun T s W => (h T s W).mono q fun _ h => h
theorem AV.mono {t : Expr} {cv : CV} {k k' : KA} (h : AV w c t cv m σ k X) (q : ∀ m σ, k m σ → k' m σ) : AV w c t cv m σ k' X := fun T s v W r => (h T s v W r).mono (fun _ m σ => q m σ) fun _ h => h
theorem EV.loc {x : Str} {pos : Pos} {cv : CV} {Q : KE} (h : m.lookup x = some cv) (k : c.sc.names.lookup x = some .local) (q : Q cv m σ) (hd : (x == dbg) = false) : EV w c (.Name x pos) m σ Q X := by
  cases hu : isUnb cv with
  | false => exact EV.nm h hu q hd
  | true =>
    intro T s W
    obtain ⟨mm, _, hb⟩ := W.loc
    cases cv with
    | unb =>
      rcases hb x .unb h with ⟨_, v, _, r⟩ | ⟨_, a, _, o, v, _, _, r⟩ | ⟨k2, _⟩
      · exact r.unb_inv.elim
      · exact r.unb_inv.elim
      · rw [show c.env.kindOf x = some .local from k] at k2; cases k2
    | _ => injection hu
theorem starE_each {e : Expr} (h : starE e = false) (es : List Expr) (env : Env) : starEach (e :: es) env = (false, eval e env) :: starEach es env := by
  cases e <;> first | rfl | injection h
theorem assignE_each {e : Expr} (h : starE e = false) (es : List Expr) (env : Env) : assignEach (e :: es) env = (false, PySem.assign e env) :: assignEach es env := by
  cases e <;> first | rfl | injection h
theorem plainArgs : ∀ {es : List Expr}, es.any starE = false → ∀ (p : Pos) (env : Env), ((backTo p (starEach es env)).any (·.1)) = false
  | [], _, _, _ => rfl
  | e :: es, h, p, env => by
    rw [List.any_cons, Bool.or_eq_false_iff] at h
    rw [starE_each h.1]
    exact plainArgs h.2 p env
theorem starLen : ∀ (es : List Expr) (p : Pos) (env : Env), es.any starE = false → (backTo p (starEach es env)).all (!·.1) = true
  | [], _, _, _ => rfl
  | e :: es, p, env, h => by
    rw [List.any_cons, Bool.or_eq_false_iff] at h
    rw [starE_each h.1]
    exact starLen es p env h.2
theorem swaps_plain {e : Expr} (h : plainX e = true) (t : Option Expr) (l : Nat) (env : Env) : swapsWith e t l env = Pure.pure false := by
  cases e <;> first | rfl | injection h
theorem swapped_plain {t e : Expr} (ht : simpT t = true) (env : Env) : swappedStores [t] e env = Pure.pure Option.none := by
  cases t <;> first | rfl | injection ht
theorem attrBase {o : Expr} (h : callE o = false) (name : Str) (env : Env) : attributeBase o name env (eval o env) = eval o env := by
  cases o with
  | Call f => cases f <;> first | rfl | injection h
  | _ => rfl
theorem subs_plain {e : Expr} (h : sliceE e = false) (o i : Value) : subscripted e false o i = PySem.operate [o, i] (getItem o i) := by
  cases e <;> first | rfl | injection h
theorem meth_eq {o : Expr} {args : List Expr} {name : Str} {ap pos : Pos} {env : Env} (h1 : args.any starE = false) (h2 : Nat.blt args.length 30 = true) (h3 : (ap.endLine == pos.line) = true) (h4 : callE o = false) :
    eval (.Call (.Attribute o name ap) args [] pos) env = (do
      let ov ← eval o env
      PySem.standAt ap.atName
      let (f, first) ← PySem.holding [ov] (getMethod ov name (do return (← importBound o env).getD true))
      PySem.callWith pos f first (backTo pos (starEach args env)) (backToKw pos (keywordEach [] env))) := by
  show (do
    let ov ← attributeBase o name env (eval o env)
    PySem.standAt ap.atName
    methodCall o name ap pos env ov (args.length + ([] : List Keyword).length) (backTo pos (starEach args env)) (backToKw pos (keywordEach [] env))) = _
  rw [attrBase h4]
  have hf : methodCallForm (args.length + ([] : List Keyword).length) (backTo pos (starEach args env)) (backToKw pos (keywordEach [] env)) = true := by
    unfold methodCallForm
    refine rwP (starLen args pos env h1) ?_
    show (true && true && decide (args.length + 0 + 0 < 30)) = true
    refine rwP (decide_eq_true (by have := Nat.le_of_ble_eq_true h2; lia)) ?_; rfl
  unfold methodCall calleeOf methodCallPos
  refine rwP hf ?_
  simp only [h3, Bool.not_true, Bool.false_or, if_true, ↓reduceIte, pure_bind]
end
noncomputable def Job.holds (w : World) (c : Cx) (X : CH → Prop) (j : Job) (m : Lm) (σ : CH) : Prop := match j with
  | .E e k => EV w c e m σ k X
  | .Es es k => es.any starE = false → ∀ p, EVs w c p es m σ k X
  | .T e k => TV w c e m σ k X
  | .Ts op es k => TVs w c op es m σ k X
  | .B op es k => ∀ p, EVb w c p op es m σ k X
  | .X st k => XV w c st m σ k X
  | .Xs sts k => XVs w c sts m σ k X
  | .A t cv k => AV w c t cv m σ k X
  | .As ts cs k => AVs w c ts cs m σ k X
section
variable {w : World} {c : Cx} {sc : Scope} {gt : List (Str × CV)} {fz : Bool} {X : CH → Prop} {r : Job → Lm → CH → Prop} (hsc : c.sc = sc) (hdb : sc.names.lookup dbg = none) (hkd : sc.kind = .function) (hgt : Gt w gt)
include hdb in
theorem notDbg {x : Str} {n : NameKind} (h : sc.names.lookup x = some n) : (x == dbg) = false := by
  cases e : x == dbg with
  | false => rfl
  | true => rw [beq_iff_eq.mp e, hdb] at h; injection h
include hsc hdb in
theorem glob_ok {x : Str} {p : Pos} {k : KE} {m : Lm} {σ : CH} {cv : CV} (hl : sc.names.lookup x = some .globalImplicit) (q : k cv m σ) : ∀ {gt : List (Str × CV)}, Gt w gt → gt.lookup x = some cv → EV w c (.Name x p) m σ k X := by
  intro gt hgt
  have hd := notDbg hdb hl
  induction hgt with
  | nil => intro h; injection h
  | @top y v l h _ ih =>
    intro e
    by_cases hx : x = y
    · subst hx; rw [lookup_cons_self'] at e; obtain rfl := Option.some.inj e; exact EV.gl hsc hl h q hd
    · rw [lookup_cons_ne hx] at e; exact ih e
  | @int y i l h _ ih =>
    intro e
    by_cases hx : x = y
    · subst hx; rw [lookup_cons_self'] at e; obtain rfl := Option.some.inj e; exact EV.gi2 hsc hl h q hd
    · rw [lookup_cons_ne hx] at e; exact ih e
  | @bi y v l h hn _ ih =>
    intro e
    by_cases hx : x = y
    · subst hx; rw [lookup_cons_self'] at e; obtain rfl := Option.some.inj e; exact EV.bi hsc hl h q hn hd
    · rw [lookup_cons_ne hx] at e; exact ih e
include hsc hdb hgt in
theorem name_ok {x : Str} {p : Pos} {k : KE} {m : Lm} {σ : CH} (h : nameK sc gt x k m σ) : EV w c (.Name x p) m σ k X := by
  unfold nameK at h
  cases e2 : sc.names.lookup x with
  | none => rw [e2] at h; exact h.elim
  | some n =>
    have hd := notDbg hdb e2
    rw [e2] at h
    have U : (match m.lookup x with | some cv => isUnb cv = false ∧ k cv m σ | none => False) → EV w c (.Name x p) m σ k X := fun h => by
      cases e : m.lookup x with
      | none => rw [e] at h; exact h.elim
      | some cv => rw [e] at h; exact EV.nm e h.1 h.2 hd
    induction n with
    | globalImplicit =>
      cases e3 : gt.lookup x with
      | none => simp only [e3] at h
      | some cv => simp only [e3] at h; exact glob_ok hsc hdb e2 h hgt e3
    | «local» =>
      cases e : m.lookup x with
      | none => simp only [e] at h
      | some cv => simp only [e] at h; exact EV.loc e (by refine rwP hsc ?_; exact e2) h hd
    | _ => exact U h
include hsc in
theorem store_ok {x : Str} {cv : CV} {k : KA} {m : Lm} {σ : CH} (h : storeK sc x cv k m σ) : StOk c m x ∧ k ((x, cv) :: m) σ := by
  unfold storeK at h
  cases e2 : sc.names.lookup x with
  | none => rw [e2] at h; exact h.elim
  | some n =>
    rw [e2] at h
    have U : (match m.lookup x with | none => False | some u => ifB (isUnb u) (k ((x, cv) :: m) σ) False) → StOk c m x ∧ k ((x, cv) :: m) σ := fun h => by
      cases e : m.lookup x with
      | none => rw [e] at h; exact h.elim
      | some u =>
        rw [e] at h
        cases u with
        | unb => exact ⟨.inr e, h⟩
        | _ => exact h.elim
    induction n with
    | «local» => exact ⟨.inl (by refine rwP hsc ?_; exact e2), h⟩
    | _ => exact U h
theorem bool_ok {cv : CV} {k : KB} {m : Lm} {σ : CH} (h : boolK cv k m σ) : ∃ b, cv = .bool b ∧ k b m σ := by
  cases cv with
  | bool b => exact ⟨b, rfl, h⟩
  | _ => exact h.elim
theorem cmpK_elim {ops : List CmpOp} {bs : List Expr} {one : CmpOp → Expr → Prop} {two : CmpOp → CmpOp → Expr → Expr → Prop} (h : cmpK ops bs one two False) :
    (∃ op b, ops = [op] ∧ bs = [b] ∧ one op b) ∨ ∃ o1 o2 b1 b2, ops = [o1, o2] ∧ bs = [b1, b2] ∧ two o1 o2 b1 b2 := by
  cases ops with
  | nil => exact h.elim
  | cons op ops =>
    cases bs with
    | nil => exact h.elim
    | cons b bs =>
      cases ops with
      | nil =>
        induction bs with
        | nil => exact .inl ⟨op, b, rfl, rfl, h⟩
        | cons => exact h.elim
      | cons op2 ops =>
        induction ops with
        | cons => exact h.elim
        | nil =>
          cases bs with
          | nil => exact h.elim
          | cons b2 bs =>
            induction bs with
            | nil => exact .inr ⟨op, op2, b, b2, rfl, rfl, h⟩
            | cons => exact h.elim
theorem ifB_f {b : Bool} {p : Prop} (h : ifB b False p) : b = false ∧ p := (ifB_elim h).elim (fun h => h.2.elim) id
theorem ifB_t {b : Bool} {p : Prop} (h : ifB b p False) : b = true ∧ p := (ifB_elim h).elim id fun h => h.2.elim
section
variable (ih : ∀ j m σ, r j m σ → j.holds w c X m σ)
include ih
theorem iE {e : Expr} {k : KE} {m : Lm} {σ : CH} (h : r (.E e k) m σ) : EV w c e m σ k X := ih _ _ _ h
theorem iEs {e : List Expr} {k : KL} {m : Lm} {σ : CH} {p : Pos} (h : r (.Es e k) m σ) (hs : e.any starE = false) : EVs w c p e m σ k X := ih _ _ _ h hs p
theorem iT {e : Expr} {k : KB} {m : Lm} {σ : CH} (h : r (.T e k) m σ) : TV w c e m σ k X := ih _ _ _ h
theorem call_ok {f : Expr} {args : List Expr} {kws : List Keyword} {pos : Pos} {k : KE} {m : Lm} {σ : CH} (h : callK w c X r (.Call f args kws pos) f args kws pos k m σ) : EV w c (.Call f args kws pos) m σ k X := by
  induction kws with
  | cons => exact SE.h h
  | nil =>
    cases f with
    | Name x p =>
      rcases ifB_elim h with ⟨_, h⟩ | ⟨hs, h⟩
      · exact h.h
      · exact EV.call ((iE ih h).mono fun fv m1 σ1 h => (iEs ih h hs).mono fun l m2 σ2 h => h.h) (plainArgs hs _ _)
    | Attribute o name ap =>
      rcases ifB_elim h with ⟨_, h⟩ | ⟨hs, h⟩
      · exact h.h
      · rw [Bool.or_eq_false_iff, Bool.or_eq_false_iff, Bool.or_eq_false_iff, Bool.not_eq_false', Bool.not_eq_false'] at hs
        refine hide fun Ph hPh => ?_
        obtain ⟨⟨⟨hs, h1⟩, h2⟩, h3⟩ := hs
        refine hPh ?_
        refine EV.meth ((iE ih h).mono fun ov m1 σ1 h => ?_) (meth_eq hs h1 h2 h3) (plainArgs hs _ _)
        intro T s ov pl W rv
        refine hide fun Ph hPh => ?_
        obtain ⟨f, l, fv, vs, q, r1, r2, hh⟩ := h.h T s ov pl W rv
        refine hPh ?_
        exact ⟨f, l, fv, vs, (iEs ih q hs).mono fun l m2 σ2 h => h.h, r1, r2, hh⟩
    | _ => exact SE.h h
theorem len_ok {l : List CV} {P : Prop} (h : lenK l P) : l.length ≤ sizeLine ∧ P :=
  ⟨Nat.le_trans (Nat.le_of_ble_eq_true (ifB_t h).1) (Nat.le_of_ble_eq_true rfl), (ifB_t h).2⟩
theorem cmp1_ok {op : CmpOp} {a b : CV} {z : Bool} {k : KB} {m : Lm} {σ : CH} (h : ifB z (SV w c X op a b k m σ) (cmpI σ (fun b => k b m σ) op a b)) : CmpV w c op a b m σ k X := by
  rcases ifB_elim h with ⟨_, h⟩ | ⟨_, h⟩
  · exact h.h
  · exact fun T s v1 v2 W r1 r2 => J.cmp (Q := fun cv m' σ' => ∃ b, cv = .bool b ∧ k b m' σ') W r1 r2 (cmpQ_mono (fun b hb => ⟨b, rfl, hb⟩) h)
omit ih in
theorem SG.ex {co : CV} {name : Str} {k : KE} {m : Lm} {σ : CH} (h : SG w co name k m σ) : ∃ n C es cv, co = .ref n ∧ σ n = some (.inst C es) ∧ AttrOk w C name ∧ es.lookup name = some cv ∧ (∀ u, cv ≠ .top u) ∧ k cv m σ :=
  h.rec fun o a l t q => ⟨_, _, _, _, rfl, o, a, l, t, q⟩
omit ih in
theorem SS.ex {co cv : CV} {name : Str} {k : KA} {m : Lm} {σ : CH} (h : SS w co name cv k m σ) : ∃ n C es, co = .ref n ∧ σ n = some (.inst C es) ∧ StoreOk w C name ∧ es.length ≤ 100 ∧ (es.map (·.1)).Nodup ∧ k m (σ.set n (.inst C (storedC es name cv))) :=
  h.rec fun o a l q => ⟨_, _, _, rfl, o, a, Nat.le_of_ble_eq_true (Bool.and_eq_true_iff.mp l).1, of_decide_eq_true (Bool.and_eq_true_iff.mp l).2, q⟩
omit ih in
theorem bin_ok {op : Operator} {a b : CV} {k : KE} {m : Lm} {σ : CH} (h : binK op a b k m σ) : ∃ no, binQ no op a b m σ k := by
  cases a with
  | int i =>
    cases b with
    | int j =>
      induction op with
      | Add => exact ⟨none, .add h⟩
      | Sub => exact ⟨none, .sub h⟩
      | _ => exact h.rec fun n h => ⟨n, h⟩
    | _ => exact h.rec fun n h => ⟨n, h⟩
  | _ => exact h.rec fun n h => ⟨n, h⟩
include hsc hdb hgt in
theorem stepE_ok {e : Expr} {k : KE} {m : Lm} {σ : CH} (h : stepE w c sc gt fz X r e k m σ) : EV w c e m σ k X := by
  cases e with
  | Name x p => exact name_ok hsc hdb hgt h
  | Constant v _ _ =>
    induction v with
    | int => exact EV.cInt h
    | str => exact EV.cStr h
    | none => exact EV.cNone h
    | bool => exact EV.cBool h
    | _ => exact SE.h h
  | Call => exact call_ok ih h
  | Attribute o name p =>
    rcases ifB_elim h with ⟨_, h⟩ | ⟨h1, h⟩
    · exact h.h
    · exact EV.attr2 ((iE ih h).mono fun ov m1 σ1 h => h.ex) (attrBase h1 _ _)
  | Subscript value slice p =>
    rcases ifB_elim h with ⟨_, h⟩ | ⟨h1, h⟩
    · exact h.h
    · rw [Bool.or_eq_false_iff] at h1
      exact EV.sub ((iE ih h).mono fun c1 m1 σ1 h => iE ih h) (subs_plain h1.1)
  | BinOp => exact EV.bin ((iE ih h).mono fun c1 m1 σ1 h => (iE ih h).mono fun c2 m2 σ2 h => bin_ok h)
  | Compare a ops bs p =>
    rcases cmpK_elim h with ⟨op, b, rfl, rfl, h⟩ | ⟨_, _, _, _, _, _, h⟩
    · obtain ⟨h1, h⟩ := ifB_f h
      exact EV.cmpV ((iE ih h).mono fun c1 m1 σ1 h => (iE ih h).mono fun c2 m2 σ2 h => cmp1_ok ih h) h1
    · exact h.elim
  | Tuple es n p =>
    rcases ifB_elim h with ⟨_, h⟩ | ⟨h1, h⟩
    · exact h.h
    · exact EV.tuple ((iEs ih h h1).mono fun l m1 σ1 h => len_ok ih h)
  | List es p =>
    rcases ifB_elim h with ⟨_, h⟩ | ⟨h1, h⟩
    · exact h.h
    · refine EV.list ((iEs ih h h1).mono fun l m1 σ1 h => ⟨(len_ok ih h).1, ?_⟩)
      rcases ifB_elim (len_ok ih h).2 with ⟨_, h⟩ | ⟨_, h⟩
      · exact ⟨none, h⟩
      · exact h.rec fun n h => ⟨n, h⟩
  | UnaryOp op o p =>
    induction op with
    | USub =>
      cases o with
      | Constant v _ _ =>
        induction v with
        | int => exact EV.neg h
        | _ => exact SE.h h
      | _ => exact SE.h h
    | _ => exact SE.h h
  | BoolOp => exact EV.bools ((ih _ _ _ h : ∀ p, EVb w c p _ _ _ _ _ _) _)
  | _ => exact SE.h h
theorem stepT_ok {e : Expr} {k : KB} {m : Lm} {σ : CH} (h : stepT w c gt X r e k m σ) : TV w c e m σ k X := by
  cases e with
  | UnaryOp op o p =>
    induction op with
    | Not =>
      refine TV.notM ((iT ih h).mono fun z m1 σ1 h => ?_)
      cases z <;> exact h
    | _ => exact h.elim
  | BoolOp => exact TV.bools (ih _ _ _ h)
  | Compare a ops bs p =>
    rcases cmpK_elim h with ⟨op, b, rfl, rfl, h⟩ | ⟨o1, o2, b1, b2, rfl, rfl, h⟩
    · obtain ⟨h1, h⟩ := ifB_f h
      exact TV.cmpV ((iE ih h).mono fun c1 m1 σ1 h => (iE ih h).mono fun c2 m2 σ2 h => cmp1_ok ih h) h1
    · obtain ⟨h1, h⟩ := ifB_f h
      rw [Bool.or_eq_false_iff] at h1
      refine TV.cmp2 ((iE ih h).mono fun c1 m1 σ1 h => (iE ih h).mono fun c2 m2 σ2 h => cmpQ_mono (fun b hb => ?_) h) ?_
      · cases b
        · exact hb
        · exact iE ih hb
      · simp only [markedEach, evalEach, markedBehindIn_of_false h1.1, markedBehindIn_of_false h1.2]
  | Call => exact TV.call ((iE ih h).mono fun c1 m1 σ1 h => bool_ok h)
  | Name => exact TV.name ((iE ih h).mono fun c1 m1 σ1 h => bool_ok h)
  | _ => exact h.elim
theorem stepTs_ok {op : BoolOp} {es : List Expr} {k : KB} {m : Lm} {σ : CH} (h : stepTs r op es k m σ) : TVs w c op es m σ k X := by
  cases es with
  | nil =>
    induction op with
    | And => exact TVs.nilA h
    | Or => exact TVs.nilO h
  | cons e es =>
    induction op with
    | And =>
      refine TVs.and ((iT ih h).mono fun z m1 σ1 h => ?_)
      cases z
      · exact h
      · exact ih _ _ _ h
    | Or =>
      refine TVs.or ((iT ih h).mono fun z m1 σ1 h => ?_)
      cases z
      · exact ih _ _ _ h
      · exact h
theorem stepB_ok {p : Pos} {op : BoolOp} {es : List Expr} {k : KE} {m : Lm} {σ : CH} (h : stepB r op es k m σ) : EVb w c p op es m σ k X := by
  cases es with
  | nil => exact h.elim
  | cons e es =>
    cases es with
    | nil => exact EVb.last (iE ih h)
    | cons e2 es =>
      induction op with
      | And =>
        refine EVb.and ((iE ih h).mono fun cv m1 σ1 h => ?_)
        obtain ⟨b, e, h⟩ := bool_ok h
        refine ⟨b, e, ?_⟩
        cases b
        · exact h
        · exact (ih _ _ _ h : ∀ p, EVb w c p _ _ _ _ _ _) _
      | Or =>
        refine EVb.or ((iE ih h).mono fun cv m1 σ1 h => ?_)
        obtain ⟨b, e, h⟩ := bool_ok h
        refine ⟨b, e, ?_⟩
        cases b
        · exact (ih _ _ _ h : ∀ p, EVb w c p _ _ _ _ _ _) _
        · exact h
include hsc in
theorem asg_ok {t e : Expr} {p : Pos} {k : KF'} {m : Lm} {σ : CH} (h : asgK w c sc X r (.Assign [t] e p) t e k m σ) : XV w c (.Assign [t] e p) m σ k X := by
  have S : simpT t = true → ifB (plainX e) (r (.E e fun cv m1 σ1 => r (.A t cv (k .next)) m1 σ1) m σ) (SX w c X (.Assign [t] e p) k m σ) → assignEach [t] c.env = [(false, PySem.assign t c.env)] → XV w c (.Assign [t] e p) m σ k X := fun ht h he => by
    rcases ifB_elim h with ⟨hp, h⟩ | ⟨_, h⟩
    · exact XV.assign ((iE ih h).mono fun cv m1 σ1 h => (ih _ _ _ h : AV w c _ _ _ _ _ _)) (by rw [swapsWithSole]; exact swaps_plain hp _ _ _) (swapped_plain ht _) he
    · exact h.h
  cases t with
  | Name x _ =>
    rcases ifB_elim h with ⟨hp, h⟩ | ⟨_, h⟩
    · exact XV.name ((iE ih h).mono fun cv m1 σ1 h => store_ok hsc h) (swaps_plain hp _ _ _)
    · exact h.h
  | Subscript => exact S rfl h rfl
  | Attribute => exact S rfl h rfl
  | _ => exact SX.h h
include hsc hkd in
theorem stepX_ok {st : Stmt} {k : KF'} {m : Lm} {σ : CH} (h : stepX w c sc X r st k m σ) : XV w c st m σ k X := by
  cases st with
  | If =>
    refine XV.ite ((iT ih h).mono fun z m1 σ1 h => ?_)
    cases z <;> exact (ih _ _ _ h : XVs w c _ _ _ _ _)
  | Return e p =>
    induction e with
    | some => exact XV.ret (iE ih h)
    | none => exact SX.h h
  | Assign ts e p =>
    cases ts with
    | nil => exact SX.h h
    | cons t ts =>
      induction ts with
      | nil => exact asg_ok hsc ih h
      | cons => exact SX.h h
  | Expr =>
    rcases ifB_elim h with ⟨hp, h⟩ | ⟨_, h⟩
    · exact XV.expr2 hsc hkd (iE ih h) (swaps_plain hp _ _ _)
    · exact h.h
  | _ => exact SX.h h
theorem stepXs_ok {st : List Stmt} {k : KF'} {m : Lm} {σ : CH} (h : stepXs r st k m σ) : XVs w c st m σ k X := by
  induction st with
  | nil => exact XVs.nil h
  | cons =>
    refine XVs.cons ((ih _ _ _ h : XV w c _ _ _ _ _).mono fun f m1 σ1 h => ?_)
    induction f with
    | next => exact (ih _ _ _ h : XVs w c _ _ _ _ _)
    | ret cv => exact h
include hsc in
theorem stepA_ok {t : Expr} {cv : CV} {k : KA} {m : Lm} {σ : CH} (h : stepA w c sc X r t cv k m σ) : AV w c t cv m σ k X := by
  cases t with
  | Name =>
    obtain ⟨a, b⟩ := store_ok hsc h
    exact AV.name a b
  | Subscript => exact AV.sub ((iE ih h).mono fun c1 m1 σ1 h => (iE ih h).mono fun c2 m2 σ2 h => h.h)
  | Attribute => exact AV.attr ((iE ih h).mono fun c1 m1 σ1 h => h.ex)
  | _ => exact SA.h h
theorem stepAs_ok {ts : List Expr} {cs : List CV} {k : KA} {m : Lm} {σ : CH} (h : stepAs r ts cs k m σ) : AVs w c ts cs m σ k X := by
  cases ts with
  | nil => exact AVs.nil h
  | cons =>
    induction cs with
    | nil => exact h.elim
    | cons =>
      obtain ⟨hs, h⟩ := ifB_f h
      exact AVs.cons ((ih _ _ _ h : AV w c _ _ _ _ _ _).mono fun m1 σ1 h => (ih _ _ _ h : AVs w c _ _ _ _ _ _)) (assignE_each hs _ _)
theorem stepEs_ok {es : List Expr} {k : KL} {m : Lm} {σ : CH} (h : stepEs r es k m σ) (hs : es.any starE = false) (p : Pos) : EVs w c p es m σ k X := by
  induction es with
  | nil => exact EVs.nil h
  | cons =>
    rw [List.any_cons, Bool.or_eq_false_iff] at hs
    exact EVs.cons ((iE ih h).mono fun cv m1 σ1 h => iEs ih h hs.2) (starE_each hs.1 _ _)
end
include hsc hdb hkd hgt in
theorem wp_ok : ∀ (n : Nat) (j : Job) (m : Lm) (σ : CH), wp w c X ⟨sc, gt, fz⟩ n j m σ → j.holds w c X m σ
  | 0, _, _, _, h => h.elim
  | n + 1, j, m, σ, h => by
    have ih : ∀ j m σ, wp w c X ⟨sc, gt, fz⟩ n j m σ → j.holds w c X m σ := wp_ok n
    have h : step w c sc gt fz X (wp w c X ⟨sc, gt, fz⟩ n) j m σ := h
    generalize wp w c X ⟨sc, gt, fz⟩ n = r at ih h
    induction j with
    | E e k => exact stepE_ok hsc hdb hgt ih h
    | Es es k => exact fun hs p => stepEs_ok ih h hs p
    | T e k => exact stepT_ok ih h
    | Ts op es k => exact stepTs_ok ih h
    | B op es k => exact fun p => stepB_ok ih h
    | X st k => exact stepX_ok hsc hkd ih h
    | Xs sts k => exact stepXs_ok ih h
    | A t cv k => exact stepA_ok hsc ih h
    | As ts cs k => exact stepAs_ok ih h
end
end Mine
end
section
namespace Mine
theorem ar1 {α β : Type} {f : List α → β} {g : List α → β} (h : ∀ a, f [a] = g [a]) : ∀ vs : List α, vs.length = 1 → f vs = g vs
  | [a], _ => h a
theorem ar2 {α β : Type} {f : List α → β} {g : List α → β} (h : ∀ a b, f [a, b] = g [a, b]) : ∀ vs : List α, vs.length = 2 → f vs = g vs
  | [a, b], _ => h a b
theorem ar3 {α β : Type} {f : List α → β} {g : List α → β} (h : ∀ a b c, f [a, b, c] = g [a, b, c]) : ∀ vs : List α, vs.length = 3 → f vs = g vs
  | [a, b, c], _ => h a b c
theorem ar4 {α β : Type} {f : List α → β} {g : List α → β} (h : ∀ a b c d, f [a, b, c, d] = g [a, b, c, d]) : ∀ vs : List α, vs.length = 4 → f vs = g vs
  | [a, b, c, d], _ => h a b c d
theorem ar5 {α β : Type} {f : List α → β} {g : List α → β} (h : ∀ a b c d e, f [a, b, c, d, e] = g [a, b, c, d, e]) : ∀ vs : List α, vs.length = 5 → f vs = g vs
  | [a, b, c, d, e], _ => h a b c d e
theorem kinds_dec {names : List Str} {sc : Scope} (h : (names.all fun x => sc.names.lookup x == some .local || sc.names.lookup x == some .cell) = true) : ∀ n, ∀ x ∈ names, sc.names.lookup x = some .local ∨ (sc.names.lookup x = some .cell ∧ ((cellsFrom n sc.names []).lookup x).isSome = true) := fun n x hx => by
  rcases Bool.or_eq_true_iff.mp (List.all_eq_true.mp h x hx) with e | e
  · exact .inl (eq_of_beq e)
  · exact .inr ⟨eq_of_beq e, cellsFrom_some _ _ _ (.inl (eq_of_beq e))⟩
theorem un_dec {names un : List Str} {sc : Scope} (h : (un.all fun x => !names.contains x && sc.names.lookup x == some .cell) = true) : ∀ n, ∀ x ∈ un, x ∉ names ∧ sc.names.lookup x = some .cell ∧ ((cellsFrom n sc.names []).lookup x).isSome = true := fun n x hx => by
  obtain ⟨e1, e⟩ := Bool.and_eq_true_iff.mp (List.all_eq_true.mp h x hx)
  refine ⟨fun hh => ?_, eq_of_beq e, cellsFrom_some _ _ _ (.inl (eq_of_beq e))⟩
  rw [List.contains_iff_mem.mpr hh] at e1; injection e1
structure InF (w : World) (c : Cx) (sc : Scope) (gt : List (Str × CV)) : Prop where
  hs : c.sc = sc
  db : sc.names.lookup dbg = none
  kd : sc.kind = .function
  gt : Gt w gt
section
variable {w : World} {c : Cx} {sc : Scope} {gt : List (Str × CV)} {m : Lm} {σ : CH} {X : CH → Prop} (i : InF w c sc gt)
include i
theorem InF.E (fz : Bool) {e : Expr} {k : KE} (h : wp w c X ⟨sc, gt, fz⟩ 100 (.E e k) m σ) : EV w c e m σ k X := wp_ok i.hs i.db i.kd i.gt _ _ _ _ h
theorem InF.T (fz : Bool) {e : Expr} {k : KB} (h : wp w c X ⟨sc, gt, fz⟩ 100 (.T e k) m σ) : TV w c e m σ k X := wp_ok i.hs i.db i.kd i.gt _ _ _ _ h
theorem InF.Xs (fz : Bool) {e : List Stmt} {k : KF'} (h : wp w c X ⟨sc, gt, fz⟩ 100 (.Xs e k) m σ) : XVs w c e m σ k X := wp_ok i.hs i.db i.kd i.gt _ _ _ _ h
end
section
variable {w : World} {c : Cx} {sc : Scope} {gt : List (Str × CV)} {m : Lm} {σ : CH} {X : CH → Prop} (i : InF w c sc gt)
include i
theorem SE.ifs (fz : Bool) {t a b : Expr} {p : Pos} {k : KE} (h : wp w c X ⟨sc, gt, fz⟩ 100 (.T t fun z m1 σ1 => ifB z (wp w c X ⟨sc, gt, fz⟩ 100 (.E a k) m1 σ1) (wp w c X ⟨sc, gt, fz⟩ 100 (.E b k) m1 σ1)) m σ) : SE w c X (.IfExp t a b p) k m σ :=
  ⟨EV.ifexp ((i.T fz h).mono fun z m1 σ1 h => by
    cases z
    · exact i.E fz h
    · exact i.E fz h)⟩
theorem SE.ifJ (fz : Bool) {t a b : Expr} {p : Pos} {k : KE} (B : CV) (P : CH → Prop) (h : wp w c X ⟨sc, gt, fz⟩ 100 (.T t fun z m1 σ1 => ifB z (wp w c X ⟨sc, gt, fz⟩ 100 (.E a fun cv m2 σ2 => m2 = m ∧ cv = B ∧ P σ2) m1 σ1) (wp w c X ⟨sc, gt, fz⟩ 100 (.E b fun cv m2 σ2 => m2 = m ∧ cv = B ∧ P σ2) m1 σ1)) m σ)
    (q : ∀ σ', P σ' → k B m σ') : SE w c X (.IfExp t a b p) k m σ :=
  ⟨EV.ifexp ((i.T fz h).mono fun z m1 σ1 h => by
    have go : ∀ e, wp w c X ⟨sc, gt, fz⟩ 100 (.E e fun cv m2 σ2 => m2 = m ∧ cv = B ∧ P σ2) m1 σ1 → EV w c e m1 σ1 k X := fun e h => (i.E fz h).mono fun cv m2 σ2 h => by
      obtain ⟨rfl, rfl, h2⟩ := h; exact q _ h2
    cases z
    · exact go _ h
    · exact go _ h)⟩
end
noncomputable def nmsOk (names : List Str) (sc : Scope) : Bool := sc.names.all (fun x => x.2 != .cell) && names.all (fun x => sc.names.lookup x == some .local) && decide names.Nodup && sc.kind == .function && !sc.isCoroutine && !sc.isGenerator && (sc.names.lookup dbg).isNone
structure NmsOk (names : List Str) (sc : Scope) : Prop where
  cell : ∀ x ∈ sc.names, x.2 ≠ .cell
  loc : ∀ x ∈ names, sc.names.lookup x = some .local
  nd : names.Nodup
  kind : sc.kind = .function
  co : sc.isCoroutine = false
  gen : sc.isGenerator = false
  db : sc.names.lookup dbg = none
theorem nmsOk_of {names : List Str} {sc : Scope} (h : nmsOk names sc = true) : NmsOk names sc := by
  unfold nmsOk at h
  simp only [Bool.and_eq_true, List.all_eq_true, bne_iff_ne, beq_iff_eq, decide_eq_true_eq, Bool.not_eq_true', Option.isNone_iff_eq_none] at h
  obtain ⟨⟨⟨⟨⟨⟨a, b⟩, c⟩, d⟩, e⟩, f⟩, g⟩ := h
  exact ⟨a, b, c, d, e, f, g⟩
noncomputable def nmsCOk (names un : List Str) (sc : Scope) : Bool := (names.all fun x => sc.names.lookup x == some .local || sc.names.lookup x == some .cell) && (un.all fun x => !names.contains x && sc.names.lookup x == some .cell) && decide ((cellsFrom 0 sc.names []).map (·.1)).Nodup && decide names.Nodup &&
  sc.kind == .function && !sc.isCoroutine && !sc.isGenerator && (sc.names.lookup dbg).isNone
section
variable {w : World} {h : Nat} {f : Addr} {cs : List CV} {σ : CH} {X : CH → Prop} {Q : CV → CH → Prop}
  {name qual : Str} {params : Arguments} {body : List Stmt} {scope : Scope} {dV kV doc pm cdv ct oc : Value} {an od : Option Addr} {osl : Array (Option Value)}
noncomputable abbrev endK (Q : CV → CH → Prop) : KF' := fun fl _ σ' => Q (retOf fl) σ'
theorem CallOk.topW (fz : Bool) (gt : List (Str × CV)) (names : List Str) (hgt : Gt w gt) (ho : (kk.heap_1 w.params).lookup f = some ⟨oc, od, .func (fnOf name qual params body scope dV kV doc pm an cdv ct), osl⟩) (hcd : codeIn (kk.heap_1 w.params) cdv qual = true)
    (hbind : ∀ vs, vs.length = names.length → bindArgs (fnOf name qual params body scope dV kV doc pm an cdv ct) ⟨vs, []⟩ = Pure.pure (names.zip vs)) (hlen : cs.length = names.length) (hn : nmsOk names scope = true)
    (hbody : ∀ c, c.lv + h ≤ 30 → InF w c scope gt → c.nm = qual ∧ c.cd = cdv ∧ c.cmp = none → wp w c X ⟨scope, gt, fz⟩ 100 (.Xs body (endK Q)) (names.zip cs) σ) : CallOk w (h + 1) (.ref f) cs σ Q X :=
  have n := nmsOk_of hn
  CallOk.top ho hcd hbind hlen n.cell n.loc n.nd (fun c hl hc => have i : InF w c scope gt := ⟨hc.1, n.db, n.kind, hgt⟩; i.Xs fz (hbody c hl i hc.2)) n.kind n.co n.gen
theorem CallOk.topW' (fz : Bool) (gt : List (Str × CV)) (names : List Str) {cs' : List CV} (hgt : Gt w gt) (ho : (kk.heap_1 w.params).lookup f = some ⟨oc, od, .func (fnOf name qual params body scope dV kV doc pm an cdv ct), osl⟩) (hcd : codeIn (kk.heap_1 w.params) cdv qual = true)
    (hbind : ∀ T s vs, (kk.heap_1 w.params).In s.heap → VX T cs vs → ∃ vs', VX T cs' vs' ∧ BindsTo s (fnOf name qual params body scope dV kV doc pm an cdv ct) ⟨vs, []⟩ (names.zip vs')) (hn : nmsOk names scope = true)
    (hbody : ∀ c, c.lv + h ≤ 30 → InF w c scope gt → c.nm = qual ∧ c.cd = cdv ∧ c.cmp = none → wp w c X ⟨scope, gt, fz⟩ 100 (.Xs body (endK Q)) (names.zip cs') σ) : CallOk w (h + 1) (.ref f) cs σ Q X :=
  have n := nmsOk_of hn
  CallOk.top' ho hcd hbind n.cell n.loc n.nd (fun c hl hc => have i : InF w c scope gt := ⟨hc.1, n.db, n.kind, hgt⟩; i.Xs fz (hbody c hl i hc.2)) n.kind n.co n.gen
theorem CallOk.topWC (fz : Bool) (gt : List (Str × CV)) (names un : List Str) (hgt : Gt w gt) (ho : (kk.heap_1 w.params).lookup f = some ⟨oc, od, .func (fnOf name qual params body scope dV kV doc pm an cdv ct), osl⟩) (hcd : codeIn (kk.heap_1 w.params) cdv qual = true)
    (hbind : ∀ vs, vs.length = names.length → bindArgs (fnOf name qual params body scope dV kV doc pm an cdv ct) ⟨vs, []⟩ = Pure.pure (names.zip vs)) (hlen : cs.length = names.length) (hn : nmsCOk names un scope = true)
    (hbody : ∀ c, c.lv + h ≤ 30 → InF w c scope gt → c.nm = qual ∧ c.cd = cdv ∧ c.cmp = none → wp w c X ⟨scope, gt, fz⟩ 100 (.Xs body (endK Q)) (names.zip cs ++ un.map fun x => (x, CV.unb)) σ) : CallOk w (h + 1) (.ref f) cs σ Q X := by
  unfold nmsCOk at hn
  simp only [Bool.and_eq_true, beq_iff_eq, decide_eq_true_eq, Bool.not_eq_true', Option.isNone_iff_eq_none] at hn
  refine hide fun Ph hPh => ?_
  obtain ⟨⟨⟨⟨⟨⟨⟨n1, n2⟩, n3⟩, n4⟩, n5⟩, n6⟩, n7⟩, n8⟩ := hn
  refine hPh ?_
  exact CallOk.topC (cn := []) (un := un) ho hcd hbind hlen (kinds_dec n1) (un_dec n2) n3 n4 (fun c hl hc => have i : InF w c scope gt := ⟨hc.1, n8, n5, hgt⟩; i.Xs fz (hbody c hl i hc.2)) n5 n6 n7
end
noncomputable abbrev reS (sc scope : Scope) : Scope := relabel scope { scope := sc, locals := 0, globals := 0, cells := [], code := .none, frame := none }
section
variable {w : World} {c : Cx} {m : Lm} {σ : CH} {X : CH → Prop} {sc scope : Scope}
theorem relabel_of (h : c.sc = sc) : relabel scope c.env = reS sc scope := by subst h; rfl
theorem compOk {caps : List CV} (hsc : c.sc = sc) (hcm : c.cmp = none) (cap : (frees scope.names).reverse.map (fun x => m.lookup x) = caps.map some) (nu : ∀ cv ∈ caps, isUnb cv = false) (kind : scope.kind = .function := by rfl)
    (nc : ∀ x ∈ scope.names, x.2 ≠ .cell := by decide) (names : ∀ x ∈ scope.names, x.2 = .local → scope.names.lookup x.1 = some .local := by decide) (nl : ∀ x ∈ (frees scope.names).reverse, sc.names.lookup x ≠ some .local := by decide)
    (free : ∀ x ∈ (frees scope.names).reverse, (reS sc scope).names.lookup x = some .cell ∨ ((reS sc scope).names.lookup x = some .free ∧ (x == ("__classdict__" : Str)) = false) := by decide) : CompOk c scope m caps :=
  ⟨hcm, kind, nc, names, cap, fun cv h e => by rw [e] at h; exact absurd (nu _ h) (by decide), fun x hx => by refine rwP hsc ?_; exact nl x hx, fun x hx => by refine rwP (relabel_of hsc) ?_; exact free x hx⟩
end
theorem lv {n a b : Nat} (h : n + a ≤ 30) (hab : Nat.ble b a = true) : n + b ≤ 30 := Nat.le_trans (Nat.add_le_add_left (Nat.le_of_ble_eq_true hab) n) h
theorem lvS {n n' a b : Nat} (e : n = n' + 1) (h : n' + a ≤ 30) (hab : Nat.ble (1 + b) a = true) : n + b ≤ 30 := by subst e; rw [Nat.add_assoc]; exact lv h hab
theorem lvE {n n' a b : Nat} (e : n = n') (h : n' + a ≤ 30) (hab : Nat.ble b a = true) : n + b ≤ 30 := by subst e; exact lv h hab
section
variable {σ : CH} {i j : Int} {Q : Bool → Prop}
theorem cmpLt2 (h0 : decide (i < j) = false → Q false) (h1 : decide (i < j) = true → Q true) : cmpQ σ .Lt (.int i) (.int j) Q := cmpLt fun b => b.casesOn h0 h1
theorem cmpLe2 (h0 : decide (i ≤ j) = false → Q false) (h1 : decide (i ≤ j) = true → Q true) : cmpQ σ .LtE (.int i) (.int j) Q := cmpLe fun b => b.casesOn h0 h1
theorem cmpGt2 (h0 : decide (j < i) = false → Q false) (h1 : decide (j < i) = true → Q true) : cmpQ σ .Gt (.int i) (.int j) Q := cmpGt fun b => b.casesOn h0 h1
theorem cmpEq2 (h0 : (i == j) = false → Q false) (h1 : (i == j) = true → Q true) : cmpQ σ .Eq (.int i) (.int j) Q := cmpEq fun b => b.casesOn h0 h1
theorem cmpNeSelf (q : Q false) : cmpQ σ .NotEq (.int i) (.int i) Q := .ne (by rw [bne_self_eq_false]; exact q)
theorem cmpNeS_same {a b : Str} (h : a = b) (q : Q false) : cmpQ σ .NotEq (.str a) (.str b) Q := .neS (by subst h; rw [bne_self_eq_false]; exact q)
theorem cmpEqS_same {a b : Str} (h : a = b) (q : Q true) : cmpQ σ .Eq (.str a) (.str b) Q := .eqS (by subst h; rw [beq_self_eq_true]; exact q)
theorem cmpNeB_same {a : Bool} (q : Q false) : cmpQ σ .NotEq (.bool a) (.bool a) Q := .neB (by rw [bne_self_eq_false]; exact q)
theorem cmpEqS_is {a b : Str} {c : Bool} (h : (a == b) = c) (q : Q c) : cmpQ σ .Eq (.str a) (.str b) Q := .eqS (by refine rwP h ?_; exact q)
theorem cmpLtV (c : Bool) (h : decide (i < j) = c) (q : Q c) : cmpQ σ .Lt (.int i) (.int j) Q := .lt (by refine rwP h ?_; exact q)
theorem cmpLeV (c : Bool) (h : decide (i ≤ j) = c) (q : Q c) : cmpQ σ .LtE (.int i) (.int j) Q := .le (by refine rwP h ?_; exact q)
end
end Mine
end
section
namespace Mine
set_option maxHeartbeats 4000000
theorem fillC (w : World) (h : Heap) : (PySem.Challenge.rw_nm0141_01 = PySem.Challenge.rw_nm0141_01) → (kk.heap_1 w.params).In h → True := by
  k_fill
  intros; trivial
theorem bits_ok {w : World} {σ : CH} {X : CH → Prop} (k : Int) (Q : CV → CH → Prop) (q : Q (.int (if k = -1 then 32 else 64)) σ) : CallOk w 1 (.ref 102) [.int k] σ Q X := by
  refine CallOk.topW true _ ["kind"] (.int g_I32 .nil) (by k_is) (by k_is) (ar1 fun _ => rfl) rfl (by decide) (fun c hl fr hc => ?_)
  refine SE.ifs fr true ?_
  refine cmpEq2 (fun hb => ?_) fun hb => ?_
  · rw [if_neg (by simpa using hb)] at q
    exact q
  · rw [if_pos (by simpa using hb)] at q
    exact q
theorem draw_ok {w : World} {σ : CH} {X : CH → Prop} (ns : List Int) (a b : Int) (Q : CV → CH → Prop) (hσ : σ 1 = some (.dict [("at", .int a)])) (ha : 0 ≤ a) (ha' : a < 2 ^ 40) (hl : ns.length ≤ 63) (hb : 0 < b)
    (q : ∀ r, 0 ≤ r → r < b → Q (.int r) (σ.set 1 (.dict [("at", .int (a + 1))]))) : CallOk w 1 (.ref 566) [.fl (ns.map .int), .ref 1, .int b] σ Q X := by
  refine CallOk.topW true _ ["script", "hand", "below"] (.bi bi_len (by decide) .nil) (by k_is) (by k_is) (ar3 fun _ _ _ => rfl) rfl (by decide) (fun c hl fr hc => ?_)
  have h1 : (σ.set 1 (.dict [("at", .int (a + 1))])) 1 = some (.dict [("at", .int (a + 1))]) := CH.set_self ..
  refine itemDic hσ rfl ?_
  refine SP.mk ⟨_, hσ, Nat.le_of_ble_eq_true rfl, ?_⟩
  refine rwP (show storedC [((Str.ofString "at"), CV.int a)] "at" (.int (a + 1)) = [((Str.ofString "at"), .int (a + 1))] from rfl) ?_
  refine itemDic h1 rfl ?_
  refine SC.mk (CallV.len (l := ns.map .int) rfl (by simp; lia) ?_)
  refine cmpGt fun z hd => ?_
  induction z with
  | true => exact q 0 (by decide) hb
  | false =>
    have hlt := of_decide_eq_false hd
    refine itemDic h1 rfl ?_
    conv => whnf
    have hi : (a + 1 - 1).toNat < ns.length := by simp at hlt; lia
    refine itemFl (cv := .int (ns[(a + 1 - 1).toNat]'hi)) (by lia) (by lia) (by simp [hi]) ?_
    exact SB.mk none (.mod (by lia) (q _ (Int.fmod_nonneg_of_pos _ hb) (Int.fmod_lt_of_pos _ hb)))
theorem limits_ok {w : World} {σ : CH} {X : CH → Prop} (l wl : Int) (m wm : Option Int) (Q : CV → CH → Prop) (q : Q (.bool (limFit l m wl wm)) σ) : CallOk w 1 (.ref 109) [.int l, optC m, .int wl, optC wm] σ Q X := by
  refine CallOk.topW true _ ["least", "most", "wanted_least", "wanted_most"] .nil (by k_is) (by k_is) (ar4 fun _ _ _ _ => rfl) rfl (by decide) (fun c hl fr hc => ?_)
  unfold limFit at q
  refine cmpLt2 (fun hb => ?_) fun hb => ?_
  · rw [if_neg (of_decide_eq_false hb)] at q
    refine (?_ : cmpI _ _ _ _ _)
    induction wm with
    | none => exact .is true rfl q
    | some t =>
      refine .is false rfl ?_
      refine (?_ : cmpI _ _ _ _ _)
      induction m with
      | none => exact .isNot true rfl q
      | some u =>
        refine .isNot false rfl ?_
        exact cmpI.le q
  · rw [if_pos (of_decide_eq_true hb)] at q
    exact q
theorem grown_ok {w : World} {σ : CH} {X : CH → Prop} (size more greatest : Int) (most : Option Int) (Q : CV → CH → Prop) (q : Q (optC (grownV size more most greatest)) σ) : CallOk w 1 (.ref 140) [.int size, .int more, optC most, .int greatest] σ Q X := by
  refine CallOk.topW true _ ["size", "more", "most", "greatest"] .nil (by k_is) (by k_is) (ar4 fun _ _ _ _ => rfl) rfl (by decide) (fun c hl fr hc => ?_)
  unfold grownV at q
  refine cmpLt fun b h1 => ?_
  cases b
  · refine cmpGt fun b h2 => ?_
    cases b
    · rw [h1, h2] at q
      refine (?_ : cmpI _ _ _ _ _)
      induction most with
      | none =>
        refine .isNot true rfl ?_
        exact q
      | some t =>
        refine .isNot false rfl ?_
        refine cmpGt fun b h3 => ?_
        rw [show overC (size + more) (some t) = b from h3] at q
        cases b <;> exact q
    · rw [h1, h2] at q
      exact q
  · rw [h1] at q
    exact q
theorem is_ref_ok {w : World} {σ : CH} {X : CH → Prop} (k : Int) (Q : CV → CH → Prop) (q : Q (.bool (refK k)) σ) : CallOk w 1 (.ref 95) [.int k] σ Q X := by
  refine CallOk.topW true _ ["kind"] (.top g_HEAP_NAMES .nil) (by k_is) (by k_is) (ar1 fun _ => rfl) rfl (by decide) (fun c hl fr hc => ?_)
  conv => whnf
  refine ⟨CmpV.inHeap ?_⟩
  exact q
theorem CV.is_ref {w : World} {c : Cx} {m : Lm} {σ : CH} {X : CH → Prop} {Q : CV → Lm → CH → Prop} {k : Int} (hl : c.lv + 1 ≤ 30) (q : Q (.bool (refK k)) m σ) : SC w c X (.top (.ref 95)) [.int k] Q m σ := ⟨CallV.ok k_is_ref hl (is_ref_ok k _ q)⟩
theorem CV.bits_of {w : World} {c : Cx} {m : Lm} {σ : CH} {X : CH → Prop} {Q : CV → Lm → CH → Prop} {k : Int} (hl : c.lv + 1 ≤ 30) (q : Q (.int (if k = -1 then 32 else 64)) m σ) : SC w c X (.top (.ref 102)) [.int k] Q m σ := ⟨CallV.ok k_bits_of hl (bits_ok k _ q)⟩
theorem does_fit_ok {w : World} {σ : CH} {X : CH → Prop} (k : Int) (v : VV) (Q : CV → CH → Prop) (q : Q (.bool (fitV k v)) σ) : CallOk w 2 (.ref 128) [.int k, v.c] σ Q X := by
  refine CallOk.topW true _ ["kind", "value"] (.top g_is_ref (.top g_bits_of (.int g_I32 (.int g_I64 (.bi bi_isinstance (by decide) (.bi bi_int (by decide) (.bi bi_bool (by decide) .nil))))))) (by k_is) (by k_is) (ar2 fun _ _ => rfl) rfl (by decide) (fun c hl fr hc => ?_)
  refine CV.is_ref (by exact lv ‹_› rfl) ?_
  cases hk : refK k with
  | true =>
    refine (?_ : cmpI _ _ _ _ _)
    cases v with
    | none =>
      refine cmpIs _ rfl ?_
      conv => whnf
      have e : fitV k .none = true := hk
      rw [e] at q
      exact q
    | int i =>
      refine cmpIs _ rfl ?_
      refine SC.mk (CallV.isInt ?_)
      refine SC.mk (CallV.isBoolNo ?_)
      refine cmpLt fun b hb => ?_
      cases b with
      | true =>
        conv => whnf
        have e : fitV k (.int i) = false := by simp [fitV]; intro h; simp at hb; lia
        rw [e] at q
        exact q
      | false =>
        refine CV.is_ref (by exact lv ‹_› rfl) ?_
        refine rwP hk ?_
        have e : fitV k (.int i) = true := by simp [fitV, hk]; simp at hb; lia
        rw [e] at q
        exact q
    | bool b =>
      refine cmpIs _ rfl ?_
      refine SC.mk (CallV.boolInt ?_)
      refine SC.mk (CallV.boolBool ?_)
      exact q
    | str0 =>
      refine cmpIs _ rfl ?_
      refine SC.mk (CallV.strInt ?_)
      exact q
    | lst0 =>
      refine cmpIs _ rfl ?_
      refine SC.mk (CallV.flInt ?_)
      exact q
  | false =>
    refine (?_ : SC _ _ _ _ _ _ _ _)
    cases v with
    | none =>
      refine ⟨CallV.noneInt ?_⟩
      conv => whnf
      have e : fitV k .none = false := hk
      rw [e] at q
      exact q
    | int i =>
      refine ⟨CallV.isInt ?_⟩
      refine SC.mk (CallV.isBoolNo ?_)
      refine cmpLt fun b hb => ?_
      cases b with
      | true =>
        conv => whnf
        have e : fitV k (.int i) = false := by simp [fitV]; intro h; simp at hb; lia
        rw [e] at q
        exact q
      | false =>
        refine CV.is_ref (by exact lv ‹_› rfl) ?_
        refine rwP hk ?_
        refine cmpI.inT (by decide) ?_
        cases hk2 : hasInt k [.int (-1), .int (-2)] with
        | false =>
          have e : fitV k (.int i) = false := by
            simp [hasInt] at hk2
            simp [fitV, hk]; intro _ h; rcases h with h | h <;> simp [h] at hk2
          rw [e] at q
          exact q
        | true =>
          refine CV.bits_of (by exact lv ‹_› rfl) ?_
          have hkk : k = -1 ∨ k = -2 := by
            simp [hasInt] at hk2; lia
          have hi : 0 ≤ i := by simp at hb; lia
          have e : fitV k (.int i) = decide (i < 1 * 2 ^ (if k = -1 then (32 : Int) else 64).toNat) := by
            simp [fitV, hk, hi]; rcases hkk with rfl | rfl <;> simp
          conv => whnf
          refine ⟨none, .shl (by split <;> lia) (by split <;> lia) (by decide) ?_⟩
          refine cmpI.lt ?_
          rw [e] at q
          exact q
    | bool b =>
      refine ⟨CallV.boolInt ?_⟩
      refine SC.mk (CallV.boolBool ?_)
      exact q
    | str0 =>
      refine ⟨CallV.strInt ?_⟩
      exact q
    | lst0 =>
      refine ⟨CallV.flInt ?_⟩
      exact q
theorem CV.does_fit {w : World} {c : Cx} {m : Lm} {σ : CH} {X : CH → Prop} {Q : CV → Lm → CH → Prop} {k : Int} {v : VV} (hl : c.lv + 2 ≤ 30) (q : Q (.bool (fitV k v)) m σ) : SC w c X (.top (.ref 128)) [.int k, v.c] Q m σ := ⟨CallV.ok k_does_fit hl (does_fit_ok k v _ q)⟩
noncomputable def fitsV (ks : List Int) (vs : List VV) : Bool := ks.length == vs.length && (ks.zip vs).all fun p => fitV p.1 p.2
theorem zipV (ks : List Int) (vs : List VV) : pairsC (ks.map CV.int) (vs.map VV.c) = (ks.zip vs).map fun p => CV.tup [.int p.1, p.2.c] := by
  unfold pairsC
  refine rwP List.zip_map ?_
  simp [Function.comp_def]
theorem do_fit_fl {w : World} {σ : CH} {X : CH → Prop} (ks : List Int) (vs : List VV) (Q : CV → CH → Prop) (hF : Free σ) (hk : ks.length ≤ 1000000) (hv : vs.length ≤ 1000000)
    (q : ∀ σ', Up σ σ' → Q (.bool (fitsV ks vs)) σ') : CallOk w 4 (.ref 133) [.tup (ks.map CV.int), .fl (vs.map VV.c)] σ Q X := by
  refine CallOk.topW true _ ["kinds", "values"] (.bi bi_all (by decide) (.top g_does_fit (.bi bi_len (by decide) (.bi bi_zip (by decide) .nil)))) (by k_is) (by k_is) (ar2 fun _ _ => rfl) rfl (by decide) (fun c hl fr hc => ?_)
  obtain ⟨hnm, hcd, hcm⟩ := hc
  refine SC.mk (CallV.len (l := ks.map CV.int) rfl (by simpa using hk) ?_)
  refine SC.mk (CallV.len (l := vs.map VV.c) rfl (by simpa using hv) ?_)
  refine cmpNe fun b hb => ?_
  simp only [List.length_map] at hb
  cases b
  · refine (?_ : SE _ _ _ _ _ _ _)
    have he : ks.length = vs.length := by rw [bne_eq_false_iff_eq] at hb; lia
    refine ⟨EV.comp (caps := []) ⟨hcm, rfl, by decide, by decide, rfl, nofun, nofun, nofun⟩ (fr.E true ?_) (by intro _; rfl)⟩
    refine (?_ : SC _ _ _ _ _ _ _ _)
    refine hide fun Ph hPh => ?_
    obtain ⟨n, hn1, hn⟩ := hF.pick
    refine hPh ?_
    refine ⟨CallV.zip (n := n) hn ?_⟩
    refine ⟨n, _, _, _, _, iter_zip (k := 0) (l1 := ks.map CV.int) (l2 := vs.map VV.c) (CH.set_self ..), CH.set_self .., src_zit _ _ _ _ rfl (Nat.zero_le _), itr_zit, ?_, ?_⟩
    · refine rwP List.drop_zero ?_; rewrite [zipV, List.length_map]; refine rwP List.length_zip ?_; lia
    refine rwP List.drop_zero ?_; rw [zipV]
    refine CW.map (fun p : Int × VV => CV.tup [.int p.1, p.2.c]) (fun p => CV.bool (fitV p.1 p.2)) (fun σ' => Up σ σ') (fun _ _ => trivial) (fun _ _ h k => h.tmp hn1 hn k) _ _ _ _ ?_ (Up.new hF hn1 hn _) ?_
    · rintro ⟨k, v⟩ _ c2 ⟨hs2, hl2⟩ m σ2 o hu ho K hK
      rw [relabel_of fr.hs] at hs2
      have i2 : InF w c2 _ _ := ⟨hs2, rfl, rfl, fr.gt⟩
      refine AV.tup (l := [.int k, v.c]) rfl rfl (AVs.cons (AV.name (StOk.loc hs2 rfl) (AVs.cons (AV.name (StOk.loc hs2 rfl) (AVs.nil (i2.E true ?_))) (by rfl))) (by rfl))
      refine CV.does_fit (by exact lvE ‹_› ‹_› rfl) ?_
      exact hK _ _ hu ho
    · intro σ' s
      rewrite [List.nil_append]; refine rwP (show (ks.zip vs).map (fun p => CV.bool (fitV p.1 p.2)) = ((ks.zip vs).map fun p => fitV p.1 p.2).map CV.bool by refine rwP List.map_map ?_; rfl) ?_
      refine SC.mk (CallV.all ?_)
      have : fitsV ks vs = ((ks.zip vs).map fun p => fitV p.1 p.2).all id := by
        unfold fitsV; refine rwP he ?_; refine rwP List.all_map ?_; simp
      refine rwB this ?_; exact q _ s
  · conv => whnf
    have : fitsV ks vs = false := by simp [fitsV]; intro h; simp [h] at hb
    refine rwB this ?_; exact q _ (Up.refl hF)
theorem cell_init {w : World} {σ : CH} {X : CH → Prop} {n : Nat} (k mu v : CV) (Q : CV → CH → Prop) (hk : isUnb k = false) (hm : isUnb mu = false) (hv : isUnb v = false) (h : σ n = some (.inst 388 []))
    (q : ∀ σ', σ' n = some (.inst 388 [("kind", k), ("mutable", mu), ("value", v)]) → (∀ j, j ≠ n → σ' j = σ j) → Q .none σ') : CallOk w 1 (.ref 357) [.ref n, k, mu, v] σ Q X := by
  refine CallOk.topW true _ ["self", "kind", "mutable", "value"] .nil (by k_is) (by k_is) (ar4 fun _ _ _ _ => rfl) rfl (by decide) (fun c hl fr hc => ?_)
  obtain ⟨hnm, hcd, hcm⟩ := hc
  refine SS.mk (by with_reducible assumption) st_Cell_kind (by exact rfl) ?_; refine SS.mk (by exact CH.set_self ..) st_Cell_mutable (by exact rfl) ?_; refine SS.mk (by exact CH.set_self ..) st_Cell_value (by exact rfl) ?_
  exact q _ (CH.set_self ..) fun j hj => by refine rwP (CH.set_ne _ _ hj) ?_; refine rwP (CH.set_ne _ _ hj) ?_; refine rwP (CH.set_ne _ _ hj) ?_; rfl
theorem cell_kind {w : World} {σ : CH} {X : CH → Prop} {n : Nat} (k mu : Int) (v : CV) (Q : CV → CH → Prop) (h : σ n = some (celO k mu v))
    (q : Q (.tup [.int k, .int mu]) σ) : CallOk w 1 (.ref 364) [.ref n] σ Q X := by
  refine CallOk.topW true _ ["self"] .nil (by k_is) (by k_is) (ar1 fun _ => rfl) rfl (by decide) (fun c hl fr hc => ?_)
  obtain ⟨hnm, hcd, hcm⟩ := hc
  refine SG.mk (by with_reducible assumption) at_Cell_kind (by exact rfl) (by exact nT rfl) ?_; refine SG.mk (by with_reducible assumption) at_Cell_mutable (by exact rfl) (by exact nT rfl) ?_
  exact q
theorem cell_get {w : World} {σ : CH} {X : CH → Prop} {n : Nat} (k mu : Int) (v : VV) (Q : CV → CH → Prop) (h : σ n = some (celO k mu v.c))
    (q : Q v.c σ) : CallOk w 1 (.ref 371) [.ref n] σ Q X := by
  refine CallOk.topW true _ ["self"] .nil (by k_is) (by k_is) (ar1 fun _ => rfl) rfl (by decide) (fun c hl fr hc => ?_)
  obtain ⟨hnm, hcd, hcm⟩ := hc
  refine SG.mk (by with_reducible assumption) at_Cell_value (by exact rfl) (by exact VV.notTop _) ?_
  exact q
theorem cell_plain {w : World} {σ : CH} {X : CH → Prop} {n : Nat} (k mu : Int) (v : VV) (Q : CV → CH → Prop) (h : σ n = some (celO k mu v.c))
    (q : Q (.tup [.int k, .int mu, v.c]) σ) : CallOk w 1 (.ref 385) [.ref n] σ Q X := by
  refine CallOk.topW true _ ["self"] .nil (by k_is) (by k_is) (ar1 fun _ => rfl) rfl (by decide) (fun c hl fr hc => ?_)
  obtain ⟨hnm, hcd, hcm⟩ := hc
  refine SG.mk (by with_reducible assumption) at_Cell_kind (by exact rfl) (by exact nT rfl) ?_; refine SG.mk (by with_reducible assumption) at_Cell_mutable (by exact rfl) (by exact nT rfl) ?_; refine SG.mk (by with_reducible assumption) at_Cell_value (by exact rfl) (by exact VV.notTop _) ?_
  exact q
theorem cell_put {w : World} {σ : CH} {X : CH → Prop} {n : Nat} (k mu : Int) (u v : VV) (Q : CV → CH → Prop) (h : σ n = some (celO k mu u.c))
    (q : mu ≠ 0 → fitV k v = true → ∀ σ', σ' n = some (celO k mu v.c) → (∀ j, j ≠ n → σ' j = σ j) → Q .none σ')
    (qX : (mu = 0 ∨ fitV k v = false) → X σ) : CallOk w 3 (.ref 378) [.ref n, v.c] σ Q X := by
  refine CallOk.topW true _ ["self", "value"] (.top g_Misused (.top g_does_fit .nil)) (by k_is) (by k_is) (ar2 fun _ _ => rfl) rfl (by decide) (fun c hl fr hc => ?_)
  obtain ⟨hnm, hcd, hcm⟩ := hc
  refine SG.mk (by with_reducible assumption) at_Cell_mutable (by exact rfl) (by exact nT rfl) ?_
  refine cmpEq2 (fun hb => ?_) fun hb => ?_
  · refine SG.mk (by with_reducible assumption) at_Cell_kind (by exact rfl) (by exact nT rfl) ?_
    refine CV.does_fit (by exact lv ‹_› rfl) ?_
    cases hf : fitV k v
    · refine SX.mk (XV.raise2 (InF.hs ‹_›) rfl ?_)
      exact qX (.inr hf)
    · refine SS.mk (by with_reducible assumption) st_Cell_value (by exact rfl) ?_
      exact q (by simpa using hb) hf _ (CH.set_self ..) fun j hj => CH.set_ne _ _ hj
  · refine SX.mk (XV.raise2 (InF.hs ‹_›) rfl ?_)
    exact qX (.inl (by simpa using hb))
theorem CV.grown {w : World} {c : Cx} {m : Lm} {σ : CH} {X : CH → Prop} {Q : CV → Lm → CH → Prop} {size more greatest : Int} {most : Option Int} (hl : c.lv + 1 ≤ 30) (q : Q (optC (grownV size more most greatest)) m σ) : SC w c X (.top (.ref 140)) [.int size, .int more, optC most, .int greatest] Q m σ := ⟨CallV.ok k_grown hl (grown_ok _ _ _ _ _ q)⟩
theorem table_init {w : World} {σ : CH} {X : CH → Prop} {n s j : Nat} (k l pg : Int) (mo : Option Int) (Q : CV → CH → Prop) (h : σ n = some (.inst 339 [])) (hs : σ s = some (szO pg)) (hj : σ j = none) (h0 : 0 ≤ l) (h1 : l ≤ 100)
    (q : l ≤ 6 → ∀ σ', σ' n = some (tabO k mo 6 j) → σ' j = some (.list (List.replicate l.toNat .none)) → (∀ i, i ≠ n → i ≠ j → σ' i = σ i) → Q .none σ')
    (qX : 6 < l → X σ) : CallOk w 1 (.ref 266) [.ref n, .int k, .int l, optC mo, .ref s] σ Q X := by
  refine CallOk.topW true _ ["self", "kind", "least", "most", "sizes"] (.top g_Misused .nil) (by k_is) (by k_is) (ar5 fun _ _ _ _ _ => rfl) rfl (by decide) (fun c hl fr hc => ?_)
  obtain ⟨hnm, hcd, hcm⟩ := hc
  refine SG.mk (by with_reducible assumption) at_Sizes_elements (by exact rfl) (by exact nT rfl) ?_
  refine cmpGt fun b hb => ?_
  have hsn : s ≠ n := by rintro rfl; rw [h] at hs; cases hs
  have hjn : j ≠ n := by rintro rfl; rw [h] at hj; injection hj
  have hnj := hjn.symm
  cases b
  · refine SS.mk (by with_reducible assumption) st_Table_kind (by exact rfl) ?_; refine SS.mk (by exact CH.set_self ..) st_Table_most (by exact rfl) ?_; refine SG.mk (by exact (CH.set_ne _ _ ‹_›).trans ((CH.set_ne _ _ ‹_›).trans (by with_reducible assumption))) at_Sizes_elements (by exact rfl) (by exact nT rfl) ?_; refine SS.mk (by exact CH.set_self ..) st_Table_elements (by exact rfl) ?_
    refine SB.mk (some j) (binMul _ h0 (by exact Int.le_trans ‹_› (by decide)) ⟨by exact (CH.set_ne _ _ ‹_›).trans ((CH.set_ne _ _ ‹_›).trans ((CH.set_ne _ _ ‹_›).trans (by with_reducible assumption))), ?_⟩)
    refine SS.mk (by exact (CH.set_ne _ _ ‹_›).trans (CH.set_self ..)) st_Table_items (by exact rfl) ?_; conv => whnf
    have hb' : l ≤ 6 := by have := of_decide_eq_false hb; lia
    refine q hb' _ (CH.set_self ..) ?_ fun i h1 h2 => ?_
    · exact (CH.set_ne _ _ ‹_›).trans (CH.set_self ..)
    · repeat (refine (CH.set_ne _ _ ‹_›).trans ?_)
      rfl
  · refine SX.mk (XV.raise2 (InF.hs ‹_›) rfl ?_)
    exact qX (of_decide_eq_true hb)
theorem table_kind {w : World} {σ : CH} {X : CH → Prop} {n j : Nat} (k e : Int) (mo : Option Int) (its : List CV) (Q : CV → CH → Prop) (h : σ n = some (tabO k mo e j)) (hj : σ j = some (.list its)) (hz : its.length ≤ 1000)
    (q : Q (.tup [.int k, .int its.length, optC mo]) σ) : CallOk w 1 (.ref 280) [.ref n] σ Q X := by
  refine CallOk.topW true _ ["self"] (.bi bi_len (by decide) .nil) (by k_is) (by k_is) (ar1 fun _ => rfl) rfl (by decide) (fun c hl fr hc => ?_)
  obtain ⟨hnm, hcd, hcm⟩ := hc
  refine SG.mk (by with_reducible assumption) at_Table_kind (by exact rfl) (by exact nT rfl) ?_; refine SG.mk (by with_reducible assumption) at_Table_items (by exact rfl) (by exact nT rfl) ?_
  refine SC.mk (CallV.len (show itemsOf _ (.ref j) its from hj) (by exact Nat.le_trans ‹_› (by decide)) ?_)
  refine SG.mk (by with_reducible assumption) at_Table_most (by exact rfl) (by exact optC_notTop _) ?_
  exact q
theorem table_plain {w : World} {σ : CH} {X : CH → Prop} {n j : Nat} (k e : Int) (mo : Option Int) (its : List CV) (Q : CV → CH → Prop) (h : σ n = some (tabO k mo e j)) (hj : σ j = some (.list its)) (hz : its.length ≤ 1000)
    (q : Q (.tup [.int k, optC mo, .tup its]) σ) : CallOk w 1 (.ref 336) [.ref n] σ Q X := by
  refine CallOk.topW true _ ["self"] (.bi bi_tuple (by decide) .nil) (by k_is) (by k_is) (ar1 fun _ => rfl) rfl (by decide) (fun c hl fr hc => ?_)
  obtain ⟨hnm, hcd, hcm⟩ := hc
  refine SG.mk (by with_reducible assumption) at_Table_kind (by exact rfl) (by exact nT rfl) ?_; refine SG.mk (by with_reducible assumption) at_Table_most (by exact rfl) (by exact optC_notTop _) ?_; refine SG.mk (by with_reducible assumption) at_Table_items (by exact rfl) (by exact nT rfl) ?_
  refine SC.mk (CallV.tupleOf (show itemsOf _ (.ref j) its from hj) (by exact Nat.le_trans ‹_› (by decide)) (fun _ h => nomatch h) ?_)
  exact q
theorem table_grow {w : World} {σ : CH} {X : CH → Prop} {n j : Nat} (k e more : Int) (mo : Option Int) (its : List CV) (Q : CV → CH → Prop) (h : σ n = some (tabO k mo e j)) (hj : σ j = some (.list its)) (hz : its.length ≤ 1000) (he : e ≤ 900)
    (q0 : grownV its.length more mo e = none → Q (.int 4294967295) σ) (q1 : 0 ≤ more → grownV its.length more mo e = some (its.length + more) → Q (.int its.length) (σ.set j (.list (its ++ List.replicate more.toNat .none)))) : CallOk w 3 (.ref 308) [.ref n, .int more, .none] σ Q X := by
  refine CallOk.topW true _ ["self", "more", "value"] (.int g_REFUSED (.top g_grown (.bi bi_len (by decide) .nil))) (by k_is) (by k_is) (ar3 fun _ _ _ => rfl) rfl (by decide) (fun c hl fr hc => ?_)
  obtain ⟨hnm, hcd, hcm⟩ := hc
  refine SG.mk (by with_reducible assumption) at_Table_items (by exact rfl) (by exact nT rfl) ?_
  refine SC.mk (CallV.len (show itemsOf _ (.ref j) its from hj) (by exact Nat.le_trans ‹_› (by decide)) ?_)
  refine SG.mk (by with_reducible assumption) at_Table_most (by exact rfl) (by exact optC_notTop _) ?_; refine SG.mk (by with_reducible assumption) at_Table_elements (by exact rfl) (by exact nT rfl) ?_
  refine CV.grown (by exact lv ‹_› rfl) ?_
  cases hg : grownV its.length more mo e with
  | none =>
    refine cmpIs true rfl ?_
    exact q0 hg
  | some t =>
    refine cmpIs false rfl ?_
    have hm : 0 ≤ more ∧ (its.length : Int) + more ≤ e ∧ t = its.length + more := by
      unfold grownV at hg
      split at hg
      · injection hg
      · rename_i hh; simp only [Bool.or_eq_true, decide_eq_true_eq, not_or] at hh; obtain rfl := Option.some.inj hg; exact ⟨by lia, by lia, rfl⟩
    refine hide fun Ph hPh => ?_
    obtain ⟨hm0, hm1, rfl⟩ := hm
    refine hPh ?_
    refine SG.mk (by with_reducible assumption) at_Table_items (by exact rfl) (by exact nT rfl) ?_
    refine SM.mk (MethV.lext (by with_reducible assumption) ?_)
    refine SB.mk none (binMul _ hm0 (by lia) ?_)
    refine SC.mk (CallV.extend hj ‹_› (by refine rwP List.length_replicate ?_; lia) ?_)
    exact q1 hm0 hg
theorem of_sort_ok {w : World} {σ : CH} {X : CH → Prop} (ls : List CV) (s : Int) (Q : CV → CH → Prop) (hz : ls.length ≤ 1000) (q : ∀ cv, 0 ≤ s → ls[s.toNat]? = some cv → Q cv σ) (qX : ¬(0 ≤ s ∧ s < ls.length) → X σ) : CallOk w 1 (.ref 147) [.tup ls, .int s] σ Q X := by
  refine CallOk.topW true _ ["lists", "sort"] (.top g_Misused (.bi bi_len (by decide) .nil)) (by k_is) (by k_is) (ar2 fun _ _ => rfl) rfl (by decide) (fun c hl fr hc => ?_)
  obtain ⟨hnm, hcd, hcm⟩ := hc
  refine cmpLe2 (fun hb => ?_) fun hb => ?_
  · refine SX.mk (XV.raise2 (InF.hs ‹_›) rfl ?_)
    exact qX fun h => of_decide_eq_false hb h.1
  · have h0 := of_decide_eq_true hb
    refine SC.mk (CallV.len (l := ls) rfl (by exact Nat.le_trans ‹_› (by decide)) ?_)
    refine cmpLt2 (fun hb => ?_) fun hb => ?_
    · refine SX.mk (XV.raise2 (InF.hs ‹_›) rfl ?_)
      exact qX fun h => of_decide_eq_false hb h.2
    · have h1 := of_decide_eq_true hb
      have h2 : s.toNat < ls.length := by lia
      refine itemTup h0 (by lia) (List.getElem?_eq_getElem h2) ?_
      exact q _ h0 (List.getElem?_eq_getElem h2)
theorem CV.of_sort {w : World} {c : Cx} {m : Lm} {σ : CH} {X : CH → Prop} {Q : CV → Lm → CH → Prop} {ls : List CV} {s : Int} (hl : c.lv + 1 ≤ 30) (hz : ls.length ≤ 1000) (q : ∀ cv, 0 ≤ s → ls[s.toNat]? = some cv → Q cv m σ) (qX : ¬(0 ≤ s ∧ s < ls.length) → X σ) : SC w c X (.top (.ref 147)) [.tup ls, .int s] Q m σ := ⟨CallV.ok k_of_sort hl (of_sort_ok _ _ _ hz q qX)⟩
theorem host_init {w : World} {σ : CH} {X : CH → Prop} {n : Nat} (k act : CV) (Q : CV → CH → Prop) (hk : isUnb k = false) (ha : isUnb act = false) (h : σ n = some (.inst 423 []))
    (q : ∀ σ', σ' n = some (hosO k act) → (∀ j, j ≠ n → σ' j = σ j) → Q .none σ') : CallOk w 1 (.ref 406) [.ref n, k, act] σ Q X := by
  refine CallOk.topW true _ ["self", "kind", "action"] .nil (by k_is) (by k_is) (ar3 fun _ _ _ => rfl) rfl (by decide) (fun c hl fr hc => ?_)
  obtain ⟨hnm, hcd, hcm⟩ := hc
  refine SS.mk (by with_reducible assumption) st_HostFunc_kind (by exact rfl) ?_; refine SS.mk (by exact CH.set_self ..) st_HostFunc_action (by exact rfl) ?_
  exact q _ (CH.set_self ..) fun j hj => by refine rwP (CH.set_ne _ _ hj) ?_; refine rwP (CH.set_ne _ _ hj) ?_; rfl
theorem sizes_init {w : World} {σ : CH} {X : CH → Prop} {n : Nat} (pg : Int) (Q : CV → CH → Prop) (h : σ n = some (.inst 84 []))
    (q : ∀ σ', σ' n = some (szO pg) → (∀ j, j ≠ n → σ' j = σ j) → Q .none σ') : CallOk w 1 (.ref 81) [.ref n, .int pg, .int 5, .int 6] σ Q X := by
  refine CallOk.topW' true _ ["self", "page", "pages", "elements", "depth", "fuel"] (cs' := [.ref n, .int pg, .int 5, .int 6, .int 200, .none]) .nil (by k_is) (by k_is) (fun T s vs XX ra => ?_) (by decide) (fun c hl fr hc => ?_)
  · obtain ⟨v1, l1, rfl, r1, ra⟩ := ra.cons_inv
    obtain ⟨v2, l2, rfl, r2, ra⟩ := ra.cons_inv
    obtain ⟨v3, l3, rfl, r3, ra⟩ := ra.cons_inv
    obtain ⟨v4, l4, rfl, r4, ra⟩ := ra.cons_inv
    obtain rfl := ra.nil_inv
    refine ⟨[v1, v2, v3, v4, .int 200 299, .none], .cons r1 (.cons r2 (.cons r3 (.cons r4 (.atom ⟨_, rfl⟩ (.atom rfl .nil))))), ?_⟩
    exact binds_K XX rfl (by k_is) rfl rfl rfl
  obtain ⟨hnm, hcd, hcm⟩ := hc
  refine SS.mk (by with_reducible assumption) st_Sizes_page (by exact rfl) ?_; refine SS.mk (by exact CH.set_self ..) st_Sizes_pages (by exact rfl) ?_; refine SS.mk (by exact CH.set_self ..) st_Sizes_elements (by exact rfl) ?_; refine SS.mk (by exact CH.set_self ..) st_Sizes_depth (by exact rfl) ?_; refine SS.mk (by exact CH.set_self ..) st_Sizes_fuel (by exact rfl) ?_
  exact q _ (CH.set_self ..) fun j hj => by refine rwP (CH.set_ne _ _ hj) ?_; refine rwP (CH.set_ne _ _ hj) ?_; refine rwP (CH.set_ne _ _ hj) ?_; refine rwP (CH.set_ne _ _ hj) ?_; refine rwP (CH.set_ne _ _ hj) ?_; rfl
theorem store_things {w : World} {σ : CH} {X : CH → Prop} {n s f t mm g : Nat} (i : Int) (Q : CV → CH → Prop) (h : σ n = some (stoO s f t mm g))
    (q : ∀ cv, 0 ≤ i → ([CV.ref f, .ref t, .ref mm, .ref g])[i.toNat]? = some cv → Q cv σ) (qX : ¬(0 ≤ i ∧ i < 4) → X σ) : CallOk w 2 (.ref 449) [.ref n, .int i] σ Q X := by
  refine CallOk.topW true _ ["self", "sort"] (.top g_of_sort .nil) (by k_is) (by k_is) (ar2 fun _ _ => rfl) rfl (by decide) (fun c hl fr hc => ?_)
  obtain ⟨hnm, hcd, hcm⟩ := hc
  refine SG.mk (by with_reducible assumption) at_Store_funcs (by exact rfl) (by exact nT rfl) ?_; refine SG.mk (by with_reducible assumption) at_Store_tables (by exact rfl) (by exact nT rfl) ?_; refine SG.mk (by with_reducible assumption) at_Store_memories (by exact rfl) (by exact nT rfl) ?_; refine SG.mk (by with_reducible assumption) at_Store_globals (by exact rfl) (by exact nT rfl) ?_
  exact CV.of_sort (by exact lv ‹_› rfl) (Nat.le_of_ble_eq_true rfl) q qX
theorem CV.things {w : World} {c : Cx} {m : Lm} {σ : CH} {X : CH → Prop} {Q : CV → Lm → CH → Prop} {n s f t mm g : Nat} {i : Int} (hl : c.lv + 2 ≤ 30) (h : σ n = some (stoO s f t mm g))
    (q : ∀ cv, 0 ≤ i → ([CV.ref f, .ref t, .ref mm, .ref g])[i.toNat]? = some cv → Q cv m σ) (qX : ¬(0 ≤ i ∧ i < 4) → X σ) : SC w c X (.top (.ref 449)) [.ref n, .int i] Q m σ := ⟨CallV.ok km_Store_things hl (store_things _ _ h q qX)⟩
theorem store_thing {w : World} {σ : CH} {X : CH → Prop} {n s f t mm g : Nat} (i a : Int) (Q : CV → CH → Prop) (h : σ n = some (stoO s f t mm g)) (L : Nat → List CV)
    (hL : ∀ k cv, ([CV.ref f, .ref t, .ref mm, .ref g])[k]? = some cv → ∃ j, cv = .ref j ∧ σ j = some (.list (L k)) ∧ (L k).length ≤ 1000)
    (q : ∀ cv, 0 ≤ i → i < 4 → 0 ≤ a → (L i.toNat)[a.toNat]? = some cv → Q cv σ) (qX : ¬(0 ≤ i ∧ i < 4 ∧ 0 ≤ a ∧ a < (L i.toNat).length) → X σ) : CallOk w 3 (.ref 456) [.ref n, .int i, .int a] σ Q X := by
  refine CallOk.topW true _ ["self", "sort", "address"] (.top g_Misused (.bi bi_len (by decide) .nil)) (by k_is) (by k_is) (ar3 fun _ _ _ => rfl) rfl (by decide) (fun c hl fr hc => ?_)
  obtain ⟨hnm, hcd, hcm⟩ := hc
  refine SM.mk (MethV.own (by with_reducible assumption) me_Store_things rfl ?_)
  refine CV.things (by exact lv ‹_› rfl) h (fun cv hi0 hcv => ?_) fun hi => qX fun hh => hi ⟨hh.1, hh.2.1⟩
  obtain ⟨j, rfl, hj, hz⟩ := hL _ _ hcv
  have hi4 : i < 4 := by
    have := (List.getElem?_eq_some_iff.mp hcv).1
    simp only [List.length_cons, List.length_nil] at this; lia
  refine cmpLe2 (fun hb => ?_) fun hb => ?_
  · refine SX.mk (XV.raise2 (InF.hs ‹_›) rfl ?_)
    exact qX fun h => of_decide_eq_false hb h.2.2.1
  · have h0 := of_decide_eq_true hb
    refine SC.mk (CallV.len (l := L i.toNat) hj (by exact Nat.le_trans ‹_› (by decide)) ?_)
    refine cmpLt2 (fun hb => ?_) fun hb => ?_
    · refine SX.mk (XV.raise2 (InF.hs ‹_›) rfl ?_)
      exact qX fun h => of_decide_eq_false hb h.2.2.2
    · have h1 := of_decide_eq_true hb
      have h2 : a.toNat < (L i.toNat).length := by lia
      refine itemNam hj h0 (by lia) (List.getElem?_eq_getElem h2) ?_
      exact q _ hi0 hi4 h0 (List.getElem?_eq_getElem h2)
theorem store_added {w : World} {σ : CH} {X : CH → Prop} {n s f t mm g : Nat} (i : Int) (j : Nat) (l : List CV) (cv : CV) (Q : CV → CH → Prop) (h : σ n = some (stoO s f t mm g)) (hcv : isUnb cv = false)
    (hj : ([CV.ref f, .ref t, .ref mm, .ref g])[i.toNat]? = some (.ref j)) (h0 : 0 ≤ i) (hlj : σ j = some (.list l)) (hz : l.length ≤ 1000)
    (q : Q (.int l.length) (σ.set j (.list (l ++ [cv])))) : CallOk w 4 (.ref 463) [.ref n, .int i, cv] σ Q X := by
  refine CallOk.topW true _ ["self", "sort", "thing"] (.bi bi_len (by decide) .nil) (by k_is) (by k_is) (ar3 fun _ _ _ => rfl) rfl (by decide) (fun c hl fr hc => ?_)
  obtain ⟨hnm, hcd, hcm⟩ := hc
  refine SM.mk (MethV.own (by with_reducible assumption) me_Store_things rfl ?_)
  refine CV.things (by exact lv ‹_› rfl) h (fun cv' hi0 hcv' => ?_) fun hi => absurd ?_ hi
  · rw [hj] at hcv'; obtain rfl := Option.some.inj hcv'
    refine SM.mk (MethV.lapp (by with_reducible assumption) ?_)
    refine SC.mk (CallV.append hlj (by refine rwP sizeLine_eq ?_; lia) ?_)
    refine SC.mk (CallV.len (l := l ++ [cv]) (CH.set_self ..) (by refine rwP List.length_append ?_; show l.length + 1 ≤ _; lia) ?_)
    conv => whnf
    refine rwP List.length_append ?_; refine rwP (show ((l.length + [cv].length : Nat) : Int) - 1 = l.length by simp) ?_
    exact q
  · have := (List.getElem?_eq_some_iff.mp hj).1
    simp only [List.length_cons, List.length_nil] at this
    exact ⟨h0, by lia⟩
theorem CV.added {w : World} {c : Cx} {m : Lm} {σ : CH} {X : CH → Prop} {Q : CV → Lm → CH → Prop} {n s f t mm g : Nat} {i : Int} {j : Nat} {l : List CV} {cv : CV} (hlv : c.lv + 4 ≤ 30) (h : σ n = some (stoO s f t mm g)) (hcv : isUnb cv = false)
    (hj : ([CV.ref f, .ref t, .ref mm, .ref g])[i.toNat]? = some (.ref j)) (h0 : 0 ≤ i) (hl : σ j = some (.list l)) (hz : l.length ≤ 1000)
    (q : Q (.int l.length) m (σ.set j (.list (l ++ [cv])))) : SC w c X (.top (.ref 463)) [.ref n, .int i, cv] Q m σ := ⟨CallV.ok km_Store_added hlv (store_added i j l cv _ h hcv hj h0 hl hz q)⟩
theorem add_func_ok {w : World} {σ : CH} {X : CH → Prop} {n s f t mm g : Nat} (l : List CV) (cv : CV) (Q : CV → CH → Prop) (h : σ n = some (stoO s f t mm g)) (hcv : isUnb cv = false) (hlj : σ f = some (.list l)) (hz : l.length ≤ 1000)
    (q : Q (.int l.length) (σ.set f (.list (l ++ [cv])))) : CallOk w 5 (.ref 470) [.ref n, cv] σ Q X := by
  refine CallOk.topW true _ ["self", "func"] (.int g_FUNCTION .nil) (by k_is) (by k_is) (ar2 fun _ _ => rfl) rfl (by decide) (fun c hl fr hc => ?_)
  obtain ⟨hnm, hcd, hcm⟩ := hc
  refine SM.mk (MethV.own (by with_reducible assumption) me_Store_added rfl ?_)
  exact CV.added (by exact lv ‹_› rfl) h hcv rfl (by decide) hlj hz q
theorem add_table_ok {w : World} {σ : CH} {X : CH → Prop} {n s f t mm g : Nat} (l : List CV) (cv : CV) (Q : CV → CH → Prop) (h : σ n = some (stoO s f t mm g)) (hcv : isUnb cv = false) (hlj : σ t = some (.list l)) (hz : l.length ≤ 1000)
    (q : Q (.int l.length) (σ.set t (.list (l ++ [cv])))) : CallOk w 5 (.ref 477) [.ref n, cv] σ Q X := by
  refine CallOk.topW true _ ["self", "table"] (.int g_TABLE .nil) (by k_is) (by k_is) (ar2 fun _ _ => rfl) rfl (by decide) (fun c hl fr hc => ?_)
  obtain ⟨hnm, hcd, hcm⟩ := hc
  refine SM.mk (MethV.own (by with_reducible assumption) me_Store_added rfl ?_)
  exact CV.added (by exact lv ‹_› rfl) h hcv rfl (by decide) hlj hz q
theorem add_memory_ok {w : World} {σ : CH} {X : CH → Prop} {n s f t mm g : Nat} (l : List CV) (cv : CV) (Q : CV → CH → Prop) (h : σ n = some (stoO s f t mm g)) (hcv : isUnb cv = false) (hlj : σ mm = some (.list l)) (hz : l.length ≤ 1000)
    (q : Q (.int l.length) (σ.set mm (.list (l ++ [cv])))) : CallOk w 5 (.ref 484) [.ref n, cv] σ Q X := by
  refine CallOk.topW true _ ["self", "memory"] (.int g_MEMORY .nil) (by k_is) (by k_is) (ar2 fun _ _ => rfl) rfl (by decide) (fun c hl fr hc => ?_)
  obtain ⟨hnm, hcd, hcm⟩ := hc
  refine SM.mk (MethV.own (by with_reducible assumption) me_Store_added rfl ?_)
  exact CV.added (by exact lv ‹_› rfl) h hcv rfl (by decide) hlj hz q
theorem add_global_ok {w : World} {σ : CH} {X : CH → Prop} {n s f t mm g : Nat} (l : List CV) (cv : CV) (Q : CV → CH → Prop) (h : σ n = some (stoO s f t mm g)) (hcv : isUnb cv = false) (hlj : σ g = some (.list l)) (hz : l.length ≤ 1000)
    (q : Q (.int l.length) (σ.set g (.list (l ++ [cv])))) : CallOk w 5 (.ref 491) [.ref n, cv] σ Q X := by
  refine CallOk.topW true _ ["self", "cell"] (.int g_GLOBAL .nil) (by k_is) (by k_is) (ar2 fun _ _ => rfl) rfl (by decide) (fun c hl fr hc => ?_)
  obtain ⟨hnm, hcd, hcm⟩ := hc
  refine SM.mk (MethV.own (by with_reducible assumption) me_Store_added rfl ?_)
  exact CV.added (by exact lv ‹_› rfl) h hcv rfl (by decide) hlj hz q
theorem store_init {w : World} {σ : CH} {X : CH → Prop} {n s f t mm g : Nat} (pg : Int) (Q : CV → CH → Prop) (h : σ n = some (.inst 555 [])) (hs : σ s = some (szO pg)) (hf : σ f = none) (ht : σ t = none) (hm : σ mm = none) (hg : σ g = none) (d1 : f ≠ t) (d2 : f ≠ mm) (d3 : f ≠ g) (d4 : t ≠ mm) (d5 : t ≠ g) (d6 : mm ≠ g)
    (q : ∀ σ', σ' n = some (stoO s f t mm g) → σ' f = some (.list []) → σ' t = some (.list []) → σ' mm = some (.list []) → σ' g = some (.list []) → (∀ j, j ≠ n → j ≠ f → j ≠ t → j ≠ mm → j ≠ g → σ' j = σ j) → Q .none σ') : CallOk w 1 (.ref 442) [.ref n, .ref s] σ Q X := by
  have e1 := d1.symm
  have e2 := d2.symm
  have e3 := d3.symm
  have e4 := d4.symm
  have e5 := d5.symm
  have e6 := d6.symm
  have n1 : f ≠ n := by rintro rfl; rw [h] at hf; injection hf
  have n2 : t ≠ n := by rintro rfl; rw [h] at ht; injection ht
  have n3 : mm ≠ n := by rintro rfl; rw [h] at hm; injection hm
  have n4 : g ≠ n := by rintro rfl; rw [h] at hg; injection hg
  have m1 := n1.symm
  have m2 := n2.symm
  have m3 := n3.symm
  have m4 := n4.symm
  refine CallOk.topW' false _ ["self", "sizes"] (cs' := [.ref n, .ref s]) (.top g_Sizes .nil) (by k_is) (by k_is) (fun T s vs XX ra => ?_) (by decide) (fun c hl fr hc => ?_)
  · obtain ⟨v1, l1, rfl, r1, ra⟩ := ra.cons_inv
    obtain ⟨v2, l2, rfl, r2, ra⟩ := ra.cons_inv
    obtain rfl := ra.nil_inv
    refine ⟨[v1, v2], .cons r1 (.cons r2 .nil), ?_⟩
    exact binds_K XX rfl (by k_is) rfl rfl rfl
  obtain ⟨hnm, hcd, hcm⟩ := hc
  refine SE.ifs fr false ?_
  refine cmpIs false rfl ?_
  refine SS.mk (by with_reducible assumption) st_Store_sizes (by exact rfl) ?_
  refine SL.mk (some f) (lstQ_some (by exact (CH.set_ne _ _ ‹_›).trans (by with_reducible assumption)) ?_)
  refine SS.mk (by exact (CH.set_ne _ _ ‹_›).trans (CH.set_self ..)) st_Store_funcs (by exact rfl) ?_
  refine SL.mk (some t) (lstQ_some (by exact (CH.set_ne _ _ ‹_›).trans ((CH.set_ne _ _ ‹_›).trans ((CH.set_ne _ _ ‹_›).trans (by with_reducible assumption)))) ?_)
  refine SS.mk (by exact (CH.set_ne _ _ ‹_›).trans (CH.set_self ..)) st_Store_tables (by exact rfl) ?_
  refine SL.mk (some mm) (lstQ_some (by exact (CH.set_ne _ _ ‹_›).trans ((CH.set_ne _ _ ‹_›).trans ((CH.set_ne _ _ ‹_›).trans ((CH.set_ne _ _ ‹_›).trans ((CH.set_ne _ _ ‹_›).trans (by with_reducible assumption)))))) ?_)
  refine SS.mk (by exact (CH.set_ne _ _ ‹_›).trans (CH.set_self ..)) st_Store_memories (by exact rfl) ?_
  refine SL.mk (some g) (lstQ_some (by exact (CH.set_ne _ _ ‹_›).trans ((CH.set_ne _ _ ‹_›).trans ((CH.set_ne _ _ ‹_›).trans ((CH.set_ne _ _ ‹_›).trans ((CH.set_ne _ _ ‹_›).trans ((CH.set_ne _ _ ‹_›).trans ((CH.set_ne _ _ ‹_›).trans (by with_reducible assumption)))))))) ?_)
  refine SS.mk (by exact (CH.set_ne _ _ ‹_›).trans (CH.set_self ..)) st_Store_globals (by exact rfl) ?_
  refine q _ (CH.set_self ..) (by exact (CH.set_ne _ _ ‹_›).trans ((CH.set_ne _ _ ‹_›).trans ((CH.set_ne _ _ ‹_›).trans ((CH.set_ne _ _ ‹_›).trans ((CH.set_ne _ _ ‹_›).trans ((CH.set_ne _ _ ‹_›).trans ((CH.set_ne _ _ ‹_›).trans (CH.set_self ..)))))))) (by exact (CH.set_ne _ _ ‹_›).trans ((CH.set_ne _ _ ‹_›).trans ((CH.set_ne _ _ ‹_›).trans ((CH.set_ne _ _ ‹_›).trans ((CH.set_ne _ _ ‹_›).trans (CH.set_self ..)))))) (by exact (CH.set_ne _ _ ‹_›).trans ((CH.set_ne _ _ ‹_›).trans ((CH.set_ne _ _ ‹_›).trans (CH.set_self ..)))) (by exact (CH.set_ne _ _ ‹_›).trans (CH.set_self ..)) fun j j1 j2 j3 j4 j5 => ?_
  refine rwP (CH.set_ne _ _ j1) ?_; refine rwP (CH.set_ne _ _ j5) ?_; refine rwP (CH.set_ne _ _ j1) ?_; refine rwP (CH.set_ne _ _ j4) ?_; refine rwP (CH.set_ne _ _ j1) ?_; refine rwP (CH.set_ne _ _ j3) ?_; refine rwP (CH.set_ne _ _ j1) ?_; refine rwP (CH.set_ne _ _ j2) ?_; refine rwP (CH.set_ne _ _ j1) ?_; rfl
theorem store_marks {w : World} {σ : CH} {X : CH → Prop} {n s f t mm g : Nat} (l1 l2 l3 l4 : List CV) (Q : CV → CH → Prop) (h : σ n = some (stoO s f t mm g)) (h1 : σ f = some (.list l1)) (h2 : σ t = some (.list l2)) (h3 : σ mm = some (.list l3)) (h4 : σ g = some (.list l4)) (z1 : l1.length ≤ 1000) (z2 : l2.length ≤ 1000) (z3 : l3.length ≤ 1000) (z4 : l4.length ≤ 1000)
    (q : Q (.tup [.int l1.length, .int l2.length, .int l3.length, .int l4.length]) σ) : CallOk w 1 (.ref 547) [.ref n] σ Q X := by
  refine CallOk.topW true _ ["self"] (.bi bi_len (by decide) .nil) (by k_is) (by k_is) (ar1 fun _ => rfl) rfl (by decide) (fun c hl fr hc => ?_)
  obtain ⟨hnm, hcd, hcm⟩ := hc
  refine SG.mk (by with_reducible assumption) at_Store_funcs (by exact rfl) (by exact nT rfl) ?_
  refine SC.mk (CallV.len (l := l1) h1 (by exact Nat.le_trans ‹_› (by decide)) ?_)
  refine SG.mk (by with_reducible assumption) at_Store_tables (by exact rfl) (by exact nT rfl) ?_
  refine SC.mk (CallV.len (l := l2) h2 (by exact Nat.le_trans ‹_› (by decide)) ?_)
  refine SG.mk (by with_reducible assumption) at_Store_memories (by exact rfl) (by exact nT rfl) ?_
  refine SC.mk (CallV.len (l := l3) h3 (by exact Nat.le_trans ‹_› (by decide)) ?_)
  refine SG.mk (by with_reducible assumption) at_Store_globals (by exact rfl) (by exact nT rfl) ?_
  refine SC.mk (CallV.len (l := l4) h4 (by exact Nat.le_trans ‹_› (by decide)) ?_)
  exact q
theorem CV.thing {w : World} {c : Cx} {m : Lm} {σ : CH} {X : CH → Prop} {Q : CV → Lm → CH → Prop} {n s f t mm g : Nat} {i a : Int} (hl : c.lv + 3 ≤ 30) (h : σ n = some (stoO s f t mm g)) (L : Nat → List CV)
    (hL : ∀ k cv, ([CV.ref f, .ref t, .ref mm, .ref g])[k]? = some cv → ∃ j, cv = .ref j ∧ σ j = some (.list (L k)) ∧ (L k).length ≤ 1000)
    (q : ∀ cv, 0 ≤ i → i < 4 → 0 ≤ a → (L i.toNat)[a.toNat]? = some cv → Q cv m σ) (qX : ¬(0 ≤ i ∧ i < 4 ∧ 0 ≤ a ∧ a < (L i.toNat).length) → X σ) : SC w c X (.top (.ref 456)) [.ref n, .int i, .int a] Q m σ := ⟨CallV.ok km_Store_thing hl (store_thing _ _ _ h L hL q qX)⟩
theorem mkTable {w : World} {c : Cx} {m : Lm} {σ : CH} {X : CH → Prop} {Q : CV → Lm → CH → Prop} {n s j : Nat} {k l pg : Int} {mo : Option Int} (hlv : c.lv + 2 ≤ 30) (hn : σ n = none) (hs : σ s = some (szO pg)) (hj : σ j = none) (hnj : n ≠ j) (h0 : 0 ≤ l) (h1 : l ≤ 100)
    (q : l ≤ 6 → ∀ σ', σ' n = some (tabO k mo 6 j) → σ' j = some (.list (List.replicate l.toNat .none)) → (∀ i, i ≠ n → i ≠ j → σ' i = σ i) → Q (.ref n) m σ')
    (qX : 6 < l → ∀ σ', (∀ i, i ≠ n → σ' i = σ i) → X σ') : SC w c X (.top (.ref 339)) [.int k, .int l, optC mo, .ref s] Q m σ := by
  have hsn : s ≠ n := by rintro rfl; rw [hn] at hs; injection hs
  refine ⟨CallV.ok k_Table hlv (CallOk.cls mk_Table.1 mk_Table.2.1 mk_Table.2.2 hn (table_init k l pg mo _ (CH.set_self ..) ((CH.set_ne _ _ hsn).trans hs) ((CH.set_ne _ _ hnj.symm).trans hj) h0 h1 (fun h σ' a b e => ⟨rfl, q h σ' a b fun i i1 i2 => (e i i1 i2).trans (CH.set_ne _ _ i1)⟩) fun h => qX h _ fun i hi => CH.set_ne _ _ hi) fun _ h => h)⟩
theorem mkCell {w : World} {c : Cx} {m : Lm} {σ : CH} {X : CH → Prop} {Q : CV → Lm → CH → Prop} {n : Nat} {k mu v : CV} (hlv : c.lv + 2 ≤ 30) (hn : σ n = none) (hk : isUnb k = false) (hm : isUnb mu = false) (hv : isUnb v = false)
    (q : ∀ σ', σ' n = some (.inst 388 [("kind", k), ("mutable", mu), ("value", v)]) → (∀ i, i ≠ n → σ' i = σ i) → Q (.ref n) m σ') : SC w c X (.top (.ref 388)) [k, mu, v] Q m σ :=
  ⟨CallV.ok k_Cell hlv (CallOk.cls mk_Cell.1 mk_Cell.2.1 mk_Cell.2.2 hn (cell_init k mu v _ hk hm hv (CH.set_self ..) fun σ' a e => ⟨rfl, q σ' a fun i i1 => (e i i1).trans (CH.set_ne _ _ i1)⟩) fun _ h => h)⟩
theorem mkHostFunc {w : World} {c : Cx} {m : Lm} {σ : CH} {X : CH → Prop} {Q : CV → Lm → CH → Prop} {n : Nat} {k a : CV} (hlv : c.lv + 2 ≤ 30) (hn : σ n = none) (hk : isUnb k = false) (ha : isUnb a = false)
    (q : ∀ σ', σ' n = some (hosO k a) → (∀ i, i ≠ n → σ' i = σ i) → Q (.ref n) m σ') : SC w c X (.top (.ref 423)) [k, a] Q m σ :=
  ⟨CallV.ok k_HostFunc hlv (CallOk.cls mk_HostFunc.1 mk_HostFunc.2.1 mk_HostFunc.2.2 hn (host_init k a _ hk ha (CH.set_self ..) fun σ' a e => ⟨rfl, q σ' a fun i i1 => (e i i1).trans (CH.set_ne _ _ i1)⟩) fun _ h => h)⟩
theorem mkSizes {w : World} {c : Cx} {m : Lm} {σ : CH} {X : CH → Prop} {Q : CV → Lm → CH → Prop} {n : Nat} {pg : Int} (hlv : c.lv + 2 ≤ 30) (hn : σ n = none)
    (q : ∀ σ', σ' n = some (szO pg) → (∀ i, i ≠ n → σ' i = σ i) → Q (.ref n) m σ') : SC w c X (.top (.ref 84)) [.int pg, .int 5, .int 6] Q m σ :=
  ⟨CallV.ok k_Sizes hlv (CallOk.cls mk_Sizes.1 mk_Sizes.2.1 mk_Sizes.2.2 hn (sizes_init pg _ (CH.set_self ..) fun σ' a e => ⟨rfl, q σ' a fun i i1 => (e i i1).trans (CH.set_ne _ _ i1)⟩) fun _ h => h)⟩
theorem make_table_ok {w : World} {σ : CH} {X : CH → Prop} {st s f t mm g n j : Nat} (k l pg : Int) (mo : Option Int) (lt : List CV) (Q : CV → CH → Prop) (h : σ st = some (stoO s f t mm g)) (hs : σ s = some (szO pg)) (ht : σ t = some (.list lt)) (hz : lt.length ≤ 1000) (hn : σ n = none) (hj : σ j = none) (hnj : n ≠ j) (h0 : 0 ≤ l) (h1 : l ≤ 100)
    (q : l ≤ 6 → ∀ σ', σ' n = some (tabO k mo 6 j) → σ' j = some (.list (List.replicate l.toNat .none)) → σ' t = some (.list (lt ++ [.ref n])) → (∀ i, i ≠ n → i ≠ j → i ≠ t → σ' i = σ i) → Q (.int lt.length) σ')
    (qX : 6 < l → ∀ σ', (∀ i, i ≠ n → σ' i = σ i) → X σ') : CallOk w 6 (.ref 498) [.ref st, .tup [.int k, .int l, optC mo]] σ Q X := by
  refine CallOk.topW true _ ["self", "about"] (.top g_Table .nil) (by k_is) (by k_is) (ar2 fun _ _ => rfl) rfl (by decide) (fun c hl fr hc => ?_)
  obtain ⟨hnm, hcd, hcm⟩ := hc
  refine SM.mk (MethV.own (by with_reducible assumption) me_Store_add_table rfl ?_); refine itemTup (by decide) (by decide) rfl ?_; refine itemTup (by decide) (by decide) rfl ?_; refine itemTup (by decide) (by decide) rfl ?_; refine SG.mk (by with_reducible assumption) at_Store_sizes (by exact rfl) (by exact nT rfl) ?_
  refine mkTable (by exact lv ‹_› rfl) hn hs hj hnj h0 h1 (fun h6 σ1 a1 a2 a3 => ?_) qX
  have tn : t ≠ n := by rintro rfl; rw [hn] at ht; injection ht
  have tj : t ≠ j := by rintro rfl; rw [hj] at ht; injection ht
  have sn : st ≠ n := by rintro rfl; rw [hn] at h; injection h
  have sj : st ≠ j := by rintro rfl; rw [hj] at h; injection h
  refine SC.mk (CallV.ok km_Store_add_table (by exact lv ‹_› rfl) (add_table_ok lt (.ref n) _ ((a3 _ sn sj).trans h) rfl ((a3 _ tn tj).trans ht) hz ?_))
  exact q h6 _ ((CH.set_ne _ _ tn.symm).trans a1) ((CH.set_ne _ _ tj.symm).trans a2) (CH.set_self ..) fun i i1 i2 i3 => (CH.set_ne _ _ i3).trans (a3 i i1 i2)
theorem make_global_ok {w : World} {σ : CH} {X : CH → Prop} {st s f t mm g n : Nat} (k mu : Int) (v : VV) (lg : List CV) (Q : CV → CH → Prop) (h : σ st = some (stoO s f t mm g)) (hg : σ g = some (.list lg)) (hz : lg.length ≤ 1000) (hn : σ n = none)
    (q : ∀ σ', σ' n = some (celO k mu v.c) → σ' g = some (.list (lg ++ [.ref n])) → (∀ i, i ≠ n → i ≠ g → σ' i = σ i) → Q (.int lg.length) σ') : CallOk w 6 (.ref 512) [.ref st, .tup [.int k, .int mu], v.c] σ Q X := by
  refine CallOk.topW true _ ["self", "about", "value"] (.top g_Cell .nil) (by k_is) (by k_is) (ar3 fun _ _ _ => rfl) rfl (by decide) (fun c hl fr hc => ?_)
  obtain ⟨hnm, hcd, hcm⟩ := hc
  refine SM.mk (MethV.own (by with_reducible assumption) me_Store_add_global rfl ?_); refine itemTup (by decide) (by decide) rfl ?_; refine itemTup (by decide) (by decide) rfl ?_
  refine mkCell (by exact lv ‹_› rfl) hn rfl rfl v.notUnb fun σ1 a1 a3 => ?_
  have tn : g ≠ n := by rintro rfl; rw [hn] at hg; injection hg
  have sn : st ≠ n := by rintro rfl; rw [hn] at h; injection h
  refine SC.mk (CallV.ok km_Store_add_global (by exact lv ‹_› rfl) (add_global_ok lg (.ref n) _ ((a3 _ sn).trans h) rfl ((a3 _ tn).trans hg) hz ?_))
  exact q _ ((CH.set_ne _ _ tn.symm).trans a1) (CH.set_self ..) fun i i1 i3 => (CH.set_ne _ _ i3).trans (a3 i i1)
theorem make_host_ok {w : World} {σ : CH} {X : CH → Prop} {st s f t mm g n : Nat} (k a : CV) (lf : List CV) (Q : CV → CH → Prop) (hk : isUnb k = false) (ha : isUnb a = false) (h : σ st = some (stoO s f t mm g)) (hf : σ f = some (.list lf)) (hz : lf.length ≤ 1000) (hn : σ n = none)
    (q : ∀ σ', σ' n = some (hosO k a) → σ' f = some (.list (lf ++ [.ref n])) → (∀ i, i ≠ n → i ≠ f → σ' i = σ i) → Q (.int lf.length) σ') : CallOk w 6 (.ref 519) [.ref st, k, a] σ Q X := by
  refine CallOk.topW true _ ["self", "kind", "action"] (.top g_HostFunc .nil) (by k_is) (by k_is) (ar3 fun _ _ _ => rfl) rfl (by decide) (fun c hl fr hc => ?_)
  obtain ⟨hnm, hcd, hcm⟩ := hc
  refine SM.mk (MethV.own (by with_reducible assumption) me_Store_add_func rfl ?_)
  refine mkHostFunc (by exact lv ‹_› rfl) hn hk ha fun σ1 a1 a3 => ?_
  have tn : f ≠ n := by rintro rfl; rw [hn] at hf; injection hf
  have sn : st ≠ n := by rintro rfl; rw [hn] at h; injection h
  refine SC.mk (CallV.ok km_Store_add_func (by exact lv ‹_› rfl) (add_func_ok lf (.ref n) _ ((a3 _ sn).trans h) rfl ((a3 _ tn).trans hf) hz ?_))
  exact q _ ((CH.set_ne _ _ tn.symm).trans a1) (CH.set_self ..) fun i i1 i3 => (CH.set_ne _ _ i3).trans (a3 i i1)
theorem do_fit_nm {w : World} {σ : CH} {X : CH → Prop} {j : Nat} (ks : List Int) (vs : List VV) (Q : CV → CH → Prop) (hF : Free σ) (hj : σ j = some (.list (vs.map VV.c))) (hk : ks.length ≤ 1000000) (hv : vs.length ≤ 1000000)
    (q : ∀ σ', Up σ σ' → Q (.bool (fitsV ks vs)) σ') : CallOk w 4 (.ref 133) [.tup (ks.map CV.int), .ref j] σ Q X := by
  refine CallOk.topW true _ ["kinds", "values"] (.bi bi_all (by decide) (.top g_does_fit (.bi bi_len (by decide) (.bi bi_zip (by decide) .nil)))) (by k_is) (by k_is) (ar2 fun _ _ => rfl) rfl (by decide) (fun c hl fr hc => ?_)
  obtain ⟨hnm, hcd, hcm⟩ := hc
  refine SC.mk (CallV.len (l := ks.map CV.int) rfl (by simpa using hk) ?_)
  refine SC.mk (CallV.len (l := vs.map VV.c) hj (by simpa using hv) ?_)
  refine cmpNe fun b hb => ?_
  simp only [List.length_map] at hb
  cases b
  · refine (?_ : SE _ _ _ _ _ _ _)
    have he : ks.length = vs.length := by rw [bne_eq_false_iff_eq] at hb; lia
    refine ⟨EV.comp (caps := []) ⟨hcm, rfl, by decide, by decide, rfl, nofun, nofun, nofun⟩ (fr.E true ?_) (by intro _; rfl)⟩
    refine (?_ : SC _ _ _ _ _ _ _ _)
    refine hide fun Ph hPh => ?_
    obtain ⟨n, hn1, hn⟩ := hF.pick
    refine hPh ?_
    refine ⟨CallV.zipN (n := n) hj hn ?_⟩
    refine ⟨n, _, _, _, _, iter_nzip (k := 0) (l1 := ks.map CV.int) (CH.set_self ..), CH.set_self .., src_nzit _ (vs.map VV.c) _ _ rfl (Nat.zero_le _), itr_nzit, ?_, ?_⟩
    · refine rwP List.drop_zero ?_; rewrite [zipV, List.length_map]; refine rwP List.length_zip ?_; lia
    refine rwP List.drop_zero ?_; rw [zipV]
    refine CW.map (fun p : Int × VV => CV.tup [.int p.1, p.2.c]) (fun p => CV.bool (fitV p.1 p.2)) (fun σ' => Up σ σ') (fun _ h => h.at hj) (fun _ _ h k => h.tmp hn1 hn k) _ _ _ _ ?_ (Up.new hF hn1 hn _) ?_
    · rintro ⟨k, v⟩ _ c2 ⟨hs2, hl2⟩ m σ2 o hu ho K hK
      rw [relabel_of fr.hs] at hs2
      have i2 : InF w c2 _ _ := ⟨hs2, rfl, rfl, fr.gt⟩
      refine AV.tup (l := [.int k, v.c]) rfl rfl (AVs.cons (AV.name (StOk.loc hs2 rfl) (AVs.cons (AV.name (StOk.loc hs2 rfl) (AVs.nil (i2.E true ?_))) (by rfl))) (by rfl))
      refine CV.does_fit (by exact lvE ‹_› ‹_› rfl) ?_
      exact hK _ _ hu ho
    · intro σ' s
      rewrite [List.nil_append]; refine rwP (show (ks.zip vs).map (fun p => CV.bool (fitV p.1 p.2)) = ((ks.zip vs).map fun p => fitV p.1 p.2).map CV.bool by refine rwP List.map_map ?_; rfl) ?_
      refine SC.mk (CallV.all ?_)
      have : fitsV ks vs = ((ks.zip vs).map fun p => fitV p.1 p.2).all id := by
        unfold fitsV; refine rwP he ?_; refine rwP List.all_map ?_; simp
      refine rwB this ?_; exact q _ s
  · conv => whnf
    have : fitsV ks vs = false := by simp [fitsV]; intro h; simp [h] at hb
    refine rwB this ?_; exact q _ (Up.refl hF)
theorem CV.do_fit {w : World} {c : Cx} {m : Lm} {σ : CH} {X : CH → Prop} {Q : CV → Lm → CH → Prop} {ks : List Int} {vs : List VV} (hl : c.lv + 4 ≤ 30) (hF : Free σ) (hk : ks.length ≤ 1000000) (hv : vs.length ≤ 1000000)
    (q : ∀ σ', Up σ σ' → Q (.bool (fitsV ks vs)) m σ') : SC w c X (.top (.ref 133)) [.tup (ks.map CV.int), .fl (vs.map VV.c)] Q m σ := ⟨CallV.ok k_do_fit hl (do_fit_fl ks vs _ hF hk hv q)⟩
theorem CV.do_fitN {w : World} {c : Cx} {m : Lm} {σ : CH} {X : CH → Prop} {Q : CV → Lm → CH → Prop} {j : Nat} {ks : List Int} {vs : List VV} (hl : c.lv + 4 ≤ 30) (hF : Free σ) (hj : σ j = some (.list (vs.map VV.c))) (hk : ks.length ≤ 1000000) (hv : vs.length ≤ 1000000)
    (q : ∀ σ', Up σ σ' → Q (.bool (fitsV ks vs)) m σ') : SC w c X (.top (.ref 133)) [.tup (ks.map CV.int), .ref j] Q m σ := ⟨CallV.ok k_do_fit hl (do_fit_nm ks vs _ hF hj hk hv q)⟩
noncomputable abbrev kindC (p : List Int × List Int) : CV := .tup [.tup (p.1.map CV.int), .tup (p.2.map CV.int)]
structure StS (σ : CH) (st s f t mm g : Nat) (L : Nat → List CV) : Prop where
  sto : σ st = some (stoO s f t mm g)
  all : ∀ k cv, ([CV.ref f, .ref t, .ref mm, .ref g])[k]? = some cv → ∃ j, cv = .ref j ∧ σ j = some (.list (L k)) ∧ (L k).length ≤ 1000
theorem StS.up {σ σ' : CH} {st s f t mm g : Nat} {L : Nat → List CV} (S : StS σ st s f t mm g L) (u : Up σ σ') : StS σ' st s f t mm g L :=
  ⟨u.at S.sto, fun k cv h => by obtain ⟨j, e, h1, h2⟩ := S.all k cv h; exact ⟨j, e, u.at h1, h2⟩⟩
theorem CV.thing' {w : World} {c : Cx} {m : Lm} {σ : CH} {X : CH → Prop} {Q : CV → Lm → CH → Prop} {st s f t mm g o : Nat} {L : Nat → List CV} {i a : Int} (hl : c.lv + 3 ≤ 30) (S : StS σ st s f t mm g L) (i0 : 0 ≤ i) (i1 : i < 4) (h0 : 0 ≤ a) (hn : (L i.toNat)[a.toNat]? = some (.ref o))
    (q : Q (.ref o) m σ) : SC w c X (.top (.ref 456)) [.ref st, .int i, .int a] Q m σ :=
  CV.thing hl S.sto L S.all (fun cv _ _ _ e => by rw [hn] at e; obtain rfl := Option.some.inj e; exact q) fun h => absurd ⟨i0, i1, h0, by have := (List.getElem?_eq_some_iff.mp hn).1; lia⟩ h
theorem func_kind_ok {w : World} {σ : CH} {X : CH → Prop} {st s f t mm g o : Nat} {L : Nat → List CV} (a : Int) (k act : CV) (Q : CV → CH → Prop) (S : StS σ st s f t mm g L) (h0 : 0 ≤ a) (hn : (L 0)[a.toNat]? = some (.ref o)) (ho : σ o = some (hosO k act)) (hk : ∀ u, k ≠ .top u)
    (q : Q k σ) : CallOk w 4 (.ref 526) [.ref st, .int a] σ Q X := by
  refine CallOk.topW true _ ["self", "address"] (.int g_FUNCTION .nil) (by k_is) (by k_is) (ar2 fun _ _ => rfl) rfl (by decide) (fun c hl fr hc => ?_)
  obtain ⟨hnm, hcd, hcm⟩ := hc
  have h := S.sto
  refine SM.mk (MethV.own (by with_reducible assumption) me_Store_thing rfl ?_)
  refine CV.thing' (by exact lv ‹_› rfl) S (by decide) (by decide) h0 hn ?_
  refine SG.mk (by with_reducible assumption) at_HostFunc_kind (by exact rfl) (by with_reducible assumption) ?_
  exact q
theorem CV.func_kind {w : World} {c : Cx} {m : Lm} {σ : CH} {X : CH → Prop} {Q : CV → Lm → CH → Prop} {st s f t mm g o : Nat} {L : Nat → List CV} {a : Int} {k act : CV} (hl : c.lv + 4 ≤ 30) (S : StS σ st s f t mm g L) (h0 : 0 ≤ a) (hn : (L 0)[a.toNat]? = some (.ref o)) (ho : σ o = some (hosO k act)) (hk : ∀ u, k ≠ .top u)
    (q : Q k m σ) : SC w c X (.top (.ref 526)) [.ref st, .int a] Q m σ := ⟨CallV.ok km_Store_func_kind hl (func_kind_ok a k act _ S h0 hn ho hk q)⟩
noncomputable def refOk (nf : Nat) (k : Int) (v : VV) : Bool := k != -16 || match v with
  | .int i => decide (0 ≤ i) && decide (i < nf)
  | _ => true
noncomputable def refsOk (nf : Nat) (ks : List Int) (vs : List VV) : Bool := (ks.zip vs).all fun p => refOk nf p.1 p.2
theorem want_values_ok {w : World} {σ : CH} {X : CH → Prop} {st s f t mm g o : Nat} {L : Nat → List CV} (a : Int) (p : List Int × List Int) (act : CV) (vs : List VV) (Q : CV → CH → Prop) (S : StS σ st s f t mm g L) (h0 : 0 ≤ a) (hn : (L 0)[a.toNat]? = some (.ref o)) (ho : σ o = some (hosO (kindC p) act)) (hF : Free σ) (hk : p.1.length ≤ 1000000) (hv : vs.length ≤ 1000000)
    (hL : ∀ i, i < (L 0).length → ∃ o', (L 0)[i]? = some (.ref o'))
    (q : (fitsV p.1 vs && refsOk (L 0).length p.1 vs) = true → ∀ σ', Up σ σ' → Q .none σ') (qX : (fitsV p.1 vs && refsOk (L 0).length p.1 vs) = false → ∀ σ', Up σ σ' → X σ') : CallOk w 5 (.ref 540) [.ref st, .int a, .fl (vs.map VV.c)] σ Q X := by
  refine CallOk.topW true _ ["self", "address", "values"] (.int g_FUNCREF (.int g_FUNCTION (.top g_Misused (.top g_do_fit (.bi bi_zip (by decide) .nil))))) (by k_is) (by k_is) (ar3 fun _ _ _ => rfl) rfl (by decide) (fun c hl fr hc => ?_)
  obtain ⟨hnm, hcd, hcm⟩ := hc
  have h := S.sto
  refine SM.mk (MethV.own (by with_reducible assumption) me_Store_func_kind rfl ?_)
  refine CV.func_kind (by exact lv ‹_› rfl) S h0 hn ho (fun _ h => nomatch h) ?_
  refine itemTup (by decide) (by decide) rfl ?_
  refine CV.do_fit (by exact lv ‹_› rfl) hF hk hv fun σ1 u1 => ?_
  cases hf : fitsV p.1 vs
  · refine SX.mk (XV.raise2 (InF.hs ‹_›) rfl ?_); conv => whnf
    exact qX (by refine rwP hf ?_; rfl) _ u1
  rw [hf, Bool.true_and] at q qX
  refine SX.mk (XV.for (fr.E true ?_) (by intro _; rfl))
  refine (?_ : SC _ _ _ _ _ _ _ _)
  refine hide fun Ph hPh => ?_
  obtain ⟨n, hn1, hn2⟩ := u1.free.pick
  refine hPh ?_
  refine ⟨CallV.zip (n := n) hn2 ?_⟩
  have he : p.1.length = vs.length := by
    unfold fitsV at hf; rw [Bool.and_eq_true] at hf; exact of_decide_eq_true hf.1
  refine ⟨n, _, _, _, _, iter_zip (k := 0) (l1 := p.1.map CV.int) (l2 := vs.map VV.c) (CH.set_self ..), CH.set_self .., src_zit _ _ _ _ rfl (Nat.zero_le _), ?_⟩
  refine rwP List.drop_zero ?_; rw [zipV]
  have hfit : ∀ j k v, (p.1.zip vs)[j]? = some (k, v) → fitV k v = true := fun j k v e => by
    unfold fitsV at hf; rw [Bool.and_eq_true] at hf
    exact List.all_eq_true.mp hf.2 _ (List.mem_of_getElem? e)
  refine FV.run (fun m => m.lookup (Str.ofString "self") = some (CV.ref st)) (fun i σ' => Up σ σ' ∧ ∀ j, j < i → ∀ k v, (p.1.zip vs)[j]? = some (k, v) → refOk (L 0).length k v = true) (fun _ _ _ => trivial) (fun i σ2 σ3 s k => ⟨s.1.tmp hn1 ?_ k, s.2⟩) _ _ _ 0 (fun j x hx m σ2 o hm hs ho K hK _ => ?_) rfl ⟨u1.trans (Up.new u1.free hn1 hn2 _), fun j hj => absurd hj (Nat.not_lt_zero _)⟩ fun m σ2 _ hs => ?_
  · by_cases e : σ n = none
    · exact e
    · rw [u1.1 n (.inr e)] at hn2; exact hn2
  · rw [List.getElem?_map] at hx
    cases hp : (p.1.zip vs)[j]? with
    | none => rw [hp] at hx; injection hx
    | some kv =>
      obtain ⟨k, v⟩ := kv
      rw [hp] at hx
      obtain rfl := Option.some.inj hx
      have go : refOk (L 0).length k v = true → K .next (("value", v.c) :: ("kind", CV.int k) :: m) σ2 := fun e => hK _ _ hm ⟨hs.1, fun j' hj' k' v' e' => by
        rcases Nat.lt_succ_iff_lt_or_eq.mp (show j' < j + 1 by lia) with h1 | rfl
        · exact hs.2 j' (by lia) k' v' e'
        · rw [hp] at e'; cases e'; exact e⟩ ho
      have S2 := S.up hs.1
      have h2 := S2.sto
      refine AV.tup (l := [.int k, v.c]) rfl rfl (AVs.cons (AV.name (StOk.loc fr.hs rfl) (AVs.cons (AV.name (StOk.loc fr.hs rfl) (AVs.nil (fr.Xs true ?_))) (by rfl))) (by rfl))
      refine cmpEq2 (fun hb => ?_) fun hb => ?_
      · skip
        refine go ?_
        unfold refOk
        refine rwP (show (k != -16) = true by rewrite [bne]; refine rwP hb ?_; rfl) ?_; rfl
      · have hk16 : k = -16 := by simpa using hb
        subst hk16
        refine (?_ : cmpI _ _ _ _ _)
        have hv := hfit _ _ _ hp
        induction v with
        | none =>
          refine cmpIsNotF rfl ?_
          exact go rfl
        | int i =>
          have hi0 : 0 ≤ i := by
            unfold fitV at hv; rw [Bool.and_eq_true] at hv; exact of_decide_eq_true hv.1
          refine cmpIsNotT rfl ?_
          conv => whnf
          refine rwP (show List.lookup (Str.ofString "self") ((Str.ofString "value", (VV.int i).c) :: (Str.ofString "kind", CV.int (-16)) :: m) = some (CV.ref st) from hm) ?_
          refine SM.mk (MethV.own (by with_reducible assumption) me_Store_thing rfl ?_)
          refine CV.thing (by exact lv ‹_› rfl) h2 L S2.all (fun cv _ _ _ e => ?_) fun hno => ?_
          · have hlt := (List.getElem?_eq_some_iff.mp e).1
            refine go ?_
            have hlt : i.toNat < (L 0).length := hlt
            show (decide (0 ≤ i) && decide (i < ((L 0).length : Nat))) = true
            refine rwP (decide_eq_true hi0) ?_; refine rwP (decide_eq_true (show i < ((L 0).length : Nat) by lia)) ?_; rfl
          · refine qX ?_ _ hs.1
            cases hr : refsOk (L 0).length p.1 vs with
            | false => rfl
            | true =>
              exfalso
              have := List.all_eq_true.mp hr _ (List.mem_of_getElem? hp)
              have this : (decide (0 ≤ i) && decide (i < ((L 0).length : Nat))) = true := this
              rw [Bool.and_eq_true, decide_eq_true_eq, decide_eq_true_eq] at this
              exact hno ⟨by decide, by decide, this.1, this.2⟩
        | bool b => injection hv
        | str0 => injection hv
        | lst0 => injection hv
  · skip
    refine q ?_ _ hs.1
    refine List.all_eq_true.mpr fun kv hkv => ?_
    obtain ⟨j, hj⟩ := List.getElem?_of_mem hkv
    exact hs.2 j (by rw [Nat.zero_add, List.length_map]; exact (List.getElem?_eq_some_iff.mp hj).1) _ _ hj
theorem mem_size {w : World} {σ : CH} {X : CH → Prop} {n j : Nat} (mo : Option Int) (pg : Int) (d : Array UInt8) (Q : CV → CH → Prop) (h : σ n = some (memO mo pg j)) (hj : σ j = some (.barr d)) (hz : d.size ≤ 1000) (hp : 1 ≤ pg) (hp2 : pg ≤ 100)
    (q : Q (.int (Int.fdiv d.size pg)) σ) : CallOk w 1 (.ref 168) [.ref n] σ Q X := by
  refine CallOk.topW true _ ["self"] (.bi bi_len (by decide) .nil) (by k_is) (by k_is) (ar1 fun _ => rfl) rfl (by decide) (fun c hl fr hc => ?_)
  obtain ⟨hnm, hcd, hcm⟩ := hc
  refine SG.mk (by with_reducible assumption) at_Memory_data (by exact rfl) (by exact nT rfl) ?_
  refine SC.mk (CallV.lenBa hj (by exact Nat.le_trans ‹_› (by decide)) ?_)
  refine SG.mk (by with_reducible assumption) at_Memory_page (by exact rfl) (by exact nT rfl) ?_
  refine SB.mk none (.div (by lia) (by unfold small; lia) ?_)
  exact q
theorem mem_kind {w : World} {σ : CH} {X : CH → Prop} {n j : Nat} (mo : Option Int) (pg : Int) (d : Array UInt8) (Q : CV → CH → Prop) (h : σ n = some (memO mo pg j)) (hj : σ j = some (.barr d)) (hz : d.size ≤ 1000) (hp : 1 ≤ pg) (hp2 : pg ≤ 100)
    (q : Q (.tup [.int (Int.fdiv d.size pg), optC mo]) σ) : CallOk w 2 (.ref 175) [.ref n] σ Q X := by
  refine CallOk.topW true _ ["self"] .nil (by k_is) (by k_is) (ar1 fun _ => rfl) rfl (by decide) (fun c hl fr hc => ?_)
  obtain ⟨hnm, hcd, hcm⟩ := hc
  refine SM.mk (MethV.own (by with_reducible assumption) me_Memory_size rfl ?_)
  refine SC.mk (CallV.ok km_Memory_size (by exact lv ‹_› rfl) (mem_size mo pg d _ h hj hz hp hp2 ?_))
  refine SG.mk (by with_reducible assumption) at_Memory_most (by exact rfl) (by exact optC_notTop _) ?_
  exact q
theorem mem_plain {w : World} {σ : CH} {X : CH → Prop} {n j : Nat} (mo : Option Int) (pg : Int) (d : Array UInt8) (Q : CV → CH → Prop) (h : σ n = some (memO mo pg j)) (hj : σ j = some (.barr d)) (hz : d.size ≤ 1000)
    (q : Q (.tup [optC mo, .bytes d]) σ) : CallOk w 1 (.ref 245) [.ref n] σ Q X := by
  refine CallOk.topW true _ ["self"] (.bi bi_bytes (by decide) .nil) (by k_is) (by k_is) (ar1 fun _ => rfl) rfl (by decide) (fun c hl fr hc => ?_)
  obtain ⟨hnm, hcd, hcm⟩ := hc
  refine SG.mk (by with_reducible assumption) at_Memory_most (by exact rfl) (by exact optC_notTop _) ?_; refine SG.mk (by with_reducible assumption) at_Memory_data (by exact rfl) (by exact nT rfl) ?_
  refine SC.mk (CallV.bytesBa hj (by exact Nat.le_trans ‹_› (by decide)) ?_)
  exact q
theorem about0 {w : World} {σ : CH} {X : CH → Prop} {st s f t mm g o : Nat} {L : Nat → List CV} (a : Int) (k act : CV) (Q : CV → CH → Prop) (S : StS σ st s f t mm g L) (h0 : 0 ≤ a) (hn : (L 0)[a.toNat]? = some (.ref o)) (ho : σ o = some (hosO k act)) (hk : ∀ u, k ≠ .top u)
    (q : Q (k) σ) : CallOk w 4 (.ref 533) [.ref st, .int 0, .int a] σ Q X := by
  refine CallOk.topW true _ ["self", "sort", "address"] (.int g_FUNCTION (.int g_MEMORY (.int g_TABLE .nil))) (by k_is) (by k_is) (ar3 fun _ _ _ => rfl) rfl (by decide) (fun c hl fr hc => ?_)
  obtain ⟨hnm, hcd, hcm⟩ := hc
  have h := S.sto
  refine SM.mk (MethV.own (by with_reducible assumption) me_Store_thing rfl ?_)
  refine CV.thing' (by exact lv ‹_› rfl) S (by decide) (by decide) h0 hn ?_
  refine cmpI.eq ?_
  refine SG.mk (by with_reducible assumption) at_HostFunc_kind (by exact rfl) (by with_reducible assumption) ?_
  exact q
theorem about1 {w : World} {σ : CH} {X : CH → Prop} {st s f t mm g o : Nat} {L : Nat → List CV} (a : Int) {j : Nat} (k e : Int) (mo : Option Int) (its : List CV) (Q : CV → CH → Prop) (S : StS σ st s f t mm g L) (h0 : 0 ≤ a) (hn : (L 1)[a.toNat]? = some (.ref o)) (ho : σ o = some (tabO k mo e j)) (hj : σ j = some (.list its)) (hz : its.length ≤ 1000)
    (q : Q (.tup [.int k, .int its.length, optC mo]) σ) : CallOk w 4 (.ref 533) [.ref st, .int 1, .int a] σ Q X := by
  refine CallOk.topW true _ ["self", "sort", "address"] (.int g_FUNCTION (.int g_MEMORY (.int g_TABLE .nil))) (by k_is) (by k_is) (ar3 fun _ _ _ => rfl) rfl (by decide) (fun c hl fr hc => ?_)
  obtain ⟨hnm, hcd, hcm⟩ := hc
  have h := S.sto
  refine SM.mk (MethV.own (by with_reducible assumption) me_Store_thing rfl ?_)
  refine CV.thing' (by exact lv ‹_› rfl) S (by decide) (by decide) h0 hn ?_
  refine cmpI.eq ?_
  refine cmpI.eq ?_
  refine SM.mk (MethV.own (by with_reducible assumption) me_Table_table_kind rfl ?_)
  refine SC.mk (CallV.ok km_Table_table_kind (by exact lv ‹_› rfl) (table_kind k e mo its _ ho hj hz ?_))
  exact q
theorem about2 {w : World} {σ : CH} {X : CH → Prop} {st s f t mm g o : Nat} {L : Nat → List CV} (a : Int) {j : Nat} (mo : Option Int) (pg : Int) (d : Array UInt8) (Q : CV → CH → Prop) (S : StS σ st s f t mm g L) (h0 : 0 ≤ a) (hn : (L 2)[a.toNat]? = some (.ref o)) (ho : σ o = some (memO mo pg j)) (hj : σ j = some (.barr d)) (hz : d.size ≤ 1000) (hp : 1 ≤ pg) (hp2 : pg ≤ 100)
    (q : Q (.tup [.int (Int.fdiv d.size pg), optC mo]) σ) : CallOk w 4 (.ref 533) [.ref st, .int 2, .int a] σ Q X := by
  refine CallOk.topW true _ ["self", "sort", "address"] (.int g_FUNCTION (.int g_MEMORY (.int g_TABLE .nil))) (by k_is) (by k_is) (ar3 fun _ _ _ => rfl) rfl (by decide) (fun c hl fr hc => ?_)
  obtain ⟨hnm, hcd, hcm⟩ := hc
  have h := S.sto
  refine SM.mk (MethV.own (by with_reducible assumption) me_Store_thing rfl ?_)
  refine CV.thing' (by exact lv ‹_› rfl) S (by decide) (by decide) h0 hn ?_
  refine cmpI.eq ?_
  refine cmpI.eq ?_
  refine SE.ifs fr true ?_
  refine cmpI.eq ?_
  refine SM.mk (MethV.own (by with_reducible assumption) me_Memory_kind rfl ?_)
  refine SC.mk (CallV.ok km_Memory_kind (by exact lv ‹_› rfl) (mem_kind mo pg d _ ho hj hz hp hp2 ?_))
  exact q
theorem about3 {w : World} {σ : CH} {X : CH → Prop} {st s f t mm g o : Nat} {L : Nat → List CV} (a : Int) (k mu : Int) (v : CV) (Q : CV → CH → Prop) (S : StS σ st s f t mm g L) (h0 : 0 ≤ a) (hn : (L 3)[a.toNat]? = some (.ref o)) (ho : σ o = some (celO k mu v))
    (q : Q (.tup [.int k, .int mu]) σ) : CallOk w 4 (.ref 533) [.ref st, .int 3, .int a] σ Q X := by
  refine CallOk.topW true _ ["self", "sort", "address"] (.int g_FUNCTION (.int g_MEMORY (.int g_TABLE .nil))) (by k_is) (by k_is) (ar3 fun _ _ _ => rfl) rfl (by decide) (fun c hl fr hc => ?_)
  obtain ⟨hnm, hcd, hcm⟩ := hc
  have h := S.sto
  refine SM.mk (MethV.own (by with_reducible assumption) me_Store_thing rfl ?_)
  refine CV.thing' (by exact lv ‹_› rfl) S (by decide) (by decide) h0 hn ?_
  refine cmpI.eq ?_
  refine cmpI.eq ?_
  refine SE.ifs fr true ?_
  refine cmpI.eq ?_
  refine SM.mk (MethV.own (by with_reducible assumption) me_Cell_global_kind rfl ?_)
  refine SC.mk (CallV.ok km_Cell_global_kind (by exact lv ‹_› rfl) (cell_kind k mu v _ ho ?_))
  exact q
theorem store_plain {w : World} {σ : CH} {X : CH → Prop} {st s f t mm g tb me ti mi : Nat} {L : Nat → List CV} (k e : Int) (mo mm' : Option Int) (its : List CV) (pg : Int) (d : Array UInt8) (cs : List (Nat × Int × Int × VV)) (Q : CV → CH → Prop) (S : StS σ st s f t mm g L) (hF : Free σ)
    (h1 : L 1 = [.ref tb]) (h2 : L 2 = [.ref me]) (h3 : L 3 = cs.map fun x => .ref x.1) (ht : σ tb = some (tabO k mo e ti)) (hti : σ ti = some (.list its)) (hz : its.length ≤ 1000) (hm : σ me = some (memO mm' pg mi)) (hmi : σ mi = some (.barr d)) (hzd : d.size ≤ 1000) (hc : ∀ x ∈ cs, σ x.1 = some (celO x.2.1 x.2.2.1 x.2.2.2.c))
    (q : ∀ σ', Up σ σ' → Q (.tup [.tup [.tup [.int k, optC mo, .tup its]], .tup [.tup [optC mm', .bytes d]], .tup (cs.map fun x => .tup [.int x.2.1, .int x.2.2.1, x.2.2.2.c])]) σ') : CallOk w 4 (.ref 552) [.ref st] σ Q X := by
  refine CallOk.topW true _ ["self"] (.bi bi_tuple (by decide) .nil) (by k_is) (by k_is) (ar1 fun _ => rfl) rfl (by decide) (fun c hl fr hc => ?_)
  obtain ⟨hnm, hcd, hcm⟩ := hc
  have h := S.sto
  refine hide fun Ph hPh => ?_
  obtain ⟨j1, e1, hl1, hz1⟩ := S.all 1 _ rfl
  obtain ⟨j2, e2, hl2, hz2⟩ := S.all 2 _ rfl
  obtain ⟨j3, e3, hl3, hz3⟩ := S.all 3 _ rfl
  refine hPh ?_
  (injection e1 with e1; subst e1); (injection e2 with e2; subst e2); (injection e3 with e3; subst e3)
  rw [h1] at hl1
  rw [h2] at hl2
  rw [h3] at hl3
  refine SE.mk (EV.compM (caps := []) (fun n : Nat => CV.ref n) (fun _ => CV.tup [.int k, optC mo, .tup its]) [tb] (fun _ => True) ⟨hcm, rfl, by decide, by decide, rfl, nofun, nofun, nofun⟩ trivial (fr.E true ?_))
  refine SG.mk (by with_reducible assumption) at_Store_tables (by exact rfl) (by exact nT rfl) ?_
  refine ⟨hF, Nat.le_of_ble_eq_true rfl, Iter.list hl1 (by intros; rfl), fun x hx c2 hs2 hl2 m2 σ2 _ u2 K hK => ?_, fun σ3 u3 => ?_⟩
  · rw [relabel_of fr.hs] at hs2
    have i2 : InF w c2 _ _ := ⟨hs2, rfl, rfl, fr.gt⟩
    obtain rfl := List.mem_singleton.mp hx
    have h5 := u2.at ht
    refine AV.name (StOk.loc hs2 rfl) (i2.E true ?_)
    refine SM.mk (MethV.own (by with_reducible assumption) me_Table_plain rfl ?_)
    refine SC.mk (CallV.ok km_Table_plain (by exact lvE ‹_› ‹_› rfl) (table_plain k e mo its _ h5 (u2.at hti) hz ?_))
    exact hK _ _ trivial (Up.refl u2.free)
  refine SC.mk (CallV.tupleOf (l := [CV.tup [.int k, optC mo, .tup its]]) rfl (Nat.le_of_ble_eq_true rfl) (fun _ h => nomatch h) ?_)
  have h := u3.at S.sto
  refine SE.mk (EV.compM (caps := []) (fun n : Nat => CV.ref n) (fun _ => CV.tup [optC mm', .bytes d]) [me] (fun _ => True) ⟨hcm, rfl, by decide, by decide, rfl, nofun, nofun, nofun⟩ trivial (fr.E true ?_))
  refine SG.mk (by with_reducible assumption) at_Store_memories (by exact rfl) (by exact nT rfl) ?_
  refine ⟨u3.free, Nat.le_of_ble_eq_true rfl, Iter.list (u3.at hl2) (by intros; rfl), fun x hx c2 hs2 hlv2 m2 σ2 _ u2 K hK => ?_, fun σ4 u4 => ?_⟩
  · rw [relabel_of fr.hs] at hs2
    have i2 : InF w c2 _ _ := ⟨hs2, rfl, rfl, fr.gt⟩
    obtain rfl := List.mem_singleton.mp hx
    have h5 := u2.at (u3.at hm)
    refine AV.name (StOk.loc hs2 rfl) (i2.E true ?_)
    refine SM.mk (MethV.own (by with_reducible assumption) me_Memory_plain rfl ?_)
    refine SC.mk (CallV.ok km_Memory_plain (by exact lvE ‹_› ‹_› rfl) (mem_plain mm' pg d _ h5 (u2.at (u3.at hmi)) hzd ?_))
    exact hK _ _ trivial (Up.refl u2.free)
  refine SC.mk (CallV.tupleOf (l := [CV.tup [optC mm', .bytes d]]) rfl (Nat.le_of_ble_eq_true rfl) (fun _ h => nomatch h) ?_)
  have u4 := u3.trans u4
  have h := u4.at S.sto
  refine SE.mk (EV.compM (caps := []) (fun x : Nat × Int × Int × VV => CV.ref x.1) (fun x => CV.tup [.int x.2.1, .int x.2.2.1, x.2.2.2.c]) cs (fun _ => True) ⟨hcm, rfl, by decide, by decide, rfl, nofun, nofun, nofun⟩ trivial (fr.E true ?_))
  refine SG.mk (by with_reducible assumption) at_Store_globals (by exact rfl) (by exact nT rfl) ?_; refine (?_ : _ ∧ _)
  rw [h3, List.length_map] at hz3
  refine ⟨u4.free, by lia, Iter.list (u4.at hl3) (by intros; rfl), fun x hx c2 hs2 hlv2 m2 σ2 _ u2 K hK => ?_, fun σ5 u5 => ?_⟩
  · rw [relabel_of fr.hs] at hs2
    have i2 : InF w c2 _ _ := ⟨hs2, rfl, rfl, fr.gt⟩
    have h5 := u2.at (u4.at (hc x hx))
    refine AV.name (StOk.loc hs2 rfl) (i2.E true ?_)
    refine SM.mk (MethV.own (by with_reducible assumption) me_Cell_plain rfl ?_)
    refine SC.mk (CallV.ok km_Cell_plain (by exact lvE ‹_› ‹_› rfl) (cell_plain _ _ _ _ h5 ?_))
    exact hK _ _ trivial (Up.refl u2.free)
  refine SC.mk (CallV.tupleOf (l := cs.map fun x : Nat × Int × Int × VV => CV.tup [.int x.2.1, .int x.2.2.1, x.2.2.2.c]) rfl (by rw [List.length_map]; lia) (fun _ h => nomatch h) ?_)
  exact q _ (u4.trans u5)
noncomputable def ActOk (w : World) (act : CV) : Prop := ∀ (c : Cx) (m : Lm) (σ : CH) (j : Nat) (seen vs told : List CV) (Q : CV → Lm → CH → Prop) (X : CH → Prop), c.lv + 3 ≤ 30 → σ j = some (.list vs) → j ≠ 3 → j ≠ 4 → vs.length ≤ 1000 → seen.length ≤ 1000 → σ 3 = some (.list seen) → σ 4 = some (.list [.fl told]) →
  Q (.fl told) m ((σ.set 3 (.list (seen ++ [.fl vs]))).set j (.list [])) → CallV w c act [.ref j] m σ Q X
theorem host_run_ok {w : World} {σ : CH} {X : CH → Prop} {n : Nat} (p : List Int × List Int) (act : CV) (seen : List CV) (vs told : List VV) (Q : CV → CH → Prop) (ha : ActOk w act) (hat : ∀ u, act ≠ .top u) (h : σ n = some (hosO (kindC p) act)) (hF : Free σ) (h3 : σ 3 = some (.list seen)) (h4 : σ 4 = some (.list [.fl (told.map VV.c)])) (hn3 : n ≠ 3)
    (zs : seen.length ≤ 1000) (zv : vs.length ≤ 1000) (zt : told.length ≤ 1000) (zp : p.2.length ≤ 1000)
    (q : fitsV p.2 told = true → ∀ σ' j, 100 ≤ j → σ j = none → σ' j = some (.list (told.map VV.c)) → Up (σ.set 3 (.list (seen ++ [.fl (vs.map VV.c)]))) σ' → Q (.ref j) σ')
    (qX : fitsV p.2 told = false → ∀ σ', Up (σ.set 3 (.list (seen ++ [.fl (vs.map VV.c)]))) σ' → X σ') : CallOk w 5 (.ref 420) [.ref n, .fl (vs.map VV.c)] σ Q X := by
  refine CallOk.topW true _ ["self", "values"] (.top g_Misused (.top g_do_fit (.bi bi_list (by decide) .nil))) (by k_is) (by k_is) (ar2 fun _ _ => rfl) rfl (by decide) (fun c hl fr hc => ?_)
  obtain ⟨hnm, hcd, hcm⟩ := hc
  refine SM.mk (MethV.val (by with_reducible assumption) va_HostFunc_action rfl hat ?_)
  refine (?_ : SC _ _ _ _ _ _ _ _)
  refine hide fun Ph hPh => ?_
  obtain ⟨j1, hj1, hj2⟩ := hF.pick
  refine hPh ?_
  refine ⟨CallV.listOf (some j1) (l := vs.map VV.c) rfl (by rw [List.length_map]; lia) (lstQ_some hj2 ?_)⟩
  refine (?_ : SC _ _ _ _ _ _ _ _)
  have n3 : (3 : Nat) ≠ j1 := by lia
  have n4 : (4 : Nat) ≠ j1 := by lia
  refine ⟨ha c _ _ j1 seen (vs.map VV.c) (told.map VV.c) _ _ (by lia) (CH.set_self ..) n3.symm n4.symm (by rw [List.length_map]; exact zv) zs ((CH.set_ne _ _ n3).trans h3) ((CH.set_ne _ _ n4).trans h4) ?_⟩
  refine (?_ : SC _ _ _ _ _ _ _ _)
  have hF1 := (((hF.set j1 (.list (vs.map VV.c))).set 3 (.list (seen ++ [.fl (vs.map VV.c)]))).set j1 (.list []))
  obtain ⟨j2, hj3, hj4⟩ := hF1.pick
  have j21 : j2 ≠ j1 := by rintro rfl; rw [CH.set_self] at hj4; injection hj4
  have j23 : j2 ≠ 3 := by lia
  have hj5 : σ j2 = none := by rw [CH.set_ne _ _ j21, CH.set_ne _ _ j23, CH.set_ne _ _ j21] at hj4; exact hj4
  refine ⟨CallV.listOf (some j2) (l := told.map VV.c) rfl (by rw [List.length_map]; lia) (lstQ_some hj4 ?_)⟩
  have nj1 : n ≠ j1 := by rintro rfl; rw [h] at hj2; injection hj2
  have nj2 : n ≠ j2 := by rintro rfl; rw [h] at hj5; injection hj5
  have U0 : Up (σ.set 3 (.list (seen ++ [.fl (vs.map VV.c)]))) ((((σ.set j1 (.list (vs.map VV.c))).set 3 (.list (seen ++ [.fl (vs.map VV.c)]))).set j1 (.list [])).set j2 (.list (told.map VV.c))) := by
    refine ⟨fun k hk => ?_, hF1.set _ _⟩
    have k1 : k ≠ j1 := by
      rintro rfl
      rcases hk with hk | hk
      · lia
      · rw [CH.set_ne _ _ n3.symm] at hk; exact hk hj2
    have k2 : k ≠ j2 := by
      rintro rfl
      rcases hk with hk | hk
      · lia
      · rw [CH.set_ne _ _ j23] at hk; exact hk hj5
    refine rwP (CH.set_ne _ _ k2) ?_; refine rwP (CH.set_ne _ _ k1) ?_
    by_cases k3 : k = 3
    · subst k3; rw [CH.set_self, CH.set_self]
    · refine rwP (CH.set_ne _ _ k3) ?_; refine rwP (CH.set_ne _ _ k1) ?_; refine rwP (CH.set_ne _ _ k3) ?_; rfl
  refine SG.mk (by exact (CH.set_ne _ _ ‹_›).trans ((CH.set_ne _ _ ‹_›).trans ((CH.set_ne _ _ ‹_›).trans ((CH.set_ne _ _ ‹_›).trans (by with_reducible assumption))))) at_HostFunc_kind (by exact rfl) (by exact nT rfl) ?_; refine itemTup (by decide) (by decide) rfl ?_
  refine CV.do_fitN (by exact lv ‹_› rfl) (hF1.set _ _) (CH.set_self ..) (by exact Nat.le_trans ‹_› (by decide)) (by exact Nat.le_trans ‹_› (by decide)) fun σ' u => ?_
  cases hf : fitsV p.2 told
  · refine SX.mk (XV.raise2 (InF.hs ‹_›) rfl ?_); conv => whnf
    exact qX hf _ (U0.trans u)
  · skip
    exact q hf _ j2 hj3 hj5 (u.at (CH.set_self ..)) (U0.trans u)
section
variable {w : World} {c : Cx} {m : Lm} {σ : CH} {X : CH → Prop}
theorem LV.inv {t : Expr} {body : List Stmt} {Q : Fl → Lm → CH → Prop} (I : Nat → Lm → CH → Prop)
    (hz : ∀ m σ, I 0 m σ → TV w c t m σ (fun b m1 σ1 => b = false ∧ Q .next m1 σ1) X)
    (hs : ∀ k m σ, I (k + 1) m σ → TV w c t m σ (fun b m1 σ1 => match b with
      | false => Q .next m1 σ1
      | true => XVs w c body m1 σ1 (fun f m2 σ2 => match f with | .next => I k m2 σ2 | .ret cv => Q (.ret cv) m2 σ2) X) X) : ∀ (k : Nat) (m : Lm) (σ : CH), I k m σ → LV w c t body Q X k m σ
  | 0, m, σ, h => hz m σ h
  | k + 1, m, σ, h => fun T s W => (hs k m σ h T s W).mono (fun b m1 σ1 q => by
      induction b with
      | false => exact q
      | true => exact fun T s W => (q T s W).mono (fun f m2 σ2 q => by
          induction f with
          | next => exact LV.inv I hz hs k m2 σ2 q
          | ret cv => exact q) fun _ h => h) fun _ h => h
theorem XV.whileInv {t : Expr} {body : List Stmt} {p : Pos} {Q : Fl → Lm → CH → Prop} (k : Nat) (I : Nat → Lm → CH → Prop) (h0 : I k m σ)
    (hz : ∀ m σ, I 0 m σ → TV w c t m σ (fun b m1 σ1 => b = false ∧ Q .next m1 σ1) X)
    (hs : ∀ k m σ, I (k + 1) m σ → TV w c t m σ (fun b m1 σ1 => match b with
      | false => Q .next m1 σ1
      | true => XVs w c body m1 σ1 (fun f m2 σ2 => match f with | .next => I k m2 σ2 | .ret cv => Q (.ret cv) m2 σ2) X) X) : XV w c (.While t body [] p) m σ Q X := XV.while k (LV.inv I hz hs k m σ h0)
end
noncomputable def kindB (k : Int) : Bool := k == -1 || k == -2 || k == -16 || k == -17
noncomputable def kB : Nat → Int
  | 0 => 0
  | k + 1 => 4 * kB k + 4
theorem kind_at {r : Int} (h0 : 0 ≤ r) (h1 : r < 4) : ∃ k, kindB k = true ∧ [CV.int (-1), .int (-2), .int (-16), .int (-17)][r.toNat]? = some (.int k) := by
  have : r = 0 ∨ r = 1 ∨ r = 2 ∨ r = 3 := by lia
  rcases this with rfl | rfl | rfl | rfl <;> exact ⟨_, by decide, rfl⟩
theorem kinds_ok {w : World} {σ : CH} {X : CH → Prop} (n : Int) (Q : CV → CH → Prop) (hF : Free σ) (h0 : 0 ≤ n) (h1 : n ≤ 84)
    (q : ∀ (ks : List Int) (σ' : CH), ks.all kindB = true → ks.length ≤ 3 → Up σ σ' → Q (.tup (ks.map CV.int)) σ') : CallOk w 1 (.ref 580) [.int n] σ Q X := by
  refine CallOk.topW false _ ["number"] (.bi bi_tuple (by decide) .nil) (by k_is) (by k_is) (ar1 fun _ => rfl) rfl (by decide) (fun c hl fr hc => ?_)
  refine hide fun Ph hPh => ?_
  obtain ⟨hnm, hcd, hcm⟩ := hc
  obtain ⟨j, hj1, hj2⟩ := hF.pick
  refine hPh ?_
  refine SL.mk (some j) (lstQ_some hj2 ?_)
  refine (?_ : SX _ _ _ _ _ _ _)
  refine ⟨XV.whileInv 3 (fun k m σ1 => ∃ (N : Int) (acc : List Int), 0 ≤ N ∧ N ≤ kB k ∧ acc.all kindB = true ∧ acc.length + k ≤ 3 ∧ m.lookup (Str.ofString "number") = some (.int N) ∧ m.lookup (Str.ofString "found") = some (.ref j) ∧ Up σ σ1 ∧ σ1 j = some (.list (acc.map CV.int)))
    ⟨n, [], h0, h1, rfl, by decide, rfl, rfl, Up.new hF hj1 hj2 _, CH.set_self ..⟩ ?_ ?_⟩
  · rintro m σ1 ⟨N, acc, n0, n1, ha, hz, hm1, hm2, u, hs⟩
    have n1 : N ≤ 0 := n1
    refine fr.T false ?_
    conv => whnf
    refine rwP (show List.lookup (Str.ofString "number") m = _ from hm1) ?_
    refine cmpGt2 (fun hb => ?_) fun hb => ?_
    · refine ⟨rfl, ?_⟩
      conv => whnf
      refine rwP (show List.lookup (Str.ofString "found") m = _ from hm2) ?_
      refine SC.mk (CallV.tupleOf (l := acc.map CV.int) hs (by rw [List.length_map]; lia) (fun _ h => nomatch h) ?_)
      exact q acc _ ha ‹_› u
    · exact absurd (of_decide_eq_true hb) (by lia)
  · rintro k m σ1 ⟨N, acc, n0, n1, ha, hz, hm1, hm2, u, hs⟩
    have n1 : N ≤ 4 * kB k + 4 := n1
    refine fr.T false ?_
    conv => whnf
    refine rwP (show List.lookup (Str.ofString "number") m = _ from hm1) ?_
    refine cmpGt2 (fun hb => ?_) fun hb => ?_
    · conv => whnf
      refine rwP (show List.lookup (Str.ofString "found") m = _ from hm2) ?_
      refine SC.mk (CallV.tupleOf (l := acc.map CV.int) hs (by rw [List.length_map]; lia) (fun _ h => nomatch h) ?_)
      exact q acc _ ha (by lia) u
    · have np := of_decide_eq_true hb
      refine fr.Xs false ?_
      conv => whnf
      refine rwP (show List.lookup (Str.ofString "found") m = _ from hm2) ?_
      refine SM.mk (MethV.lapp hs ?_)
      refine SL.mk none ?_
      conv => whnf
      refine rwP (show List.lookup (Str.ofString "number") m = _ from hm1) ?_
      refine SB.mk none (.mod (by decide) ?_)
      have r0 : 0 ≤ Int.fmod (N - 1) 4 := Int.fmod_nonneg_of_pos _ (by decide)
      have r1 : Int.fmod (N - 1) 4 < 4 := Int.fmod_lt_of_pos _ (by decide)
      obtain ⟨kk, hkk, e⟩ := kind_at r0 r1
      refine itemFl r0 (by exact Int.le_trans ‹_› (by decide)) e ?_
      refine SC.mk (CallV.append hs (by rewrite [List.length_map]; refine rwP sizeLine_eq ?_; lia) ?_)
      conv => whnf
      refine rwP (show List.lookup (Str.ofString "number") m = _ from hm1) ?_
      refine SB.mk none (.div (by decide) (by unfold small; lia) ?_)
      conv => whnf
      refine ⟨Int.fdiv (N - 1) 4, acc ++ [kk], ?_, ?_, ?_, ?_, rfl, hm2, u.tmp hj1 hj2 fun k hk => CH.set_ne _ _ hk, ?_⟩
      · exact Int.fdiv_nonneg (by lia) (by decide)
      · refine rwP (Int.fdiv_eq_ediv_of_nonneg _ (by decide)) ?_; lia
      · refine rwP List.all_append ?_; refine rwP ha ?_; refine rwP List.all_cons ?_; refine rwP hkk ?_; rfl
      · refine rwP List.length_append ?_; show acc.length + 1 + k ≤ 3; lia
      · rewrite [CH.set_self]; refine rwP List.map_append ?_; rfl
theorem CV.kinds {w : World} {c : Cx} {m : Lm} {σ : CH} {X : CH → Prop} {Q : CV → Lm → CH → Prop} {n : Int} (hl : c.lv + 1 ≤ 30) (hF : Free σ) (h0 : 0 ≤ n) (h1 : n ≤ 84)
    (q : ∀ (ks : List Int) (σ' : CH), ks.all kindB = true → ks.length ≤ 3 → Up σ σ' → Q (.tup (ks.map CV.int)) m σ') : SC w c X (.top (.ref 580)) [.int n] Q m σ := ⟨CallV.ok k_law_kinds hl (kinds_ok n _ hF h0 h1 q)⟩
noncomputable def VV.isN : VV → Bool
  | .none => true
  | _ => false
theorem VV.isNone (v : VV) : isNoneQ v.c = some v.isN := by cases v <;> rfl
theorem kindB_eq {k : Int} (h : kindB k = true) : k = -1 ∨ k = -2 ∨ k = -16 ∨ k = -17 := by
  unfold kindB at h; simp only [Bool.or_eq_true, beq_iff_eq] at h; lia
theorem kindB_ref {k : Int} (h : kindB k = true) : refK k = decide (k < -2) := by
  rcases kindB_eq h with rfl | rfl | rfl | rfl <;> rfl
theorem fits_ok {w : World} {σ : CH} {X : CH → Prop} (k : Int) (v : VV) (Q : CV → CH → Prop) (hk : kindB k = true) (q : Q (.bool (fitV k v)) σ) : CallOk w 1 (.ref 587) [.int k, v.c] σ Q X := by
  refine CallOk.topW true _ ["kind", "value"] (.bi bi_int (by decide) (.bi bi_type (by decide) .nil)) (by k_is) (by k_is) (ar2 fun _ _ => rfl) rfl (by decide) (fun c hl fr hc => ?_)
  obtain ⟨hnm, hcd, hcm⟩ := hc
  have hr := kindB_ref hk
  refine cmpLt fun b hb => ?_
  rw [hb] at hr
  induction v with
  | none =>
    rw [show fitV k .none = b from hr] at q
    cases b
    · refine SC.mk (CallV.typeNone ?_)
      conv => whnf
      refine ⟨CmpV.neType (fun _ => meta_NoneType) (fun _ => meta_int) ?_⟩
      refine rwP (show (!(Value.type _ == Value.type "int")) = true from rfl) ?_
      exact q
    · refine cmpI.is true rfl ?_
      exact q
  | bool x =>
    have q : Q (.bool false) σ := q
    cases b
    all_goals conv => whnf
    rotate_left
    focus (refine .is false rfl ?_; refine (?_ : SC _ _ _ _ _ _ _ _))
    all_goals refine ⟨CallV.typeBool ?_⟩
    all_goals conv => whnf
    all_goals refine ⟨CmpV.neType (fun _ => meta_bool) (fun _ => meta_int) ?_⟩
    all_goals refine rwP (show (!(Value.type _ == Value.type "int")) = true from rfl) ?_
    all_goals conv => whnf
    all_goals exact q
  | str0 =>
    have q : Q (.bool false) σ := q
    cases b
    all_goals conv => whnf
    rotate_left
    focus (refine .is false rfl ?_; refine (?_ : SC _ _ _ _ _ _ _ _))
    all_goals refine ⟨CallV.typeStr ?_⟩
    all_goals conv => whnf
    all_goals refine ⟨CmpV.neType (fun _ => meta_str) (fun _ => meta_int) ?_⟩
    all_goals refine rwP (show (!(Value.type _ == Value.type "int")) = true from rfl) ?_
    all_goals conv => whnf
    all_goals exact q
  | lst0 =>
    have q : Q (.bool false) σ := q
    cases b
    all_goals conv => whnf
    rotate_left
    focus (refine .is false rfl ?_; refine (?_ : SC _ _ _ _ _ _ _ _))
    all_goals refine ⟨CallV.typeFl ?_⟩
    all_goals conv => whnf
    all_goals refine ⟨CmpV.neType (fun _ => meta_list) (fun _ => meta_int) ?_⟩
    all_goals refine rwP (show (!(Value.type _ == Value.type "int")) = true from rfl) ?_
    all_goals conv => whnf
    all_goals exact q
  | int i =>
    have q : Q (.bool (decide (0 ≤ i) && (refK k || (k == -1 || k == -2) && decide (i < 2 ^ (if k = -1 then 32 else 64))))) σ := q
    rw [hr] at q
    cases b
    all_goals conv => whnf
    rotate_left
    focus (refine .is false rfl ?_; refine (?_ : SC _ _ _ _ _ _ _ _))
    all_goals refine ⟨CallV.typeInt ?_⟩
    all_goals conv => whnf
    all_goals refine ⟨CmpV.neType (fun _ => meta_int) (fun _ => meta_int) ?_⟩
    all_goals refine rwP (show (!(Value.type "int" == Value.type "int")) = false from rfl) ?_
    all_goals refine (?_ : cmpI _ _ _ _ _)
    all_goals refine cmpLt fun b2 hb2 => ?_
    all_goals (cases b2; rotate_left; focus (rw [show decide (0 ≤ i) = false from decide_eq_false (by have := of_decide_eq_true hb2; lia)] at q; (conv => whnf); exact q))
    all_goals rw [show decide (0 ≤ i) = true from decide_eq_true (by have := of_decide_eq_false hb2; lia)] at q
    all_goals refine (?_ : cmpI _ _ _ _ _)
    all_goals refine .lt ?_
    all_goals refine rwP hb ?_
    all_goals conv => whnf
    focus exact q
    rcases kindB_eq hk with rfl | rfl | rfl | rfl
    · refine SB.mk none (.pow (by decide) (by decide) (by unfold small; decide) ?_)
      refine SB.mk none (.pow (by decide) (by decide) (by unfold small; decide) ?_)
      refine (?_ : itemI _ _ _ _)
      refine itemFl (by decide) (by decide) rfl ?_
      refine cmpI.lt ?_
      exact q
    · refine SB.mk none (.pow (by decide) (by decide) (by unfold small; decide) ?_)
      refine SB.mk none (.pow (by decide) (by decide) (by unfold small; decide) ?_)
      refine (?_ : itemI _ _ _ _)
      refine itemFl (by decide) (by decide) rfl ?_
      refine cmpI.lt ?_
      exact q
    · injection hb
    · injection hb
theorem CV.fits {w : World} {c : Cx} {m : Lm} {σ : CH} {X : CH → Prop} {Q : CV → Lm → CH → Prop} {k : Int} {v : VV} (hl : c.lv + 1 ≤ 30) (hk : kindB k = true) (q : Q (.bool (fitV k v)) m σ) : SC w c X (.top (.ref 587)) [.int k, v.c] Q m σ := ⟨CallV.ok k_law_fits hl (fits_ok k v _ hk q)⟩
theorem law_do_fit_ok {w : World} {σ : CH} {X : CH → Prop} (ks : List Int) (vs : List VV) (Q : CV → CH → Prop) (hF : Free σ) (hb : ks.all kindB = true) (hk : ks.length ≤ 1000000) (hv : vs.length ≤ 1000000)
    (q : ∀ σ', Up σ σ' → Q (.bool (fitsV ks vs)) σ') : CallOk w 3 (.ref 592) [.tup (ks.map CV.int), .fl (vs.map VV.c)] σ Q X := by
  refine CallOk.topW true _ ["kinds", "values"] (.top g_law_fits (.bi bi_all (by decide) (.bi bi_len (by decide) (.bi bi_zip (by decide) .nil)))) (by k_is) (by k_is) (ar2 fun _ _ => rfl) rfl (by decide) (fun c hl fr hc => ?_)
  obtain ⟨hnm, hcd, hcm⟩ := hc
  refine SC.mk (CallV.len (l := ks.map CV.int) rfl (by simpa using hk) ?_)
  refine SC.mk (CallV.len (l := vs.map VV.c) rfl (by simpa using hv) ?_)
  refine cmpEq fun b hb' => ?_
  simp only [List.length_map] at hb'
  cases b
  · have : fitsV ks vs = false := by
      unfold fitsV
      rw [show (ks.length == vs.length) = false by
        cases h : ks.length == vs.length with
        | false => rfl
        | true => rw [beq_iff_eq] at h; rw [h] at hb'; simp at hb']
      rfl
    have q' := q _ (Up.refl hF)
    rw [this] at q'
    exact q'
  · refine (?_ : SE _ _ _ _ _ _ _)
    have he : ks.length = vs.length := by rw [beq_iff_eq] at hb'; lia
    refine ⟨EV.comp (caps := []) ⟨hcm, rfl, by decide, by decide, rfl, nofun, nofun, nofun⟩ (fr.E true ?_) (by intro _; rfl)⟩
    refine (?_ : SC _ _ _ _ _ _ _ _)
    refine hide fun Ph hPh => ?_
    obtain ⟨n, hn1, hn⟩ := hF.pick
    refine hPh ?_
    refine ⟨CallV.zip (n := n) hn ?_⟩
    refine ⟨n, _, _, _, _, iter_zip (k := 0) (l1 := ks.map CV.int) (l2 := vs.map VV.c) (CH.set_self ..), CH.set_self .., src_zit _ _ _ _ rfl (Nat.zero_le _), itr_zit, ?_, ?_⟩
    · refine rwP List.drop_zero ?_; rewrite [zipV, List.length_map]; refine rwP List.length_zip ?_; lia
    refine rwP List.drop_zero ?_; rw [zipV]
    refine CW.map (fun p : Int × VV => CV.tup [.int p.1, p.2.c]) (fun p => CV.bool (fitV p.1 p.2)) (fun σ' => Up σ σ') (fun _ _ => trivial) (fun _ _ h k => h.tmp hn1 hn k) _ _ _ _ ?_ (Up.new hF hn1 hn _) ?_
    · rintro ⟨k, v⟩ hkv c2 ⟨hs2, hl2⟩ m σ2 o hu ho K hK
      rw [relabel_of fr.hs] at hs2
      have i2 : InF w c2 _ _ := ⟨hs2, rfl, rfl, fr.gt⟩
      refine AV.tup (l := [.int k, v.c]) rfl rfl (AVs.cons (AV.name (StOk.loc hs2 rfl) (AVs.cons (AV.name (StOk.loc hs2 rfl) (AVs.nil (i2.E true ?_))) (by rfl))) (by rfl))
      refine CV.fits (by exact lvE ‹_› ‹_› rfl) (List.all_eq_true.mp hb _ (List.of_mem_zip hkv).1) ?_
      exact hK _ _ hu ho
    · intro σ' s
      rewrite [List.nil_append]; refine rwP (show (ks.zip vs).map (fun p => CV.bool (fitV p.1 p.2)) = ((ks.zip vs).map fun p => fitV p.1 p.2).map CV.bool by refine rwP List.map_map ?_; rfl) ?_
      refine SC.mk (CallV.all ?_)
      have : fitsV ks vs = ((ks.zip vs).map fun p => fitV p.1 p.2).all id := by
        unfold fitsV; refine rwP he ?_; refine rwP List.all_map ?_; simp
      refine rwB this ?_; exact q _ s
theorem CV.law_do_fit {w : World} {c : Cx} {m : Lm} {σ : CH} {X : CH → Prop} {Q : CV → Lm → CH → Prop} {ks : List Int} {vs : List VV} (hl : c.lv + 3 ≤ 30) (hF : Free σ) (hb : ks.all kindB = true) (hk : ks.length ≤ 1000000) (hv : vs.length ≤ 1000000)
    (q : ∀ σ', Up σ σ' → Q (.bool (fitsV ks vs)) m σ') : SC w c X (.top (.ref 592)) [.tup (ks.map CV.int), .fl (vs.map VV.c)] Q m σ := ⟨CallV.ok k_law_do_fit hl (law_do_fit_ok ks vs _ hF hb hk hv q)⟩
theorem CV.draw {w : World} {c : Cx} {m : Lm} {σ : CH} {X : CH → Prop} {Q : CV → Lm → CH → Prop} {ns : List Int} {N : Nat} {b : Int} (hl : c.lv + 1 ≤ 30) (hh : HandAt σ N) (hN : N ≤ 100000) (hz : ns.length ≤ 63) (hb : 0 < b) (hF : Free σ)
    (q : ∀ r σ', 0 ≤ r → r < b → UpH σ σ' → HandAt σ' (N + 1) → Q (.int r) m σ') : SC w c X (.top (.ref 566)) [.fl (ns.map .int), .ref 1, .int b] Q m σ := by
  refine hide fun Ph hPh => ?_
  obtain ⟨a, h1, h0, h2⟩ := hh
  refine hPh ?_
  refine ⟨CallV.ok k_law_draw hl (draw_ok ns a b _ h1 h0 (by lia) hz hb fun r r0 r1 => ?_)⟩
  exact q r _ r0 r1 (UpH.hand hF _) ⟨a + 1, CH.set_self .., by lia, by lia⟩
theorem junk_at {r : Int} (h0 : 0 ≤ r) (h1 : r < 8) : ∃ v : VV, okB v.c = true ∧ [CV.int 0, CV.int (2 ^ Int.toNat 32), CV.int (2 ^ Int.toNat 64), CV.int (-1), CV.bool true, CV.bool false, CV.str (Str.ofString "0"), CV.fl [CV.int 0]][r.toNat]? = some v.c := by
  have : r = 0 ∨ r = 1 ∨ r = 2 ∨ r = 3 ∨ r = 4 ∨ r = 5 ∨ r = 6 ∨ r = 7 := by lia
  rcases this with rfl | rfl | rfl | rfl | rfl | rfl | rfl | rfl
  · exact ⟨.int (0), by decide +kernel, rfl⟩
  · exact ⟨.int (2 ^ Int.toNat 32), by decide +kernel, rfl⟩
  · exact ⟨.int (2 ^ Int.toNat 64), by decide +kernel, rfl⟩
  · exact ⟨.int (-1), by decide +kernel, rfl⟩
  · exact ⟨.bool true, by decide +kernel, rfl⟩
  · exact ⟨.bool false, by decide +kernel, rfl⟩
  · exact ⟨.str0, by decide +kernel, rfl⟩
  · exact ⟨.lst0, by decide +kernel, rfl⟩
noncomputable abbrev rightE : List (Int × CV) := [(-1, .fl [.int 5, .int (2 ^ Int.toNat 32 - 1)]), (-2, .fl [.int (2 ^ Int.toNat 32), .int (2 ^ Int.toNat 64 - 1)]), (-16, .fl [.none, .int 2]), (-17, .fl [.none, .int (2 ^ Int.toNat 70)])]
theorem right_at {k : Int} (hk : kindB k = true) : ∃ v0 v1 : VV, okB v0.c = true ∧ okB v1.c = true ∧ lookI rightE k = some (.fl [v0.c, v1.c]) := by
  rcases kindB_eq hk with rfl | rfl | rfl | rfl
  · exact ⟨.int 5, .int (2 ^ Int.toNat 32 - 1), by decide +kernel, by decide +kernel, rfl⟩
  · exact ⟨.int (2 ^ Int.toNat 32), .int (2 ^ Int.toNat 64 - 1), by decide +kernel, by decide +kernel, rfl⟩
  · exact ⟨.none, .int 2, by decide +kernel, by decide +kernel, rfl⟩
  · exact ⟨.none, .int (2 ^ Int.toNat 70), by decide +kernel, by decide +kernel, rfl⟩
structure SDi (w : World) (c : Cx) (X : CH → Prop) (pos : Pos) (ks : List (Option Expr)) (vs : List Expr) (Q : List (CV × CV) → Lm → CH → Prop) (m : Lm) (σ : CH) : Prop where
  h : EP w c pos ks vs m σ Q X
theorem SDi.cons {w : World} {c : Cx} {sc : Scope} {gt : List (Str × CV)} {m : Lm} {σ : CH} {X : CH → Prop} {pos : Pos} {k v : Expr} {ks : List (Option Expr)} {vs : List Expr} {Q : List (CV × CV) → Lm → CH → Prop} (i : InF w c sc gt) (fz : Bool)
    (h : wp w c X ⟨sc, gt, fz⟩ 100 (.E k fun ck m1 σ1 => wp w c X ⟨sc, gt, fz⟩ 100 (.E v fun cv m2 σ2 => SDi w c X pos ks vs (fun l => Q ((ck, cv) :: l)) m2 σ2) m1 σ1) m σ) : SDi w c X pos (some k :: ks) (v :: vs) Q m σ :=
  ⟨EP.cons fun T s W => (i.E fz h T s W).mono (fun _ _ _ q T s W => (i.E fz q T s W).mono (fun _ _ _ q => q.h) fun _ h => h) fun _ h => h⟩
theorem law_value_ok {w : World} {σ : CH} {X : CH → Prop} (ns : List Int) (N : Nat) (k : Int) (Q : CV → CH → Prop) (hh : HandAt σ N) (hN : N ≤ 100000) (hz : ns.length ≤ 63) (hk : kindB k = true) (hF : Free σ)
    (q : ∀ (v : VV) σ', okB v.c = true → UpH σ σ' → HandAt σ' (N + 1) → Q v.c σ') : CallOk w 2 (.ref 599) [.fl (ns.map .int), .ref 1, .int k] σ Q X := by
  refine CallOk.topW true _ ["script", "hand", "kind"] (.top g_law_draw .nil) (by k_is) (by k_is) (ar3 fun _ _ _ => rfl) rfl (by decide) (fun c hl fr hc => ?_)
  obtain ⟨hnm, hcd, hcm⟩ := hc
  refine CV.draw (by exact lv ‹_› rfl) hh hN hz (by decide) hF fun r σ1 r0 r1 u1 h1 => ?_
  refine cmpLt2 (fun hb => ?_) fun hb => ?_
  · have hb := of_decide_eq_false hb
    refine SB.mk none (.pow (by decide) (by decide) (by unfold small; decide) ?_); refine SB.mk none (.pow (by decide) (by decide) (by unfold small; decide) ?_); refine (?_ : itemI _ _ _ _)
    obtain ⟨v, ok, e⟩ := junk_at (r := r - 6) (by lia) (by lia)
    refine itemFl (by lia) (by lia) e ?_
    exact q v _ ok u1 h1
  · have hb := of_decide_eq_true hb
    refine (?_ : SE _ _ _ _ _ _ _)
    obtain ⟨n, hn1, hn⟩ := u1.free.pick
    refine ⟨EV.pick hn (fun o1 => SDi.h (SDi.cons fr true ?_)) (by intro _ _; rfl) (by rfl) (by rfl) (by exact List.cons_ne_nil _ _) (by decide)⟩
    refine SB.mk none (.pow (by decide) (by decide) (by unfold small; decide) ?_); conv => whnf
    refine SDi.cons fr true ?_
    refine SB.mk none (.pow (by decide) (by decide) (by unfold small; decide) ?_); refine SB.mk none (.pow (by decide) (by decide) (by unfold small; decide) ?_); conv => whnf
    refine SDi.cons fr true ?_
    conv => whnf
    refine SDi.cons fr true ?_
    refine SB.mk none (.pow (by decide) (by decide) (by unfold small; decide) ?_); conv => whnf
    refine ⟨EP.nil ⟨CH.set_self .., rightE, rfl, by decide, fun o2 => fr.E true ?_⟩⟩
    conv => whnf
    refine hide fun Ph hPh => ?_
    obtain ⟨v0, v1, k0, k1, e⟩ := right_at hk
    refine hPh ?_
    refine ⟨k, _, CH.set_self .., rfl, e, ?_⟩
    refine SB.mk none (.mod (by decide) ?_)
    refine (?_ : itemI _ _ _ _)
    have f0 : 0 ≤ Int.fmod r 2 := Int.fmod_nonneg_of_pos _ (by decide)
    have f1 : Int.fmod r 2 < 2 := Int.fmod_lt_of_pos _ (by decide)
    obtain ⟨v, ok, e⟩ : ∃ v : VV, okB v.c = true ∧ [v0.c, v1.c][(Int.fmod r 2).toNat]? = some v.c := by
      have : Int.fmod r 2 = 0 ∨ Int.fmod r 2 = 1 := by lia
      rcases this with h | h <;> refine rwP h ?_
      · exact ⟨v0, k0, rfl⟩
      · exact ⟨v1, k1, rfl⟩
    refine itemFl f0 (by exact Int.le_trans ‹_› (by decide)) e ?_
    refine q v _ ok (u1.tmp hn1 (by by_cases z : σ n = none; exact z; rw [u1.1 n (by lia) (.inr z)] at hn; exact hn) fun j hj => ?_) (h1.but hn1 fun j hj => ?_)
    · refine rwP (CH.set_ne _ _ hj) ?_; refine rwP (CH.set_ne _ _ hj) ?_; rfl
    · refine rwP (CH.set_ne _ _ hj) ?_; refine rwP (CH.set_ne _ _ hj) ?_; rfl
theorem CV.law_value {w : World} {c : Cx} {m : Lm} {σ : CH} {X : CH → Prop} {Q : CV → Lm → CH → Prop} {ns : List Int} {N : Nat} {k : Int} (hl : c.lv + 2 ≤ 30) (hh : HandAt σ N) (hN : N ≤ 100000) (hz : ns.length ≤ 63) (hk : kindB k = true) (hF : Free σ)
    (q : ∀ (v : VV) σ', okB v.c = true → UpH σ σ' → HandAt σ' (N + 1) → Q v.c m σ') : SC w c X (.top (.ref 599)) [.fl (ns.map .int), .ref 1, .int k] Q m σ := ⟨CallV.ok k_law_value hl (law_value_ok ns N k _ hh hN hz hk hF q)⟩
theorem CW.run2 {w : World} {P : Cx → Prop} {tg elt : Expr} {n : Nat} {C : CH → Prop} {Q : List CV → CH → Prop} (M : Lm → Prop) (S : Nat → CH → Prop) (E : CV → CV → Prop)
    (hC : ∀ i σ, S i σ → C σ) (hS : ∀ i σ σ', S i σ → (∀ k, k ≠ n → σ' k = σ k) → S i σ') :
    ∀ (l acc : List CV) (m : Lm) (σ : CH) (i : Nat),
    (∀ j x, l[j]? = some x → ∀ c, P c → ∀ m σ o, M m → S (i + j) σ → σ n = some o → ∀ K : CV → Lm → CH → Prop, (∀ cv m' σ', E x cv → M m' → S (i + j + 1) σ' → σ' n = some o → K cv m' σ') → AV w c tg x m σ (fun m1 σ1 => EV w c elt m1 σ1 K noX) noX) →
    M m → S i σ → (∀ acc' σ', F2 E l acc' → S (i + l.length) σ' → Q (acc ++ acc') σ') → CW w P tg elt n C Q l acc m σ
  | [], acc, m, σ, i, _, hm, hs, fin => ⟨hC _ _ hs, fun σ' k => by simpa using fin [] σ' .nil (hS _ _ _ hs k)⟩
  | x :: l, acc, m, σ, i, step, hm, hs, fin => by
    refine ⟨hC _ _ hs, fun c hc o' => step 0 x rfl c hc m (σ.set n o') o' hm (hS _ _ _ hs fun k hk => CH.set_ne _ _ hk) (CH.set_self ..) _ fun cv m' σ' e hm' hs' ho => ⟨ho, ?_⟩⟩
    exact CW.run2 M S E hC hS l (acc ++ [cv]) m' σ' (i + 1) (fun j y hj c hc m σ o h1 h2 h3 K k => step (j + 1) y (by simpa using hj) c hc m σ o h1 (by refine rwP (show i + (j + 1) = i + 1 + j by lia) ?_; exact h2) h3 K fun cv m' σ' a b c d => k cv m' σ' a b (by refine rwP (show i + 1 + j + 1 = i + (j + 1) + 1 by lia) ?_; exact c) d) hm' (by simpa using hs') fun acc' σ'' f s'' => by
      rw [List.append_assoc]; exact fin (cv :: acc') σ'' (.cons e f) (by refine rwP List.length_cons ?_; refine rwP (show i + (l.length + 1) = i + 1 + l.length by lia) ?_; exact s'')
theorem F2.vvs {l l' : List CV} (h : F2 (fun _ cv => ∃ v : VV, okB v.c = true ∧ cv = v.c) l l') : ∃ vs : List VV, (∀ v ∈ vs, okB v.c = true) ∧ l' = vs.map VV.c ∧ vs.length = l.length := by
  induction h with
  | nil => exact ⟨[], fun _ h => absurd h List.not_mem_nil, rfl, rfl⟩
  | cons a _ ih =>
    obtain ⟨v, ok, rfl⟩ := a
    obtain ⟨vs, oks, rfl, e⟩ := ih
    exact ⟨v :: vs, fun u hu => by rcases List.mem_cons.mp hu with rfl | hu; exact ok; exact oks u hu, rfl, by refine rwP List.length_cons ?_; refine rwP List.length_cons ?_; refine rwP e ?_; rfl⟩
theorem law_values_ok {w : World} {σ : CH} {X : CH → Prop} (ns : List Int) (N : Nat) (ks : List Int) (Q : CV → CH → Prop) (hh : HandAt σ N) (hN : N ≤ 50000) (hz : ns.length ≤ 63) (hk : ks.all kindB = true) (hkz : ks.length ≤ 100) (hF : Free σ)
    (q : ∀ (vs : List VV) σ', (∀ v ∈ vs, okB v.c = true) → vs.length ≤ ks.length + 1 → UpH σ σ' → HandAt σ' (N + ks.length + 1) → Q (.fl (vs.map VV.c)) σ') : CallOk w 4 (.ref 604) [.fl (ns.map .int), .ref 1, .tup (ks.map CV.int)] σ Q X := by
  refine CallOk.topWC true _ ["script", "hand", "kinds"] [] (.top g_law_draw (.top g_law_value .nil)) (by k_is) (by k_is) (ar3 fun _ _ _ => rfl) rfl (by decide) (fun c hl fr hc => ?_)
  obtain ⟨hnm, hcd, hcm⟩ := hc
  have hsc := fr.hs
  refine SX.mk (XV.nameComp (caps := [.fl (ns.map .int), .ref 1]) (compOk hsc hcm rfl (by simp only [List.mem_cons, List.not_mem_nil, or_false]; rintro cv (rfl | rfl) <;> rfl)) (by refine rwP hsc ?_; rfl) (by show swapsWith _ _ _ { c.env with scope := c.sc } = _; refine rwP hsc ?_; rfl) (fr.E true ?_) (by intro _; rfl))
  conv => whnf
  obtain ⟨n, hn1, hn⟩ := hF.pick
  refine ⟨n, _, _, _, _, iter_tup hn, CH.set_self .., src_tit (fun _ _ => rfl) _ _ 0 rfl, itr_tit, by refine rwP List.drop_zero ?_; rw [List.length_map]; lia, ?_⟩
  refine rwP List.drop_zero ?_
  refine CW.run2 (fun m => m.lookup (Str.ofString "script") = some (.fl (ns.map .int)) ∧ m.lookup (Str.ofString "hand") = some (.ref 1)) (fun i σ' => UpH σ σ' ∧ HandAt σ' (N + i)) (fun _ cv => ∃ v : VV, okB v.c = true ∧ cv = v.c) (fun _ _ _ => trivial) (fun _ _ _ h k => ⟨h.1.tmp hn1 hn k, h.2.but hn1 k⟩) _ _ _ _ 0 ?_ ⟨rfl, rfl⟩ ⟨(Up.new hF hn1 hn _).h, (hh.up (Up.new hF hn1 hn _))⟩ ?_
  · intro j x hx c2 hc2 m σ2 o hm hu ho K hK
    rw [List.getElem?_map] at hx
    cases hkj : ks[j]? with
    | none => rw [hkj] at hx; injection hx
    | some k =>
      rw [hkj] at hx
      obtain rfl := Option.some.inj hx
      have hs2 := hc2.1
      rw [relabel_of hsc] at hs2
      have i2 : InF w c2 _ _ := ⟨hs2, rfl, rfl, fr.gt⟩
      have hl2 := hc2.2
      have hj := (List.getElem?_eq_some_iff.mp hkj).1
      obtain ⟨hm1, hm2⟩ := hm
      refine AV.name (StOk.loc hs2 rfl) (i2.E true ?_)
      conv => whnf
      refine rwP (show List.lookup (Str.ofString "script") ((Str.ofString "kind", CV.int k) :: m) = _ from hm1) ?_
      refine ⟨rfl, ?_⟩; conv => whnf
      refine rwP (show List.lookup (Str.ofString "hand") ((Str.ofString "kind", CV.int k) :: m) = _ from hm2) ?_
      refine ⟨rfl, ?_⟩
      refine CV.law_value (by exact lvE ‹_› ‹_› rfl) hu.2 (by lia) hz (List.all_eq_true.mp hk _ (List.mem_of_getElem? hkj)) hu.1.free fun v σ3 ok u3 h3 => ?_
      exact hK _ _ _ ⟨v, ok, rfl⟩ ⟨hm1, hm2⟩ ⟨hu.1.trans u3, h3⟩ ((u3.1 n (by lia) (.inr (by refine rwP ho ?_; nofun))).trans ho)
  · intro acc σ' f s
    obtain ⟨vs, oks, rfl, hlen⟩ := f.vvs
    rw [List.length_map] at hlen s
    obtain ⟨u, h⟩ := s
    rw [Nat.zero_add] at h
    refine ⟨rfl, ?_⟩; refine ⟨rfl, ?_⟩
    refine CV.draw (by exact lv ‹_› rfl) h (by lia) hz (by decide) u.free fun r σ4 r0 r1 u4 h4 => ?_
    have u4 := u.trans u4
    rw [List.nil_append]
    refine cmpEq2 (fun hb => ?_) fun hb => ?_
    · refine SE.ifs fr true ?_
      refine cmpEq2 (fun hb => ?_) fun hb => ?_
      · skip
        exact q vs _ oks (by lia) u4 h4
      · refine SB.mk none (.addL (by rewrite [List.length_map]; refine rwP sizeLine_eq ?_; show vs.length + 1 ≤ _; lia) (lstQ_none ?_))
        conv => whnf
        have := q (vs ++ [.int 0]) _ (fun v h => by rcases List.mem_append.mp h with h | h; exact oks v h; refine rwP (List.mem_singleton.mp h) ?_; decide +kernel) (by refine rwP List.length_append ?_; show vs.length + 1 ≤ _; lia) u4 h4
        rw [List.map_append] at this
        exact this
    · refine SE.mk (EV.drop1 rfl (by refine rwP hsc ?_; rfl) (by rw [List.length_map]; lia) ?_ (by decide))
      conv => whnf
      have := q (vs.drop 1) _ (fun v h => oks v (List.mem_of_mem_drop h)) (by refine rwP List.length_drop ?_; lia) u4 h4
      rw [List.map_drop] at this
      exact this
theorem CV.law_values {w : World} {c : Cx} {m : Lm} {σ : CH} {X : CH → Prop} {Q : CV → Lm → CH → Prop} {ns : List Int} {N : Nat} {ks : List Int} (hl : c.lv + 4 ≤ 30) (hh : HandAt σ N) (hN : N ≤ 50000) (hz : ns.length ≤ 63) (hk : ks.all kindB = true) (hkz : ks.length ≤ 100) (hF : Free σ)
    (q : ∀ (vs : List VV) σ', (∀ v ∈ vs, okB v.c = true) → vs.length ≤ ks.length + 1 → UpH σ σ' → HandAt σ' (N + ks.length + 1) → Q (.fl (vs.map VV.c)) m σ') : SC w c X (.top (.ref 604)) [.fl (ns.map .int), .ref 1, .tup (ks.map CV.int)] Q m σ := ⟨CallV.ok k_law_values hl (law_values_ok ns N ks _ hh hN hz hk hkz hF q)⟩
section
variable {w : World} {c : Cx} {m : Lm} {σ : CH} {X X' : CH → Prop}
theorem CallV.monoQ {f : CV} {l : List CV} {Q Q' : CV → Lm → CH → Prop} (h : CallV w c f l m σ Q X) (hq : ∀ cv m' σ', Q cv m' σ' → Q' cv m' σ') (hx : ∀ σ', X σ' → X' σ') : CallV w c f l m σ Q' X' := fun T s fv vs W rf ra =>
  ⟨(h T s fv vs W rf ra).1, (h T s fv vs W rf ra).2.mono (fun cv m' σ' q => hq cv m' σ' q) hx⟩
end
theorem exm63 {w : World} : exmOne (kk.heap_1 w.params) (.ref 63) (.ref 63) = some true := by kernel_rfl
theorem heard_ok {w : World} {σ : CH} {X : CH → Prop} (call : CV) (h : Nat) (Q : CV → CH → Prop) (hu : isUnb call = false)
    (hcall : ∀ (c : Cx) (m : Lm), c.lv + h ≤ 30 → CallV w c call [] m σ (fun cv _ σ' => Q (.tup [.str "told", cv]) σ') (fun σ' => Q (.tup [.str "misused", .none]) σ')) : CallOk w (h + 1) (.ref 573) [call] σ Q X := by
  refine CallOk.topW true _ ["call"] (.top g_Misused .nil) (by k_is) (by k_is) (ar1 fun _ => rfl) rfl (by decide) (fun c hl fr hc => ?_)
  obtain ⟨hnm, hcd, hcm⟩ := hc
  refine SX.mk (XV.tryMis g_Misused exm63 hcm (by refine rwP fr.hs ?_; rfl) (by decide) (fr.Xs true ?_))
  refine SC.mk (CallV.monoQ (hcall c _ ‹_›) (fun cv m' σ' q => ?_) fun σ' q m' => q)
  conv => whnf
  exact ⟨_, rfl, q⟩
noncomputable def upI : Int → Nat → List Int
  | _, 0 => []
  | x, k + 1 => x :: upI (x + 1) k
theorem upL_eq : ∀ (x : Int) (k : Nat), upL x k = (upI x k).map CV.int
  | _, 0 => rfl
  | x, k + 1 => by rewrite [upI]; refine rwP List.map_cons ?_; refine rwB (upL_eq (x + 1) k) ?_; rfl
theorem upI_length : ∀ (x : Int) (k : Nat), (upI x k).length = k
  | _, 0 => rfl
  | x, k + 1 => by rewrite [upI]; refine rwP List.length_cons ?_; rw [upI_length]
theorem upI_mem : ∀ (x : Int) (k : Nat) (i : Int), i ∈ upI x k ↔ x ≤ i ∧ i < x + k
  | x, 0, i => by rw [upI]; simp only [List.not_mem_nil, false_iff]; lia
  | x, k + 1, i => by rw [upI, List.mem_cons, upI_mem (x + 1) k i]; lia
theorem upL_isInt (x : Int) (k : Nat) : (upL x k).all isInt = true := by
  rewrite [upL_eq]; refine rwP List.all_map ?_; exact List.all_eq_true.mpr fun _ _ => rfl
theorem hasInt_up (i x : Int) (k : Nat) : hasInt i (upL x k) = decide (x ≤ i ∧ i < x + k) := by
  rw [upL_eq]
  have : ∀ l : List Int, hasInt i (l.map CV.int) = decide (i ∈ l) := fun l => by
    induction l with
    | nil => rfl
    | cons y l ih =>
      show (y == i || hasInt i (l.map CV.int)) = _
      refine rwP ih ?_; rewrite [Bool.eq_iff_iff, Bool.or_eq_true, beq_iff_eq]; refine rwP decide_eq_true_eq ?_; refine rwP decide_eq_true_eq ?_; rw [List.mem_cons]
      exact or_congr_left eq_comm
  rw [this]
  exact decide_eq_decide.mpr (upI_mem x k i)
theorem lim_all {l r : Int} {mo tp : Option Int} (b1 : l ≤ mo.getD 9) (b1' : mo.getD 9 ≤ 9) (b2 : -1 ≤ tp.getD 9) (r0 : 0 ≤ r) (h0 : 0 ≤ l) (hm : ∀ t, mo = some t → l ≤ t ∧ t ≤ 8) (htp : ∀ u, tp = some u → 0 ≤ u ∧ u ≤ 6) :
    limFit l mo r tp = ((upI l (mo.getD 9 + 1 - l).toNat).map fun i => hasInt i (upL r (tp.getD 9 + 1 - r).toNat)).all id := by
  have key : ((upI l (mo.getD 9 + 1 - l).toNat).map fun i => hasInt i (upL r (tp.getD 9 + 1 - r).toNat)).all id = decide (r ≤ l ∧ mo.getD 9 ≤ tp.getD 9) := by
    refine rwP List.all_map ?_; rewrite [Bool.eq_iff_iff, List.all_eq_true]; refine rwP decide_eq_true_eq ?_
    constructor
    · intro h
      have a1 := h l ((upI_mem _ _ _).mpr (by lia))
      have a2 := h (mo.getD 9) ((upI_mem _ _ _).mpr (by lia))
      simp only [Function.comp_def, id, hasInt_up, decide_eq_true_eq] at a1 a2
      lia
    · intro h i hi
      have hi := (upI_mem _ _ _).mp hi
      simp only [Function.comp_def, id, hasInt_up, decide_eq_true_eq]
      lia
  refine rwP key ?_
  unfold limFit
  by_cases h : l < r
  · refine rwP (if_pos h) ?_; refine rwP (decide_eq_false (by lia)) ?_; rfl
  · refine rwP (if_neg h) ?_
    cases htp' : tp with
    | none => refine rwP (decide_eq_true ⟨by lia, by show mo.getD 9 ≤ 9; exact b1'⟩) ?_; rfl
    | some t =>
      have := htp t htp'
      cases hmo' : mo with
      | none =>
        show false = decide (r ≤ l ∧ (9 : Int) ≤ t)
        refine rwP (decide_eq_false (by lia)) ?_; rfl
      | some u =>
        show decide (u ≤ t) = decide (r ≤ l ∧ u ≤ t)
        exact decide_eq_decide.mpr (by lia)
theorem top_at {r : Int} (h0 : 0 ≤ r) (h1 : r < 8) : ∃ t : Option Int, [CV.none, .int 0, .int 1, .int 2, .int 3, .int 4, .int 5, .int 6][r.toNat]? = some (optC t) ∧ ∀ u, t = some u → 0 ≤ u ∧ u ≤ 6 := by
  have : r = 0 ∨ r = 1 ∨ r = 2 ∨ r = 3 ∨ r = 4 ∨ r = 5 ∨ r = 6 ∨ r = 7 := by lia
  rcases this with rfl | rfl | rfl | rfl | rfl | rfl | rfl | rfl
  · exact ⟨none, rfl, fun u h => nomatch h⟩
  · exact ⟨some 0, rfl, fun u h => by obtain rfl := Option.some.inj h; decide⟩
  · exact ⟨some 1, rfl, fun u h => by obtain rfl := Option.some.inj h; decide⟩
  · exact ⟨some 2, rfl, fun u h => by obtain rfl := Option.some.inj h; decide⟩
  · exact ⟨some 3, rfl, fun u h => by obtain rfl := Option.some.inj h; decide⟩
  · exact ⟨some 4, rfl, fun u h => by obtain rfl := Option.some.inj h; decide⟩
  · exact ⟨some 5, rfl, fun u h => by obtain rfl := Option.some.inj h; decide⟩
  · exact ⟨some 6, rfl, fun u h => by obtain rfl := Option.some.inj h; decide⟩
theorem EV.ifOpt {w : World} {c : Cx} {m : Lm} {σ : CH} {X : CH → Prop} {Q : CV → Lm → CH → Prop} {x y : Str} {p1 p2 p3 p4 p5 p6 : Pos} {k : Nat} {o : Option Int} {d : Int} (hx : m.lookup x = some (optC o)) (hy : m.lookup y = some (.int d)) (q : Q (.int (o.getD d)) m σ) (h1 : (x == dbg) = false) (h2 : (y == dbg) = false) :
    EV w c (.IfExp (.Compare (.Name x p1) [.Is] [.Constant .none k p2] p3) (.Name y p4) (.Name x p5) p6) m σ Q X := by
  refine EV.ifexp (TV.cmp (EV.nm hx (optC_notUnb o) (EV.cNone (cmpIs o.isNone (by cases o <;> rfl) ?_)) h1) (by rfl))
  cases o
  · exact EV.nm hy rfl q h2
  · exact EV.nm hx rfl q h1
section
variable {w : World} {c : Cx} {sc : Scope} {gt : List (Str × CV)} {m : Lm} {σ : CH} {X : CH → Prop} (i : InF w c sc gt)
include i
theorem InF.As (fz : Bool) {ts : List Expr} {cs : List CV} {k : KA} (h : wp w c X ⟨sc, gt, fz⟩ 100 (.As ts cs k) m σ) : AVs w c ts cs m σ k X := wp_ok i.hs i.db i.kd i.gt _ _ _ _ h
theorem XV.assignS (fz : Bool) {t e : Expr} {p : Pos} {Q : KF'} (h : wp w c X ⟨sc, gt, fz⟩ 100 (.E e fun cv m1 σ1 => SA w c X t cv (fun m2 σ2 => Q .next m2 σ2) m1 σ1) m σ)
    (hs : swapsWithSole [t] e p.line c.env = Pure.pure false := by rfl) (hw : swappedStores [t] e c.env = Pure.pure Option.none := by rfl) (he : assignEach [t] c.env = [(false, PySem.assign t c.env)] := by rfl) : XV w c (.Assign [t] e p) m σ Q X :=
  XV.assign ((i.E fz h).mono fun _ _ _ h => h.h) hs hw he
end
theorem limits_right_ok {w : World} {σ : CH} {X : CH → Prop} (ns : List Int) (N : Nat) (l : Int) (mo : Option Int) (Q : CV → CH → Prop) (hh : HandAt σ N) (hN : N ≤ 50000) (hz : ns.length ≤ 63) (hF : Free σ) (h0 : 0 ≤ l) (h1 : l ≤ 6) (hm : ∀ t, mo = some t → l ≤ t ∧ t ≤ 8)
    (q : ∀ σ', UpH σ σ' → HandAt σ' (N + 2) → Q (.bool true) σ') : CallOk w 4 (.ref 637) [.fl (ns.map .int), .ref 1, .int l, optC mo] σ Q X := by
  refine CallOk.topWC true _ ["script", "hand", "least", "most"] ["theirs"] (.top g_law_draw (.bi bi_all (by decide) (.top g_limits_fit (.bi bi_list (by decide) (.bi bi_range (by decide) .nil))))) (by k_is) (by k_is) (ar4 fun _ _ _ _ => rfl) rfl (by decide) (fun c hl fr hc => ?_)
  obtain ⟨hnm, hcd, hcm⟩ := hc
  have hsc := fr.hs
  refine SX.mk (XV.assign2 (fr.E true ?_) (by show swappedStores _ _ { c.env with scope := c.sc } = _; refine rwP hsc ?_; rfl) (by rfl))
  refine CV.draw (by exact lv ‹_› rfl) hh (by exact Nat.le_trans ‹_› (by decide)) hz (by decide) hF fun r σ1 r0 r1 u1 h1' => ?_
  refine CV.draw (by exact lv ‹_› rfl) h1' (by exact Nat.le_trans (Nat.add_le_add_right ‹_› _) (by decide)) hz (by decide) u1.free fun r2 σ2 s0 s1 u2 h2 => ?_
  obtain ⟨tp, e, htp⟩ := top_at s0 s1
  refine itemFl s0 (by exact Int.le_trans ‹_› (by decide)) e ?_
  conv => whnf
  refine ⟨_, _, rfl, StOk.loc hsc rfl, StOk.loc hsc rfl, ?_⟩
  have u2 := u1.trans u2
  refine SE.mk (EV.ifOpt rfl rfl ?_ (by decide) (by decide))
  refine SC.mk (CallV.range2 ?_)
  refine (?_ : SC _ _ _ _ _ _ _ _)
  have b1 : l ≤ mo.getD 9 ∧ mo.getD 9 ≤ 9 := by
    cases hmo : mo with
    | none => exact ⟨by show l ≤ 9; lia, by decide⟩
    | some t => have := hm t hmo; exact ⟨this.1, by show t ≤ 9; lia⟩
  have b2 : -1 ≤ tp.getD 9 ∧ tp.getD 9 ≤ 9 := by
    cases htp' : tp with
    | none => exact ⟨by decide, by decide⟩
    | some t => have := htp t htp'; exact ⟨by show -1 ≤ t; lia, by show t ≤ 9; lia⟩
  refine ⟨CallV.listRange none (by lia) (by exact Int.le_trans ‹_› (by decide)) (by lia) (by lia) (lstQ_none ?_)⟩
  refine SE.mk (EV.ifOpt rfl rfl ?_ (by decide) (by decide))
  refine SC.mk (CallV.range2 ?_)
  refine SC.mk (CallV.listRange none (by lia) (by exact Int.le_of_lt (Int.lt_of_lt_of_le ‹_› (by decide))) (by lia) (by lia) (lstQ_none ?_))
  refine SC.mk (CallV.ok k_limits_fit (by exact lv ‹_› rfl) (limits_ok l r mo tp _ ?_))
  refine SE.mk (EV.compM (caps := [.fl (upL r (tp.getD 9 + 1 - r).toNat)]) CV.int (fun i => .bool (hasInt i (upL r (tp.getD 9 + 1 - r).toNat))) (upI l (mo.getD 9 + 1 - l).toNat) (fun m => m.lookup (Str.ofString "theirs") = some (.fl (upL r (tp.getD 9 + 1 - r).toNat))) (compOk hsc hcm rfl (fun cv h => by refine rwP (List.mem_singleton.mp h) ?_; rfl)) rfl (fr.E true ?_))
  refine ⟨u2.free, by rw [upI_length]; lia, upL_eq _ _ ▸ Iter.fl (by intros; rfl), fun x hx c2 hs2 hl2 m2 σ3 hm3 u3 K hK => ?_, fun σ3 u3 => ?_⟩
  · rw [relabel_of hsc] at hs2
    have i2 : InF w c2 _ _ := ⟨hs2, rfl, rfl, fr.gt⟩
    refine AV.name (StOk.loc hs2 rfl) (i2.E true ?_)
    conv => whnf
    refine rwP (show List.lookup (Str.ofString "theirs") ((Str.ofString "size", CV.int x) :: m2) = _ from hm3) ?_
    refine ⟨rfl, ?_⟩
    refine cmpI.inF (upL_isInt _ _) ?_
    exact hK _ _ hm3 (Up.refl u3.free)
  · refine rwP (show (upI l (mo.getD 9 + 1 - l).toNat).map (fun i => CV.bool (hasInt i (upL r (tp.getD 9 + 1 - r).toNat))) = ((upI l (mo.getD 9 + 1 - l).toNat).map fun i => hasInt i (upL r (tp.getD 9 + 1 - r).toNat)).map CV.bool by refine rwP List.map_map ?_; rfl) ?_
    refine SC.mk (CallV.all ?_)
    refine rwB (lim_all b1.1 (by lia) b2.1 r0 h0 hm htp) ?_
    refine .eqB ?_
    show Q (.bool (limFit l mo r tp == limFit l mo r tp)) σ3
    rw [beq_self_eq_true]
    exact q _ (u2.trans u3.h) (h2.up u3)
theorem CV.limits_right {w : World} {c : Cx} {m : Lm} {σ : CH} {X : CH → Prop} {Q : CV → Lm → CH → Prop} {ns : List Int} {N : Nat} {l : Int} {mo : Option Int} (hl : c.lv + 4 ≤ 30) (hh : HandAt σ N) (hN : N ≤ 50000) (hz : ns.length ≤ 63) (hF : Free σ) (h0 : 0 ≤ l) (h1 : l ≤ 6) (hm : ∀ t, mo = some t → l ≤ t ∧ t ≤ 8)
    (q : ∀ σ', UpH σ σ' → HandAt σ' (N + 2) → Q (.bool true) m σ') : SC w c X (.top (.ref 637)) [.fl (ns.map .int), .ref 1, .int l, optC mo] Q m σ := ⟨CallV.ok k_law_limits_right hl (limits_right_ok ns N l mo _ hh hN hz hF h0 h1 hm q)⟩
structure SD where
  pg : Int
  act : Nat → CV
  kd : Nat → List Int × List Int
  cd : Nat → Int × Int × VV
  tl : Int
  tm : Option Int
  ml : Int
  mm : Option Int
  told : List VV
  seen : List CV
  it : Option CObj
noncomputable abbrev cellC (c : Int × Int × VV) : CV := .tup [.int c.1, .int c.2.1, c.2.2.c]
noncomputable abbrev limC (l : Int) (m : Option Int) : CV := .tup [.int l, optC m]
noncomputable abbrev thingsC : CV := .fl [.fl [.ref 16, .ref 17, .ref 18], .fl [.ref 23], .fl [.ref 24], .fl [.ref 19, .ref 20, .ref 21, .ref 22]]
noncomputable def storeL : Nat → List CV
  | 0 => [.ref 16, .ref 17, .ref 18]
  | 1 => [.ref 23]
  | 2 => [.ref 24]
  | 3 => [.ref 19, .ref 20, .ref 21, .ref 22]
  | _ => []
noncomputable def SD.obj (d : SD) : Nat → CObj
  | 2 => .dict [("page", .int d.pg), ("funcs", .ref 5), ("cells", .ref 6), ("limits", .ref 8), ("seen", .ref 3), ("told", .ref 4), ("things", thingsC)]
  | 3 => .list d.seen
  | 4 => .list [.fl (d.told.map VV.c)]
  | 5 => .list [kindC (d.kd 0), kindC (d.kd 1), kindC (d.kd 2)]
  | 6 => .list [cellC (d.cd 0), cellC (d.cd 1), cellC (d.cd 2), cellC (d.cd 3)]
  | 8 => .list [limC d.tl d.tm, limC d.ml d.mm]
  | 10 => stoO 11 12 13 14 15
  | 11 => szO d.pg
  | 12 => .list (storeL 0)
  | 13 => .list (storeL 1)
  | 14 => .list (storeL 2)
  | 15 => .list (storeL 3)
  | 16 => hosO (kindC (d.kd 0)) (d.act 0)
  | 17 => hosO (kindC (d.kd 1)) (d.act 1)
  | 18 => hosO (kindC (d.kd 2)) (d.act 2)
  | 19 => celO (d.cd 0).1 (d.cd 0).2.1 (d.cd 0).2.2.c
  | 20 => celO (d.cd 1).1 (d.cd 1).2.1 (d.cd 1).2.2.c
  | 21 => celO (d.cd 2).1 (d.cd 2).2.1 (d.cd 2).2.2.c
  | 22 => celO (d.cd 3).1 (d.cd 3).2.1 (d.cd 3).2.2.c
  | 23 => tabO (-16) d.tm 6 25
  | 24 => memO d.mm d.pg 26
  | 25 => .list (List.replicate d.tl.toNat .none)
  | 26 => .barr (Array.replicate (d.ml * d.pg).toNat 0)
  | 30 => .tab 606 "_law_host.<locals>._law_action"
  | 31 => .tab 651 "_law_made.<locals>.<lambda>"
  | 32 => .tab 627 "_law_found_right.<locals>.<lambda>"
  | 33 => .tab 620 "_law_put_right.<locals>.<lambda>"
  | 34 => .tab 613 "_law_calls_right.<locals>.<lambda>"
  | _ => .junk
noncomputable def nms : List Nat := [2, 3, 4, 5, 6, 8, 10, 11, 12, 13, 14, 15, 16, 17, 18, 19, 20, 21, 22, 23, 24, 25, 26, 30, 31, 32, 33, 34]
theorem allC {α : Type} {p : α → Prop} {a : α} {l : List α} (h : p a) (t : ∀ k ∈ l, p k) : ∀ k ∈ a :: l, p k := List.forall_mem_cons.mpr ⟨h, t⟩
theorem nmsAll {p : Nat → Prop} (h2 : p 2) (h3 : p 3) (h4 : p 4) (h5 : p 5) (h6 : p 6) (h8 : p 8) (h10 : p 10) (h11 : p 11) (h12 : p 12) (h13 : p 13) (h14 : p 14) (h15 : p 15) (h16 : p 16) (h17 : p 17) (h18 : p 18) (h19 : p 19) (h20 : p 20) (h21 : p 21) (h22 : p 22) (h23 : p 23) (h24 : p 24) (h25 : p 25) (h26 : p 26) (h30 : p 30) (h31 : p 31) (h32 : p 32) (h33 : p 33) (h34 : p 34) : ∀ k ∈ nms, p k :=
  allC h2 <| allC h3 <| allC h4 <| allC h5 <| allC h6 <| allC h8 <| allC h10 <| allC h11 <| allC h12 <| allC h13 <| allC h14 <| allC h15 <| allC h16 <| allC h17 <| allC h18 <| allC h19 <| allC h20 <| allC h21 <| allC h22 <| allC h23 <| allC h24 <| allC h25 <| allC h26 <| allC h30 <| allC h31 <| allC h32 <| allC h33 <| allC h34 <| List.forall_mem_nil _
structure SD.Ok (w : World) (d : SD) : Prop where
  pg : 1 ≤ d.pg ∧ d.pg ≤ 4
  act : ∀ i, i < 3 → ActOk w (d.act i)
  acu : ∀ i, i < 3 → ∀ u, d.act i ≠ .top u
  kd : ∀ i, i < 3 → (d.kd i).1.all kindB = true ∧ (d.kd i).2.all kindB = true ∧ (d.kd i).1.length ≤ 3 ∧ (d.kd i).2.length ≤ 3
  cd : ∀ i, i < 4 → kindB (d.cd i).1 = true
  tl : 0 ≤ d.tl ∧ d.tl ≤ 6
  ml : 0 ≤ d.ml ∧ d.ml ≤ 5
  tm : ∀ t, d.tm = some t → d.tl ≤ t ∧ t ≤ 8
  mm : ∀ t, d.mm = some t → d.ml ≤ t ∧ t ≤ 8
  told : d.told.length ≤ 10
  seen : d.seen.length ≤ 5
  cok : ∀ i, i < 4 → okB (cellC (d.cd i)) = true
structure St (w : World) (σ : CH) (d : SD) : Prop where
  at' : ∀ k ∈ nms, σ k = some (d.obj k)
  ok : d.Ok w
  free : Free σ
  aux : σ 40 = d.it
theorem St.at {w : World} {σ : CH} {d : SD} (S : St w σ d) (k : Nat) (h : k ∈ nms := by decide) : σ k = some (d.obj k) := S.at' k h
theorem St.upH {w : World} {σ σ' : CH} {d : SD} (S : St w σ d) (u : UpH σ σ') : St w σ' d :=
  ⟨fun k hk => by
    have h1 : k ≠ 1 ∧ k < 100 := (show ∀ k ∈ nms, k ≠ 1 ∧ k < 100 by decide) k hk
    refine rwP (u.1 k h1.1 (.inl h1.2)) ?_; exact S.at' k hk, S.ok, u.2, (u.1 40 (by decide) (.inl (by decide))).trans S.aux⟩
theorem St.up {w : World} {σ σ' : CH} {d : SD} (S : St w σ d) (u : Up σ σ') : St w σ' d := S.upH u.h
theorem St.set {w : World} {σ : CH} {d : SD} (S : St w σ d) (d' : SD) (n : Nat) (ok : d'.Ok w) (h : (∀ k ∈ nms, k ≠ n → d'.obj k = d.obj k)) (hit : d'.it = d.it) (h40 : 40 ≠ n) : St w (σ.set n (d'.obj n)) d' :=
  ⟨fun k hk => by
    by_cases e : k = n
    · subst e; exact CH.set_self ..
    · refine rwP (CH.set_ne _ _ e) ?_; refine rwP (h k hk e) ?_; exact S.at' k hk, ok, S.free.set _ _, (CH.set_ne _ _ h40).trans (S.aux.trans hit.symm)⟩
theorem St.sts {w : World} {σ : CH} {d : SD} (S : St w σ d) : StS σ 10 11 12 13 14 15 storeL :=
  ⟨S.at 10, fun k cv h => by
    match k, h with
    | 0, h => obtain rfl := Option.some.inj h; exact ⟨_, rfl, S.at 12, by decide⟩
    | 1, h => obtain rfl := Option.some.inj h; exact ⟨_, rfl, S.at 13, by decide⟩
    | 2, h => obtain rfl := Option.some.inj h; exact ⟨_, rfl, S.at 14, by decide⟩
    | 3, h => obtain rfl := Option.some.inj h; exact ⟨_, rfl, S.at 15, by decide⟩⟩
theorem get4 (f : Nat → CV) {r : Int} (h0 : 0 ≤ r) (h1 : r < 4) : [f 0, f 1, f 2, f 3][r.toNat]? = some (f r.toNat) := by
  have : r = 0 ∨ r = 1 ∨ r = 2 ∨ r = 3 := by lia
  rcases this with rfl | rfl | rfl | rfl <;> rfl
theorem VV.neUnb (v : VV) : v.c ≠ .unb := by cases v <;> exact fun e => nomatch e
theorem St.cell {w : World} {σ : CH} {d : SD} (S : St w σ d) {i : Nat} (h : i < 4) : σ (19 + i) = some (celO (d.cd i).1 (d.cd i).2.1 (d.cd i).2.2.c) := by
  have : i = 0 ∨ i = 1 ∨ i = 2 ∨ i = 3 := by lia
  rcases this with rfl | rfl | rfl | rfl
  · exact S.at 19
  · exact S.at 20
  · exact S.at 21
  · exact S.at 22
noncomputable def SD.put (d : SD) (i : Nat) (v : VV) : SD := { d with cd := fun j => if j = i then ((d.cd i).1, (d.cd i).2.1, v) else d.cd j }
noncomputable def celP (c : Int × Int × VV) : CObj := celO c.1 c.2.1 c.2.2.c
theorem SD.put_obj (d : SD) (v : VV) {i : Nat} : ∀ k ∈ nms, k ≠ 6 → k ≠ 19 + i → (d.put i v).obj k = d.obj k :=
  nmsAll (fun _ _ => rfl) (fun _ _ => rfl) (fun _ _ => rfl) (fun _ _ => rfl) (fun h _ => absurd rfl h) (fun _ _ => rfl) (fun _ _ => rfl) (fun _ _ => rfl) (fun _ _ => rfl) (fun _ _ => rfl) (fun _ _ => rfl) (fun _ _ => rfl) (fun _ _ => rfl) (fun _ _ => rfl) (fun _ _ => rfl) (fun _ h => congrArg celP (if_neg (c := 0 = i) fun e => h (congrArg (19 + ·) e))) (fun _ h => congrArg celP (if_neg (c := 1 = i) fun e => h (congrArg (19 + ·) e))) (fun _ h => congrArg celP (if_neg (c := 2 = i) fun e => h (congrArg (19 + ·) e))) (fun _ h => congrArg celP (if_neg (c := 3 = i) fun e => h (congrArg (19 + ·) e))) (fun _ _ => rfl) (fun _ _ => rfl) (fun _ _ => rfl) (fun _ _ => rfl) (fun _ _ => rfl) (fun _ _ => rfl) (fun _ _ => rfl) (fun _ _ => rfl) (fun _ _ => rfl)
theorem SD.put_list (d : SD) (v : VV) {i : Nat} (hi : i < 4) : (d.put i v).obj 6 = .list ([cellC (d.cd 0), cellC (d.cd 1), cellC (d.cd 2), cellC (d.cd 3)].set i (.tup [.int (d.cd i).1, .int (d.cd i).2.1, v.c])) := by
  have : i = 0 ∨ i = 1 ∨ i = 2 ∨ i = 3 := by lia
  rcases this with rfl | rfl | rfl | rfl <;> rfl
theorem SD.put_cell (d : SD) (v : VV) {i : Nat} (hi : i < 4) : (d.put i v).obj (19 + i) = celO (d.cd i).1 (d.cd i).2.1 v.c := by
  have : i = 0 ∨ i = 1 ∨ i = 2 ∨ i = 3 := by lia
  rcases this with rfl | rfl | rfl | rfl <;> rfl
theorem okB_cell {a b : Int} {v v' : VV} (h : okB (cellC (a, b, v)) = true) (hv : okB v'.c = true) : okB (cellC (a, b, v')) = true :=
  have h1 := okBs_cons (c := .int a) h
  Bool.and_eq_true_iff.mpr ⟨h1.1, Bool.and_eq_true_iff.mpr ⟨(okBs_cons h1.2).1, Bool.and_eq_true_iff.mpr ⟨hv, rfl⟩⟩⟩
theorem SD.put_ok {w : World} {d : SD} (h : d.Ok w) (v : VV) (i : Nat) (hi : i < 4) (hv : okB v.c = true) : (d.put i v).Ok w :=
  ⟨h.pg, h.act, h.acu, h.kd, fun j hj => by
    show kindB (if j = i then ((d.cd i).1, (d.cd i).2.1, v) else d.cd j).1 = true
    split
    · exact h.cd i hi
    · exact h.cd j hj, h.tl, h.ml, h.tm, h.mm, h.told, h.seen, fun j hj => by
    show okB (cellC (if j = i then ((d.cd i).1, (d.cd i).2.1, v) else d.cd j)) = true
    split
    · exact okB_cell (h.cok i hi) hv
    · exact h.cok j hj⟩
theorem VV.ln (v : VV) : lnC v.c ≤ 1934 ∧ dpC v.c ≤ 1 := by cases v <;> exact ⟨Nat.le_of_ble_eq_true rfl, Nat.le_of_ble_eq_true rfl⟩
theorem VV.lnr (v : VV) : lnC v.c ≤ 1000000 := Nat.le_trans v.ln.1 (by decide)
theorem VV.dpr (v : VV) : dpC v.c ≤ 100 := Nat.le_trans v.ln.2 (by decide)
theorem put_right_ok {w : World} {σ : CH} {X : CH → Prop} (ns : List Int) (N : Nat) (d : SD) (Q : CV → CH → Prop) (S : St w σ d) (hh : HandAt σ N) (hN : N ≤ 50000) (hz : ns.length ≤ 63)
    (q : ∀ d' σ', d'.it = d.it → St w σ' d' → HandAt σ' (N + 2) → Q (.bool true) σ') : CallOk w 8 (.ref 625) [.fl (ns.map .int), .ref 1, .ref 10, .ref 2] σ Q X := by
  refine CallOk.topWC true _ ["script", "hand", "store", "state"] ["which", "value"] (.top g_law_draw (.top g_law_fits (.top g_law_heard (.top g_law_value (.bi bi_repr (by decide) .nil))))) (by k_is) (by k_is) (ar4 fun _ _ _ _ => rfl) rfl (by decide) (fun c hl fr hc => ?_)
  obtain ⟨hnm, hcd, hcm⟩ := hc
  have hsc := fr.hs
  refine CV.draw (by exact lv ‹_› rfl) hh (by exact Nat.le_trans ‹_› (by decide)) hz (by decide) S.free fun r σ1 r0 r1 u1 h1 => ?_
  have S1 := S.upH u1
  refine SX.mk (XV.assignS fr true ?_)
  refine itemDic (S1.at 2) rfl ?_
  refine ⟨rfl, ?_⟩
  refine itemNam (S1.at 6) r0 (by exact Int.le_trans ‹_› (by decide)) (get4 (fun i => cellC (d.cd i)) r0 r1) ?_
  refine SA.mk (AV.tup (l := [.int (d.cd r.toNat).1, .int (d.cd r.toNat).2.1, (d.cd r.toNat).2.2.c]) rfl rfl (fr.As true ?_))
  refine (?_ : SC _ _ _ _ _ _ _ _)
  have hr4 : r.toNat < 4 := by lia
  refine CV.law_value (by exact lv ‹_› rfl) h1 (by exact Nat.le_trans (Nat.add_le_add_right ‹_› _) (by decide)) hz (S.ok.cd _ hr4) S1.free fun v σ2 hok u2 h2 => ?_
  have S2 := S1.upH u2
  refine SE.mk (EV.lambda (S2.at 33) (by decide) hcd (by refine rwP hnm ?_; rfl) (caps := [.int r, v.c, .ref 10]) rfl ?_ (by refine rwP hsc ?_; decide) ?_ (by rfl))
  · intro cv h
    simp only [List.mem_cons, List.not_mem_nil, or_false] at h
    rcases h with rfl | rfl | rfl
    · exact fun e => nomatch e
    · exact v.neUnb
    · exact fun e => nomatch e
  refine (?_ : SC _ _ _ _ _ _ _ _)
  have e10 : σ2 10 = some (stoO 11 12 13 14 15) := S2.at 10
  have e15 : σ2 15 = some (.list (storeL 3)) := S2.at 15
  have ec := S2.cell hr4
  refine ⟨CallV.ok (h := 6) k_law_heard (by exact lv ‹_› rfl) (heard_ok _ 5 _ rfl fun c' m' hl' => ?_)⟩
  refine CallV.lam (by exact lv ‹_› rfl) rfl (by intros; rfl) (by decide) (by decide) (fun c2 hl2 hs2 => ?_) rfl rfl rfl
  have i2 : InF w c2 _ _ := ⟨hs2, rfl, rfl, fr.gt⟩
  refine i2.E true ?_
  refine ⟨rfl, ?_⟩; refine SG.mk (by with_reducible assumption) at_Store_globals (by exact rfl) (by exact nT rfl) ?_; refine ⟨rfl, ?_⟩
  refine itemNam e15 r0 (by exact Int.le_trans ‹_› (by decide)) (get4 (fun i => CV.ref (19 + i)) r0 r1) ?_
  refine SM.mk (MethV.own (by with_reducible assumption) me_Cell_put rfl ?_); refine ⟨(VV.notUnb _), ?_⟩
  refine SC.mk (CallV.ok km_Cell_put (by exact lvS ‹_› ‹_› rfl) (cell_put _ _ _ v _ ec (fun hmu hfit σ3 a3 b3 => ?_) fun hno => ?_))
  · -- told
    have f3 : ∀ k ∈ nms, k ≠ 19 + r.toNat → σ3 k = some (d.obj k) := fun k hk h => (b3 k h).trans (S2.at' k hk)
    have e2 : σ3 2 = _ := f3 2 (by decide) (by exact Nat.ne_of_lt (Nat.lt_of_lt_of_le (by decide) (Nat.le_add_right _ _)))
    have e6 : σ3 6 = _ := f3 6 (by decide) (by exact Nat.ne_of_lt (Nat.lt_of_lt_of_le (by decide) (Nat.le_add_right _ _)))
    refine cmpI.eq ?_
    refine rwP (beq_false_of_ne hmu) ?_
    refine ⟨(VV.notUnb _), ?_⟩
    refine CV.fits (by exact lv ‹_› rfl) (S.ok.cd _ hr4) ?_
    refine rwP hfit ?_
    refine ⟨(VV.notUnb _), ?_⟩
    refine itemDic e2 rfl ?_
    refine ⟨rfl, ?_⟩
    refine SP.mk ⟨_, e6, r0, by lia, hr4, ?_⟩
    have S4 : St w (σ3.set 6 (.list ([cellC (d.cd 0), cellC (d.cd 1), cellC (d.cd 2), cellC (d.cd 3)].set r.toNat (.tup [.int (d.cd r.toNat).1, .int (d.cd r.toNat).2.1, v.c])))) (d.put r.toNat v) := by
      refine ⟨fun k hk => ?_, SD.put_ok S.ok v _ hr4 hok, ?_, (CH.set_ne _ _ (by decide)).trans ((b3 40 (by lia)).trans S2.aux)⟩
      · by_cases k6 : k = 6
        · subst k6; rewrite [CH.set_self]; refine rwP (SD.put_list d v hr4) ?_; rfl
        · refine rwP (CH.set_ne _ _ k6) ?_
          by_cases kc : k = 19 + r.toNat
          · refine rwP kc ?_; refine rwP (SD.put_cell d v hr4) ?_; exact a3
          · refine rwP (SD.put_obj d v k hk k6 kc) ?_; exact f3 k hk kc
      · exact (S2.free.but b3).set _ _
    have e10' : (σ3.set 6 (.list ([cellC (d.cd 0), cellC (d.cd 1), cellC (d.cd 2), cellC (d.cd 3)].set r.toNat (.tup [.int (d.cd r.toNat).1, .int (d.cd r.toNat).2.1, v.c])))) 10 = some (stoO 11 12 13 14 15) := S4.at 10
    have e15' : (σ3.set 6 (.list ([cellC (d.cd 0), cellC (d.cd 1), cellC (d.cd 2), cellC (d.cd 3)].set r.toNat (.tup [.int (d.cd r.toNat).1, .int (d.cd r.toNat).2.1, v.c])))) 15 = some (.list (storeL 3)) := S4.at 15
    have ec' := S4.cell hr4
    have h4 : HandAt (σ3.set 6 (.list ([cellC (d.cd 0), cellC (d.cd 1), cellC (d.cd 2), cellC (d.cd 3)].set r.toNat (.tup [.int (d.cd r.toNat).1, .int (d.cd r.toNat).2.1, v.c])))) (N + 2) := by
      obtain ⟨a, ha, hr⟩ := h2
      exact ⟨a, by refine rwP (CH.set_ne _ _ (by decide)) ?_; refine rwP (b3 1 (by exact Nat.ne_of_lt (Nat.lt_of_lt_of_le (by decide) (Nat.le_add_right _ _)))) ?_; exact ha, hr⟩
    generalize σ3.set 6 (.list ([cellC (d.cd 0), cellC (d.cd 1), cellC (d.cd 2), cellC (d.cd 3)].set r.toNat (.tup [.int (d.cd r.toNat).1, .int (d.cd r.toNat).2.1, v.c]))) = σ4 at *
    refine itemTup (by decide) (by decide) rfl ?_
    refine cmpI.eqS ?_
    refine ⟨rfl, ?_⟩; refine SG.mk (by with_reducible assumption) at_Store_globals (by exact rfl) (by exact nT rfl) ?_; refine ⟨rfl, ?_⟩
    refine itemNam e15' r0 (by exact Int.le_trans ‹_› (by decide)) (get4 (fun i => CV.ref (19 + i)) r0 r1) ?_
    have ec2 : σ4 (19 + r.toNat) = some (celO (d.cd r.toNat).1 (d.cd r.toNat).2.1 v.c) := by
      refine rwB (SD.put_cell d v hr4) ?_
      refine S4.at' _ ?_
      have : r.toNat = 0 ∨ r.toNat = 1 ∨ r.toNat = 2 ∨ r.toNat = 3 := by lia
      rcases this with h | h | h | h <;> refine rwP h ?_ <;> decide
    refine SM.mk (MethV.own (by with_reducible assumption) me_Cell_get rfl ?_)
    refine SC.mk (CallV.ok km_Cell_get (by exact lv ‹_› rfl) (cell_get _ _ v _ ec2 ?_))
    refine SC.mk (CallV.repr hok v.lnr v.dpr ?_)
    refine ⟨(VV.notUnb _), ?_⟩
    refine SC.mk (CallV.repr hok v.lnr v.dpr ?_)
    refine cmpEqS_same rfl ?_
    exact q _ _ (by rfl) S4 h4
  · -- misused
    refine cmpEq2 (fun hb => ?_) fun hb => ?_
    · refine ⟨(VV.notUnb _), ?_⟩
      refine CV.fits (by exact lv ‹_› rfl) (S.ok.cd _ hr4) ?_
      have hf : fitV (d.cd r.toNat).1 v = false := hno.resolve_left fun h => by rw [h] at hb; injection hb
      refine rwP hf ?_
      refine itemTup (by decide) (by decide) rfl ?_
      refine cmpI.eqS ?_
      exact q _ _ (by rfl) S2 h2
    · refine itemTup (by decide) (by decide) rfl ?_
      refine cmpI.eqS ?_
      exact q _ _ (by rfl) S2 h2
theorem many_at {s : Int} (h0 : 0 ≤ s) (h1 : s < 4) : [CV.int 3, .int 1, .int 1, .int 4][s.toNat]? = some (.int (storeL s.toNat).length) := by
  have : s = 0 ∨ s = 1 ∨ s = 2 ∨ s = 3 := by lia
  rcases this with rfl | rfl | rfl | rfl <;> rfl
theorem things_at {s : Int} (h0 : 0 ≤ s) (h1 : s < 4) : [CV.fl [.ref 16, .ref 17, .ref 18], .fl [.ref 23], .fl [.ref 24], .fl [.ref 19, .ref 20, .ref 21, .ref 22]][s.toNat]? = some (.fl (storeL s.toNat)) := by
  have : s = 0 ∨ s = 1 ∨ s = 2 ∨ s = 3 := by lia
  rcases this with rfl | rfl | rfl | rfl <;> rfl
theorem storeL_ref (s : Nat) {a : Nat} {cv : CV} (h : (storeL s)[a]? = some cv) : ∃ n, cv = .ref n := by
  have : ∀ cv ∈ storeL s, ∃ n, cv = .ref n := by
    match s with
    | 0 | 1 | 2 | 3 => intro cv h; simp only [storeL, List.mem_cons, List.not_mem_nil, or_false] at h; first | (rcases h with rfl | rfl | rfl | rfl <;> exact ⟨_, rfl⟩) | (rcases h with rfl | rfl | rfl <;> exact ⟨_, rfl⟩) | (subst h; exact ⟨_, rfl⟩)
    | k + 4 => intro cv h; exact absurd h List.not_mem_nil
  exact this _ (List.mem_of_getElem? h)
noncomputable def manyN (s : Int) : Int := if 0 ≤ s then (storeL s.toNat).length else 0
theorem noUnb {l : List CV} (h : (l.all fun cv => !isUnb cv) = true) : ∀ cv ∈ l, cv ≠ .unb := fun cv hc e => by
  have := List.all_eq_true.mp h cv hc
  rw [e] at this; injection this
theorem found_right_ok {w : World} {σ : CH} {X : CH → Prop} (ns : List Int) (N : Nat) (d : SD) (Q : CV → CH → Prop) (S : St w σ d) (hh : HandAt σ N) (hN : N ≤ 50000) (hz : ns.length ≤ 63)
    (q : ∀ σ', St w σ' d → HandAt σ' (N + 2) → Q (.bool true) σ') : CallOk w 8 (.ref 632) [.fl (ns.map .int), .ref 1, .ref 10, .ref 2] σ Q X := by
  refine CallOk.topWC true _ ["script", "hand", "store", "state"] ["sort", "address"] (.top g_law_draw (.top g_law_heard .nil)) (by k_is) (by k_is) (ar4 fun _ _ _ _ => rfl) rfl (by decide) (fun c hl fr hc => ?_)
  obtain ⟨hnm, hcd, hcm⟩ := hc
  have hsc := fr.hs
  refine SX.mk (XV.assignS fr true ?_ (hw := by show swappedStores _ _ { c.env with scope := c.sc } = _; refine rwP hsc ?_; rfl))
  refine CV.draw (by exact lv ‹_› rfl) hh (by exact Nat.le_trans ‹_› (by decide)) hz (by decide) S.free fun r σ1 r0 r1 u1 h1 => ?_
  have S1 := S.upH u1
  refine CV.draw (by exact lv ‹_› rfl) h1 (by exact Nat.le_trans (Nat.add_le_add_right ‹_› _) (by decide)) hz (by decide) S1.free fun r' σ2 s0 s1 u2 h2 => ?_
  have S2 := S1.upH u2
  refine SA.mk (AV.tup (l := [.int (r - 1), .int (r' - 1)]) rfl rfl (fr.As true ?_))
  have s0' : -1 ≤ r - 1 ∧ r - 1 ≤ 5 := by lia
  have a0' : -1 ≤ r' - 1 ∧ r' - 1 ≤ 5 := by lia
  clear r0 r1 s0 s1
  generalize r - 1 = s at *
  generalize r' - 1 = a at *
  have e10 : σ2 10 = some (stoO 11 12 13 14 15) := S2.at 10
  have e2 : σ2 2 = _ := S2.at 2
  refine SE.ifJ fr true (.int (manyN s)) (· = σ2) ?_ fun σ' e => ?_
  · refine ⟨rfl, ?_⟩
    refine cmpLe2 (fun hb => ?_) fun hb => ?_
    · exact ⟨rfl, by unfold manyN; refine rwP (if_neg (of_decide_eq_false hb)) ?_; rfl, rfl⟩
    · have hb := of_decide_eq_true hb
      refine cmpLt fun b hb2 => ?_
      cases b
      · refine ⟨rfl, ?_, rfl⟩
        have : s = 4 ∨ s = 5 := by have := of_decide_eq_false hb2; lia
        rcases this with rfl | rfl <;> rfl
      · have hb2 := of_decide_eq_true hb2
        refine ⟨rfl, ?_⟩
        refine itemFl hb (by exact Int.le_trans ‹_› (by decide)) (many_at hb hb2) ?_
        exact ⟨rfl, by unfold manyN; refine rwP (if_pos hb) ?_; rfl, rfl⟩
  subst e
  refine SE.mk (EV.lambda (S2.at 32) (by decide) hcd (by refine rwP hnm ?_; rfl) (caps := [.ref 10, .int s, .int a]) rfl (noUnb rfl) (by refine rwP hsc ?_; decide) ?_ (by rfl))
  refine SC.mk (CallV.ok (h := 6) k_law_heard (by exact lv ‹_› rfl) (heard_ok _ 5 _ rfl fun c' m' hl' => CallV.lam (by exact lv ‹_› rfl) rfl (by intros; rfl) (by decide) (by decide) (fun c2 hl2 hs2 => InF.E (⟨hs2, rfl, rfl, fr.gt⟩ : InF w c2 _ _) true ?_) rfl rfl rfl))
  refine ⟨rfl, ?_⟩; refine SM.mk (MethV.own (by with_reducible assumption) me_Store_thing rfl ?_); refine ⟨rfl, ?_⟩; refine ⟨rfl, ?_⟩
  refine CV.thing (by exact lvS ‹_› ‹_› rfl) e10 storeL S2.sts.all (fun cv i0 i1 a0 e => ?_) fun hno => ?_
  · obtain ⟨n, rfl⟩ := storeL_ref _ e
    have hlt := (List.getElem?_eq_some_iff.mp e).1
    refine ⟨rfl, ?_⟩
    refine cmpLeV true (decide_eq_true a0) ?_
    refine cmpLtV true (decide_eq_true (show a < manyN s by unfold manyN; refine rwP (if_pos i0) ?_; lia)) ?_
    refine itemTup (by decide) (by decide) rfl ?_
    refine cmpI.eqS ?_
    refine itemTup (by decide) (by decide) rfl ?_
    refine itemDic e2 rfl ?_
    refine ⟨rfl, ?_⟩
    refine itemFl i0 (by exact Int.le_trans ‹_› (by decide)) (things_at i0 i1) ?_
    refine ⟨rfl, ?_⟩
    refine itemFl a0 (by lia) e ?_
    refine cmpI.isRef ?_
    exact q _ S2 h2
  · refine ⟨rfl, ?_⟩
    refine cmpLe2 (fun hb => ?_) fun hb => ?_
    · refine itemTup (by decide) (by decide) rfl ?_
      refine cmpI.eqS ?_
      exact q _ S2 h2
    · have a0 := of_decide_eq_true hb
      refine cmpLtV false (decide_eq_false fun h => ?_) ?_
      rotate_left
      · refine itemTup (by decide) (by decide) rfl ?_
        refine cmpI.eqS ?_
        exact q _ S2 h2
      · unfold manyN at h
        split at h
        · rename_i hs
          refine hno ⟨hs, ?_, a0, h⟩
          have : s = 0 ∨ s = 1 ∨ s = 2 ∨ s = 3 ∨ s = 4 ∨ s = 5 := by lia
          rcases this with rfl | rfl | rfl | rfl | rfl | rfl
          · decide
          · decide
          · decide
          · decide
          · exact absurd h (by show ¬ a < ((0 : Nat) : Int); lia)
          · exact absurd h (by show ¬ a < ((0 : Nat) : Int); lia)
        · lia
theorem law_host_ok {w : World} {σ : CH} {X : CH → Prop} (Q : CV → CH → Prop) (h30 : σ 30 = some (.tab 606 "_law_host.<locals>._law_action"))
    (q : ∀ act, ActOk w act → isUnb act = false → (∀ u, act ≠ .top u) → Q act σ) : CallOk w 2 (.ref 611) [.ref 3, .ref 4] σ Q X := by
  refine CallOk.topWC true _ ["seen", "told"] [] (.bi bi_list (by decide) .nil) (by k_is) (by k_is) (ar2 fun _ _ => rfl) rfl (by decide) (fun c hl fr hc => ?_)
  obtain ⟨hnm, hcd, hcm⟩ := hc
  have hsc := fr.hs
  refine SX.mk (XV.defn h30 (by decide) hcd (by show qualnameIn { c.env with scope := c.sc, qual := c.nm ++ ".<locals>." } _ _ = _; refine rwP hsc ?_; refine rwP hnm ?_; rfl) (caps := [.ref 4, .ref 3]) rfl (noUnb rfl) (by refine rwP hsc ?_; decide) (StOk.loc hsc rfl) ?_ (by rfl) (by rfl) (by rfl))
  refine q _ ?_ rfl (fun u h => nomatch h)
  intro c2 m2 σ2 j seen vs told Q2 X2 hl2 hj h3 h4 zv zs hs ht q2
  refine CallV.defIn (cs := []) (by exact lv ‹_› rfl) rfl (by intros; rfl) (by decide) (by decide) rfl (fun c3 hl3 hs3 => ?_) rfl rfl rfl
  have i3 : InF w c3 _ _ := ⟨hs3, rfl, rfl, fr.gt⟩
  refine i3.Xs true ?_
  refine ⟨rfl, ?_⟩
  refine SM.mk (MethV.lapp hs ?_)
  refine SC.mk (CallV.listOf none (l := vs) hj (by exact Nat.le_trans ‹_› (by decide)) (lstQ_none ?_))
  refine SC.mk (CallV.append hs (by refine rwP sizeLine_eq ?_; lia) ?_)
  refine (?_ : SM _ _ _ _ _ _ _)
  have hj' : (σ2.set 3 (.list (seen ++ [.fl vs]))) j = some (.list vs) := (CH.set_ne _ _ h3).trans hj
  refine ⟨MethV.lclr hj' ?_⟩
  refine SC.mk (CallV.clear hj' (by refine rwP sizeLine_eq ?_; lia) ?_)
  refine ⟨rfl, ?_⟩
  refine itemNam (l := [.fl told]) ((CH.set_ne _ _ h4.symm).trans ((CH.set_ne _ _ (by decide)).trans ht)) (by decide) (by decide) rfl ?_
  exact q2
theorem FV.run2 {w : World} {c : Cx} {tg : Expr} {body : List Stmt} {n : Nat} {C : CH → Prop} {Q : Fl → Lm → CH → Prop} {X : CH → Prop} (I : Nat → Lm → CH → Prop)
    (hC : ∀ i m σ, I i m σ → C σ) (hS : ∀ i m σ σ', I i m σ → (∀ k, k ≠ n → σ' k = σ k) → I i m σ') :
    ∀ (l : List CV) (m : Lm) (σ : CH) (i : Nat),
    (∀ j x, l[j]? = some x → ∀ m σ o, I (i + j) m σ → σ n = some o → ∀ K : Fl → Lm → CH → Prop, (∀ m' σ', I (i + j + 1) m' σ' → σ' n = some o → K .next m' σ') → (∀ cv m' σ', Q (.ret cv) m' σ' → K (.ret cv) m' σ') → AV w c tg x m σ (fun m1 σ1 => XVs w c body m1 σ1 K X) X) →
    I i m σ → (∀ m' σ', I (i + l.length) m' σ' → Q .next m' σ') → FV w c tg body n C Q X l m σ
  | [], m, σ, i, _, hs, fin => ⟨hC _ _ _ hs, fun σ' k => fin m σ' (hS _ _ _ _ hs k)⟩
  | x :: l, m, σ, i, step, hs, fin => by
    refine ⟨hC _ _ _ hs, fun o' => step 0 x rfl m (σ.set n o') o' (hS _ _ _ _ hs fun k hk => CH.set_ne _ _ hk) (CH.set_self ..) _ (fun m' σ' hs' ho => ⟨ho, ?_⟩) fun cv m' σ' q => q⟩
    refine FV.run2 I hC hS l m' σ' (i + 1) (fun j y hj m σ o h2 h3 K k1 k2 => step (j + 1) y (by simpa using hj) m σ o (by refine rwP (show i + (j + 1) = i + 1 + j by lia) ?_; exact h2) h3 K (fun m' σ' b c => k1 m' σ' (by refine rwP (show i + 1 + j + 1 = i + (j + 1) + 1 by lia) ?_; exact b) c) k2) (by simpa using hs') fun m'' σ'' b => fin m'' σ'' (by refine rwP List.length_cons ?_; refine rwP (show i + (l.length + 1) = i + 1 + l.length by lia) ?_; exact b)
theorem get3 (f : Nat → CV) {r : Int} (h0 : 0 ≤ r) (h1 : r < 3) : [f 0, f 1, f 2][r.toNat]? = some (f r.toNat) := by
  have : r = 0 ∨ r = 1 ∨ r = 2 := by lia
  rcases this with rfl | rfl | rfl <;> rfl
noncomputable def refsTo (nf : Nat) (ps : List Int) (vs : List VV) (i : Nat) : Bool := ((ps.zip vs).take i).all fun p => refOk nf p.1 p.2
theorem refsTo_succ {nf : Nat} {ps : List Int} {vs : List VV} {i : Nat} {p : Int × VV} (h : (ps.zip vs)[i]? = some p) : refsTo nf ps vs (i + 1) = (refsTo nf ps vs i && refOk nf p.1 p.2) := by
  unfold refsTo
  refine rwP List.take_add_one ?_; refine rwP h ?_; refine rwP List.all_append ?_
  simp
theorem St.host {w : World} {σ : CH} {d : SD} (S : St w σ d) {i : Nat} (h : i < 3) : σ (16 + i) = some (hosO (kindC (d.kd i)) (d.act i)) := by
  have : i = 0 ∨ i = 1 ∨ i = 2 := by lia
  rcases this with rfl | rfl | rfl
  · exact S.at 16
  · exact S.at 17
  · exact S.at 18
theorem vals_repr (vs : List VV) (h : ∀ v ∈ vs, okB v.c = true) (hz : vs.length ≤ 100) : okB (.fl (vs.map VV.c)) = true ∧ lnC (.fl (vs.map VV.c)) ≤ 1000000 ∧ dpC (.fl (vs.map VV.c)) ≤ 100 := by
  have : okBs (vs.map VV.c) = true ∧ lnCs (vs.map VV.c) ≤ 2000 * vs.length ∧ dpCs (vs.map VV.c) ≤ 1 := by
    clear hz
    induction vs with
    | nil => exact ⟨rfl, Nat.zero_le _, Nat.zero_le _⟩
    | cons v vs ih =>
      have a := ih fun u hu => h u (.tail _ hu)
      exact ⟨Bool.and_eq_true_iff.mpr ⟨h v (.head _), a.1⟩, Nat.le_trans (Nat.add_le_add (Nat.add_le_add_right v.ln.1 2) a.2.1) (by show 1934 + 2 + 2000 * vs.length ≤ 2000 * (vs.length + 1); lia), Nat.max_le.mpr ⟨v.ln.2, a.2.2⟩⟩
  exact ⟨this.1, by show lnCs (vs.map VV.c) + 2 ≤ _; lia, by show dpCs (vs.map VV.c) + 1 ≤ _; lia⟩
theorem look {o : Option CV} {cv : CV} {A : CV → Prop} {B : Prop} (h : o = some cv) (q : A cv) : (match (generalizing := false) o with
    | some cv => A cv
    | none => B) := by refine rwP h ?_; exact q
noncomputable def tw (b : Bool) : Str := match b with
  | true => "told"
  | false => "misused"
theorem tw_eq (b : Bool) : (tw b == "told") = b := by cases b <;> decide
theorem heard_gen {w : World} {σ : CH} {X : CH → Prop} (call : CV) (h : Nat) (Q : CV → CH → Prop) (hu : isUnb call = false) (R : Bool → CV → CH → Prop)
    (hcall : ∀ (c : Cx) (m : Lm), c.lv + h ≤ 30 → CallV w c call [] m σ (fun cv _ σ' => R true cv σ') (fun σ' => R false .none σ')) (q : ∀ b cv σ', R b cv σ' → Q (.tup [.str (tw b), cv]) σ') : CallOk w (h + 1) (.ref 573) [call] σ Q X :=
  heard_ok call h Q hu fun c m hl => (hcall c m hl).monoQ (fun cv _ σ' r => q true cv σ' r) fun σ' r => q false .none σ' r
theorem HandAt.set {σ : CH} {N n : Nat} {o : CObj} (h : HandAt σ N) (hn : 1 ≠ n) : HandAt (σ.set n o) N := by
  obtain ⟨a, ha, hr⟩ := h
  exact ⟨a, (CH.set_ne _ _ hn).trans ha, hr⟩
theorem St.setTold {w : World} {σ : CH} {d : SD} (S : St w σ d) (t : List VV) (ht : t.length ≤ 10) : St w (σ.set 4 (.list [.fl (t.map VV.c)])) { d with told := t } :=
  S.set { d with told := t } 4 ⟨S.ok.pg, S.ok.act, S.ok.acu, S.ok.kd, S.ok.cd, S.ok.tl, S.ok.ml, S.ok.tm, S.ok.mm, ht, S.ok.seen, S.ok.cok⟩ (nmsAll (fun _ => rfl) (fun _ => rfl) (fun h => absurd rfl h) (fun _ => rfl) (fun _ => rfl) (fun _ => rfl) (fun _ => rfl) (fun _ => rfl) (fun _ => rfl) (fun _ => rfl) (fun _ => rfl) (fun _ => rfl) (fun _ => rfl) (fun _ => rfl) (fun _ => rfl) (fun _ => rfl) (fun _ => rfl) (fun _ => rfl) (fun _ => rfl) (fun _ => rfl) (fun _ => rfl) (fun _ => rfl) (fun _ => rfl) (fun _ => rfl) (fun _ => rfl) (fun _ => rfl) (fun _ => rfl) (fun _ => rfl)) rfl (by decide)
theorem St.setSeen {w : World} {σ : CH} {d : SD} (S : St w σ d) (t : List CV) (ht : t.length ≤ 5) : St w (σ.set 3 (.list t)) { d with seen := t } :=
  S.set { d with seen := t } 3 ⟨S.ok.pg, S.ok.act, S.ok.acu, S.ok.kd, S.ok.cd, S.ok.tl, S.ok.ml, S.ok.tm, S.ok.mm, S.ok.told, ht, S.ok.cok⟩ (nmsAll (fun _ => rfl) (fun h => absurd rfl h) (fun _ => rfl) (fun _ => rfl) (fun _ => rfl) (fun _ => rfl) (fun _ => rfl) (fun _ => rfl) (fun _ => rfl) (fun _ => rfl) (fun _ => rfl) (fun _ => rfl) (fun _ => rfl) (fun _ => rfl) (fun _ => rfl) (fun _ => rfl) (fun _ => rfl) (fun _ => rfl) (fun _ => rfl) (fun _ => rfl) (fun _ => rfl) (fun _ => rfl) (fun _ => rfl) (fun _ => rfl) (fun _ => rfl) (fun _ => rfl) (fun _ => rfl) (fun _ => rfl)) rfl (by decide)
theorem calls_right_ok {w : World} {σ : CH} {X : CH → Prop} (ns : List Int) (N : Nat) (d : SD) (Q : CV → CH → Prop) (S : St w σ d) (hh : HandAt σ N) (hN : N ≤ 40000) (hz : ns.length ≤ 63)
    (q : ∀ d' σ', d'.it = d.it → St w σ' d' → HandAt σ' (N + 12) → Q (.bool true) σ') : CallOk w 9 (.ref 618) [.fl (ns.map .int), .ref 1, .ref 10, .ref 2] σ Q X := by
  refine CallOk.topWC true _ ["script", "hand", "store", "state"] ["address", "values"] (.top g_law_do_fit (.top g_law_draw (.top g_law_heard (.top g_law_values (.bi bi_list (by decide) (.bi bi_repr (by decide) (.bi bi_zip (by decide) .nil))))))) (by k_is) (by k_is) (ar4 fun _ _ _ _ => rfl) rfl (by decide) (fun c hl fr hc => ?_)
  obtain ⟨hnm, hcd, hcm⟩ := hc
  have hsc := fr.hs
  refine CV.draw (by exact lv ‹_› rfl) hh (by exact Nat.le_trans ‹_› (by decide)) hz (by decide) S.free fun r σ1 r0 r1 u1 h1 => ?_
  have S1 := S.upH u1
  refine SX.mk (XV.assignS fr true ?_)
  refine itemDic (S1.at 2) rfl ?_
  refine ⟨rfl, ?_⟩
  refine itemNam (S1.at 5) r0 (by exact Int.le_trans ‹_› (by decide)) (get3 (fun i => kindC (d.kd i)) r0 r1) ?_
  have hr3 : r.toNat < 3 := by lia
  refine hide fun Ph hPh => ?_
  obtain ⟨kb1, kb2, kl1, kl2⟩ := S.ok.kd _ hr3
  refine hPh ?_
  refine (?_ : SA _ _ _ _ _ _ _ _)
  generalize hps : (d.kd r.toNat).1 = ps at *
  generalize hrs : (d.kd r.toNat).2 = rs at *
  refine ⟨AV.tup (l := [.tup (ps.map CV.int), .tup (rs.map CV.int)]) (by refine rwB hps ?_; refine rwB hrs ?_; rfl) rfl (fr.As true ?_)⟩
  refine CV.law_values (by exact lv ‹_› rfl) h1 (by exact Nat.le_trans (Nat.add_le_add_right ‹_› _) (by decide)) hz kb1 (by exact Nat.le_trans ‹_› (by decide)) S1.free fun vs σ2 oks hlen u2 h2 => ?_
  have S2 := S1.upH u2
  refine ⟨rfl, ?_⟩
  refine CV.law_do_fit (by exact lv ‹_› rfl) S2.free kb1 (by exact Nat.le_trans ‹_› (by decide)) (by lia) fun σ3 u3 => ?_
  have S3 := S2.up u3
  have h3 := h2.up u3
  refine SX.mk (XV.for (fr.E true ?_) (by intro _; rfl))
  refine ⟨rfl, ?_⟩; refine (?_ : SC _ _ _ _ _ _ _ _)
  refine hide fun Ph hPh => ?_
  obtain ⟨n, hn1, hn2⟩ := S3.free.pick
  refine hPh ?_
  refine ⟨CallV.zip (n := n) hn2 ?_⟩
  refine ⟨n, _, _, _, _, iter_zip (k := 0) (l1 := ps.map CV.int) (l2 := vs.map VV.c) (CH.set_self ..), CH.set_self .., src_zit _ _ _ _ rfl (Nat.zero_le _), ?_⟩
  refine rwP List.drop_zero ?_; rw [zipV]
  refine FV.run2 (fun i m σ' => Up σ3 σ' ∧ m.lookup (Str.ofString "due") = some (.bool (fitsV ps vs && refsTo 3 ps vs i)) ∧ m.lookup (Str.ofString "values") = some (.fl (vs.map VV.c)) ∧ m.lookup (Str.ofString "address") = some (.int r) ∧ m.lookup (Str.ofString "results") = some (.tup (rs.map CV.int)) ∧ m.lookup (Str.ofString "script") = some (.fl (ns.map CV.int)) ∧ m.lookup (Str.ofString "hand") = some (.ref 1) ∧ m.lookup (Str.ofString "store") = some (.ref 10) ∧ m.lookup (Str.ofString "state") = some (.ref 2))
    (fun _ _ _ _ => trivial) (fun i m σ2 σ3 s k => ⟨s.1.tmp hn1 hn2 k, s.2⟩) _ _ _ 0 (fun j x hx m σ4 o hI ho K hK _ => ?_) ⟨Up.new S3.free hn1 hn2 _, by show some _ = some _; refine rwP (show refsTo 3 ps vs 0 = true from rfl) ?_; rw [Bool.and_true], rfl, rfl, rfl, rfl, rfl, rfl, rfl⟩ fun m σ4 hI => ?_
  · obtain ⟨hu, hdue, hI⟩ := hI
    rw [Nat.zero_add] at hdue hK
    rw [List.getElem?_map] at hx
    cases hp : (ps.zip vs)[j]? with
    | none => rw [hp] at hx; injection hx
    | some kv =>
      obtain ⟨k, v⟩ := kv
      rw [hp] at hx
      obtain rfl := Option.some.inj hx
      have hsucc := refsTo_succ (nf := 3) hp
      generalize hD0 : (fitsV ps vs && refsTo 3 ps vs j) = D at hdue
      have keep : refOk 3 k v = true ∨ D = false → K .next (("value", v.c) :: ("kind", CV.int k) :: m) σ4 := fun e => hK _ _ ⟨hu, by
        refine Eq.trans (show _ = some (CV.bool D) from hdue) ?_
        refine rwP hsucc ?_; rewrite [← Bool.and_assoc]; refine rwP hD0 ?_
        rcases e with e | e <;> refine rwP e ?_
        · rw [Bool.and_true]
        · rfl, hI⟩ ho
      refine AV.tup (l := [.int k, v.c]) rfl rfl (AVs.cons (AV.name (StOk.loc hsc rfl) (AVs.cons (AV.name (StOk.loc hsc rfl) (AVs.nil (fr.Xs true ?_))) (by rfl))) (by rfl))
      refine cmpEq2 (fun hb => ?_) fun hb => ?_
      · skip
        refine keep (.inl ?_)
        unfold refOk
        refine rwP (show (k != -16) = true by rewrite [bne]; refine rwP hb ?_; rfl) ?_; rfl
      · have hk16 : k = -16 := by simpa using hb
        subst hk16
        refine cmpI.isNot v.isN v.isNone ?_
        cases hvn : v.isN with
        | true =>
          refine keep (.inl ?_)
          induction v with
          | none => rfl
          | _ => injection hvn
        | false =>
          conv => whnf
          refine look hdue ?_
          induction D with
          | false =>
            exact keep (.inr rfl)
          | true =>
            have hf := (Bool.and_eq_true_iff.mp hD0).1
            have hv : fitV (-16) v = true := by
              unfold fitsV at hf; rw [Bool.and_eq_true] at hf
              exact List.all_eq_true.mp hf.2 _ (List.mem_of_getElem? hp)
            induction v with
            | int i =>
              have hi0 : 0 ≤ i := by
                unfold fitV at hv; rw [Bool.and_eq_true] at hv; exact of_decide_eq_true hv.1
              refine cmpGt2 (fun hb => ?_) fun hb => ?_
              · skip
                refine keep (.inl ?_)
                show (decide (0 ≤ i) && decide (i < ((3 : Nat) : Int))) = true
                refine rwP (decide_eq_true hi0) ?_; refine rwP (decide_eq_true (by have := of_decide_eq_false hb; lia)) ?_; rfl
              · skip
                refine hK _ _ ⟨hu, ?_, hI⟩ ho
                have e : refOk 3 (-16) (.int i) = false := by
                  show (decide (0 ≤ i) && decide (i < ((3 : Nat) : Int))) = false
                  refine rwP (decide_eq_false (p := i < ((3 : Nat) : Int)) (by have := of_decide_eq_true hb; lia)) ?_; rw [Bool.and_false]
                refine rwP hsucc ?_; refine rwP e ?_; rw [Bool.and_false, Bool.and_false]; rfl
            | none => injection hvn
            | bool b => injection hv
            | str0 => injection hv
            | lst0 => injection hv
  · refine hide fun Ph hPh => ?_
    obtain ⟨hu, hdue, hm1, hm2, hm3, hm4, hm5, hm6, hm7⟩ := hI
    refine hPh ?_
    have S4 := S3.up hu
    have h4 := h3.up hu
    have hrl : refsTo 3 ps vs (0 + ((ps.zip vs).map fun p => CV.tup [.int p.1, p.2.c]).length) = refsOk 3 ps vs := by
      rw [Nat.zero_add, List.length_map]; unfold refsTo refsOk; refine rwP List.take_length ?_; rfl
    rw [hrl] at hdue
    generalize hD : (fitsV ps vs && refsOk 3 ps vs) = D at hdue
    obtain ⟨o1, o2, o3⟩ := vals_repr vs oks (by lia)
    have caps : (List.map (fun x => List.lookup x m) [Str.ofString "values", Str.ofString "store", Str.ofString "address"]) = [CV.fl (vs.map VV.c), .ref 10, .int r].map some := by
      show [m.lookup (Str.ofString "values"), m.lookup (Str.ofString "store"), m.lookup (Str.ofString "address")] = _
      refine rwP hm1 ?_; refine rwP hm6 ?_; refine rwP hm2 ?_; rfl
    conv => whnf
    refine look hm1 ?_
    refine ⟨rfl, ?_⟩
    refine SC.mk (CallV.repr o1 o2 o3 ?_)
    have e10 : σ4 10 = some (stoO 11 12 13 14 15) := S4.at 10
    refine SE.mk (EV.lambda (S4.at 34) (by decide) hcd (by refine rwP hnm ?_; rfl) (caps := [.fl (vs.map VV.c), .ref 10, .int r]) caps (noUnb rfl) (by refine rwP hsc ?_; decide) ?_ (by rfl))
    refine SC.mk (CallV.ok (h := 7) k_law_heard (by exact lv ‹_› rfl) (heard_gen _ 6 _ rfl (fun b cv σ' => b = D ∧ cv = .none ∧ Up σ4 σ') (fun c' m' hl' => CallV.lam (by exact lv ‹_› rfl) rfl (by intros; rfl) (by decide) (by decide) (fun c2 hl2 hs2 => InF.E (⟨hs2, rfl, rfl, fr.gt⟩ : InF w c2 _ _) true ?_) rfl rfl rfl) fun b cv σ5 hR => ?_))
    · refine ⟨rfl, ?_⟩; refine SM.mk (MethV.own (by with_reducible assumption) me_Store_want_values rfl ?_); refine ⟨rfl, ?_⟩; refine ⟨rfl, ?_⟩; refine (?_ : SC _ _ _ _ _ _ _ _)
      have hho := S4.host hr3
      rw [show kindC (d.kd r.toNat) = kindC (ps, rs) by unfold kindC; refine rwP hps ?_; refine rwP hrs ?_; rfl] at hho
      refine ⟨CallV.ok km_Store_want_values (by exact lvS ‹_› ‹_› rfl) (want_values_ok r (ps, rs) _ vs _ S4.sts r0 (get3 (fun i => CV.ref (16 + i)) r0 r1) hho S4.free (by show ps.length ≤ _; lia) (by lia) (fun i hi => ?_) (fun hok σ5 u5 => ⟨hok.symm.trans hD, rfl, u5⟩) fun hno σ5 u5 => ⟨hno.symm.trans hD, rfl, u5⟩)⟩
      have hi : i < 3 := hi
      have : i = 0 ∨ i = 1 ∨ i = 2 := by lia
      rcases this with rfl | rfl | rfl <;> exact ⟨_, rfl⟩
    refine hide fun Ph hPh => ?_
    obtain ⟨rfl, rfl, u5⟩ := hR
    refine hPh ?_
    have S5 := S4.up u5
    have h5 := h4.up u5
    refine itemTup (by decide) (by decide) rfl ?_
    refine cmpEqS_is (tw_eq _) ?_
    conv => whnf
    refine look hdue ?_
    refine cmpNeB_same ?_
    conv => whnf
    refine look hm1 ?_
    refine ⟨rfl, ?_⟩
    refine SC.mk (CallV.repr o1 o2 o3 ?_)
    refine cmpNeS_same rfl ?_
    conv => whnf
    refine look hm4 ?_
    conv => whnf
    refine look hm5 ?_
    conv => whnf
    refine look hm3 ?_
    refine CV.law_values (by exact lv ‹_› rfl) h5 (by lia) hz kb2 (by exact Nat.le_trans ‹_› (by decide)) S5.free fun told σ6 oks' hlen' u6 h6 => ?_
    have S6 := S5.upH u6
    have e2 : σ6 2 = _ := S6.at 2
    have e4 : σ6 4 = _ := S6.at 4
    obtain ⟨t1, t2, t3⟩ := vals_repr told oks' (by lia)
    refine SC.mk (CallV.listOf none (l := told.map VV.c) rfl (by rw [List.length_map]; lia) (lstQ_none ?_))
    conv => whnf
    refine look hm7 ?_
    refine itemDic e2 rfl ?_
    refine SP.mk ⟨_, e4, by decide, by decide, Nat.zero_lt_one, ?_⟩
    have S7 := S6.setTold told (by lia)
    have h7 := h6.set (n := 4) (o := .list [.fl (told.map VV.c)]) (by decide)
    refine rwP (show [CV.fl (d.told.map VV.c)].set (Int.toNat 0) (.fl (told.map VV.c)) = [.fl (told.map VV.c)] from rfl) ?_
    generalize σ6.set 4 (.list [.fl (told.map VV.c)]) = σ7 at *
    have e2 : σ7 2 = _ := S7.at 2
    have e3 : σ7 3 = some (.list d.seen) := S7.at 3
    conv => whnf
    refine look hm7 ?_
    refine itemDic e2 rfl ?_
    refine SM.mk (MethV.lclr e3 ?_)
    refine SC.mk (CallV.clear e3 (by have := S.ok.seen; refine rwP sizeLine_eq ?_; lia) ?_)
    have S8 := S7.setSeen [] (Nat.zero_le _)
    have h8 := h7.set (n := 3) (o := .list []) (by decide)
    generalize σ7.set 3 (.list []) = σ8 at *
    have e10 : σ8 10 = some (stoO 11 12 13 14 15) := S8.at 10
    have hho := S8.host hr3
    rw [show kindC (({ d with told := told, seen := [] } : SD).kd r.toNat) = kindC (ps, rs) by unfold kindC; refine rwP hps ?_; refine rwP hrs ?_; rfl] at hho
    refine SE.mk (EV.lambda (S8.at 34) (by decide) hcd (by refine rwP hnm ?_; rfl) (caps := [.fl (vs.map VV.c), .ref 10, .int r]) caps (noUnb rfl) (by refine rwP hsc ?_; decide) ?_ (by rfl))
    refine SC.mk (CallV.ok (h := 7) k_law_heard (by exact lv ‹_› rfl) (heard_gen _ 6 _ rfl (fun b cv σ' => fitsV rs told = b ∧ Up (σ8.set 3 (.list [.fl (vs.map VV.c)])) σ' ∧ (b = true → ∃ j, cv = .ref j ∧ 100 ≤ j ∧ σ' j = some (.list (told.map VV.c)))) (fun c' m' hl' => CallV.lam (by exact lv ‹_› rfl) rfl (by intros; rfl) (by decide) (by decide) (fun c2 hl2 hs2 => InF.E (⟨hs2, rfl, rfl, fr.gt⟩ : InF w c2 _ _) true ?_) rfl rfl rfl) fun b cv σ9 hR => ?_))
    · refine ⟨rfl, ?_⟩; refine SM.mk (MethV.own (by with_reducible assumption) me_Store_thing rfl ?_); refine ⟨rfl, ?_⟩
      refine CV.thing' (by exact lvS ‹_› ‹_› rfl) S8.sts (by decide) (by decide) r0 (get3 (fun i => CV.ref (16 + i)) r0 r1) ?_
      refine SM.mk (MethV.own (by with_reducible assumption) me_HostFunc_run rfl ?_); refine ⟨rfl, ?_⟩
      exact SC.mk (CallV.ok km_HostFunc_run (by exact lvS ‹_› ‹_› rfl) (host_run_ok (ps, rs) _ [] vs told _ (S.ok.act _ hr3) (S.ok.acu _ hr3) hho S8.free (S8.at 3) (S8.at 4) (by exact Nat.ne_of_gt (Nat.lt_of_lt_of_le (by decide) (Nat.le_add_right _ _))) (by decide) (by lia) (by lia) (by show rs.length ≤ 1000; lia) (fun hf σ9 j hj1 hj2 hj3 u9 => ⟨hf, u9, fun _ => ⟨j, rfl, hj1, hj3⟩⟩) fun hf σ9 u9 => ⟨hf, u9, fun e => nomatch e⟩))
    obtain ⟨hf, u9, hj⟩ := hR
    have S9 := (S8.setSeen [.fl (vs.map VV.c)] (Nat.le_of_ble_eq_true rfl)).up u9
    have h9 := (h8.set (n := 3) (o := .list [.fl (vs.map VV.c)]) (by decide)).up u9
    clear u9
    have e3 : σ9 3 = some (.list [.fl (vs.map VV.c)]) := S9.at 3
    have e4 : σ9 4 = some (.list [.fl (told.map VV.c)]) := S9.at 4
    conv => whnf
    refine look hm7 ?_
    refine itemDic (S9.at 2) rfl ?_
    conv => whnf
    refine look hm1 ?_
    refine ⟨rfl, ?_⟩
    refine cmpNeSame (res_ref e3) rfl (shLL vs).1 (shLL vs).2 ?_ (fun _ h => nomatch h) (fun _ h => nomatch h) (fun _ h => nomatch h)
    conv => whnf
    refine look hm1 ?_
    refine ⟨rfl, ?_⟩
    refine SC.mk (CallV.repr o1 o2 o3 ?_)
    refine cmpNeS_same rfl ?_
    conv => whnf
    refine look hm7 ?_
    refine itemDic (S9.at 2) rfl ?_
    refine itemNam e4 (by decide) (by decide) rfl ?_
    refine SC.mk (CallV.repr t1 t2 t3 ?_)
    refine SC.mk (CallV.repr t1 t2 t3 ?_)
    refine cmpNeS_same rfl ?_
    conv => whnf
    refine look hm3 ?_
    refine CV.law_do_fit (by exact lv ‹_› rfl) S9.free kb2 (by exact Nat.le_trans ‹_› (by decide)) (by lia) fun σA uA => ?_
    refine rwP hf ?_
    have SA := S9.up uA
    have hA := h9.up uA
    cases b
    · refine itemTup (by decide) (by decide) rfl ?_
      refine cmpI.eqS ?_
      exact q _ _ (by rfl) SA (hA.mono (by lia))
    · obtain ⟨j, rfl, hj1, hj3⟩ := hj rfl
      have hj := uA.at hj3
      refine cmpNeSame (x := .tup [.str "told", .fl (told.map VV.c)]) ?_ ?_ (shTL told).1 (shTL told).2 ?_ (fun _ h => nomatch h) (fun _ h => nomatch h) (fun _ h => nomatch h)
      · show CV.tup [CV.str "told", (match σA j with | some (.list l) => CV.fl l | _ => CV.ref j)] = _
        refine rwP hj ?_; rfl
      · rfl
      refine itemTup (by decide) (by decide) rfl ?_
      refine SM.mk (MethV.lapp hj ?_)
      refine SC.mk (CallV.append hj (by rewrite [List.length_map]; refine rwP sizeLine_eq ?_; lia) ?_)
      have SB : St w (σA.set j (.list (told.map VV.c ++ [.int 7]))) { d with told := told, seen := [.fl (vs.map VV.c)] } :=
        ⟨fun k hk => (CH.set_ne _ _ (by have := (show ∀ k ∈ nms, k < 100 by decide) k hk; lia)).trans (SA.at' k hk), SA.ok, SA.free.set _ _, (CH.set_ne _ _ (by lia)).trans SA.aux⟩
      have hB := hA.but (σ' := σA.set j (.list (told.map VV.c ++ [.int 7]))) hj1 fun k hk => CH.set_ne _ _ hk
      have e4 : (σA.set j (.list (told.map VV.c ++ [.int 7]))) 4 = some (.list [.fl (told.map VV.c)]) := SB.at 4
      conv => whnf
      refine look hm7 ?_
      refine itemDic (SB.at 2) rfl ?_
      refine itemNam e4 (by decide) (by decide) rfl ?_
      refine cmpEqSame (res_vals told) (shL told).1 (shL told).2 ?_
      exact q _ _ (by rfl) SB (hB.mono (by lia))
theorem mul_bd {l pg : Int} (h0 : 0 ≤ l) (h1 : l ≤ 5) (p1 : 1 ≤ pg) (p2 : pg ≤ 100) : 0 ≤ l * pg ∧ l * pg ≤ 500 :=
  ⟨Int.mul_nonneg h0 (by lia), by have := Int.mul_le_mul h1 p2 (by lia) (by decide); lia⟩
theorem memory_init {w : World} {σ : CH} {X : CH → Prop} {n s j : Nat} (l pg : Int) (mo : Option Int) (Q : CV → CH → Prop) (h : σ n = some (.inst 248 [])) (hs : σ s = some (szO pg)) (hj : σ j = none) (h0 : 0 ≤ l) (h1 : l ≤ 100) (p1 : 1 ≤ pg) (p2 : pg ≤ 100)
    (q : l ≤ 5 → ∀ σ', σ' n = some (memO mo pg j) → σ' j = some (.barr (Array.replicate (l * pg).toNat 0)) → (∀ i, i ≠ n → i ≠ j → σ' i = σ i) → Q .none σ')
    (qX : 5 < l → X σ) : CallOk w 1 (.ref 161) [.ref n, .int l, optC mo, .ref s] σ Q X := by
  refine CallOk.topW true _ ["self", "least", "most", "sizes"] (.top g_Misused (.bi bi_bytearray (by decide) .nil)) (by k_is) (by k_is) (ar4 fun _ _ _ _ => rfl) rfl (by decide) (fun c hl fr hc => ?_)
  obtain ⟨hnm, hcd, hcm⟩ := hc
  refine SG.mk (by with_reducible assumption) at_Sizes_pages (by exact rfl) (by exact nT rfl) ?_
  refine cmpGt fun b hb => ?_
  have hsn : s ≠ n := by rintro rfl; rw [h] at hs; cases hs
  have hjn : j ≠ n := by rintro rfl; rw [h] at hj; injection hj
  have hnj := hjn.symm
  cases b
  · have hb' : l ≤ 5 := by have := of_decide_eq_false hb; lia
    have bd := mul_bd h0 hb' p1 p2
    refine SS.mk (by with_reducible assumption) st_Memory_most (by exact rfl) ?_; refine SG.mk (by exact (CH.set_ne _ _ ‹_›).trans (by with_reducible assumption)) at_Sizes_page (by exact rfl) (by exact nT rfl) ?_; refine SS.mk (by exact CH.set_self ..) st_Memory_page (by exact rfl) ?_; refine SG.mk (by exact (CH.set_ne _ _ ‹_›).trans ((CH.set_ne _ _ ‹_›).trans (by with_reducible assumption))) at_Sizes_pages (by exact rfl) (by exact nT rfl) ?_; refine SS.mk (by exact CH.set_self ..) st_Memory_pages (by exact rfl) ?_; refine SG.mk (by exact (CH.set_ne _ _ ‹_›).trans ((CH.set_ne _ _ ‹_›).trans ((CH.set_ne _ _ ‹_›).trans (by with_reducible assumption)))) at_Sizes_page (by exact rfl) (by exact nT rfl) ?_
    refine SB.mk none (.mul (by unfold small; lia) ?_)
    refine SC.mk (CallV.newBa (k := j) (by exact (CH.set_ne _ _ ‹_›).trans ((CH.set_ne _ _ ‹_›).trans ((CH.set_ne _ _ ‹_›).trans (by with_reducible assumption)))) bd.1 (by lia) ?_)
    refine SS.mk (by exact (CH.set_ne _ _ ‹_›).trans (CH.set_self ..)) st_Memory_data (by exact rfl) ?_
    refine q hb' _ (CH.set_self ..) ?_ fun i h1 h2 => ?_
    · exact (CH.set_ne _ _ ‹_›).trans (CH.set_self ..)
    · repeat (refine (CH.set_ne _ _ ‹_›).trans ?_)
      rfl
  · refine SX.mk (XV.raise2 (InF.hs ‹_›) rfl ?_)
    exact qX (of_decide_eq_true hb)
theorem fdiv_pg {o pg : Int} (h0 : 0 ≤ o) (h1 : o ≤ 5) (p1 : 1 ≤ pg) (p2 : pg ≤ 100) : Int.fdiv ((Array.replicate (o * pg).toNat (0 : UInt8)).size) pg = o := by
  refine rwP Array.size_replicate ?_; refine rwP (Int.toNat_of_nonneg (mul_bd h0 h1 p1 p2).1) ?_
  exact Int.mul_fdiv_cancel o (by lia)
theorem memory_grow {w : World} {σ : CH} {X : CH → Prop} {n j : Nat} (o pg more : Int) (mo : Option Int) (Q : CV → CH → Prop) (h : σ n = some (memO mo pg j)) (hj : σ j = some (.barr (Array.replicate (o * pg).toNat 0))) (h0 : 0 ≤ o) (h1 : o ≤ 5) (p1 : 1 ≤ pg) (p2 : pg ≤ 100)
    (q0 : grownV o more mo 5 = none → Q (.int 4294967295) σ) (q1 : 0 ≤ more → grownV o more mo 5 = some (o + more) → Q (.int o) (σ.set j (.barr (Array.replicate ((o + more) * pg).toNat 0)))) : CallOk w 3 (.ref 182) [.ref n, .int more] σ Q X := by
  refine CallOk.topW true _ ["self", "more"] (.int g_REFUSED (.bi bi_bytes (by decide) (.top g_grown .nil))) (by k_is) (by k_is) (ar2 fun _ _ => rfl) rfl (by decide) (fun c hl fr hc => ?_)
  obtain ⟨hnm, hcd, hcm⟩ := hc
  have bd := mul_bd h0 h1 p1 p2
  refine SM.mk (MethV.own (by with_reducible assumption) me_Memory_size rfl ?_)
  refine SC.mk (CallV.ok km_Memory_size (by exact lv ‹_› rfl) (mem_size mo pg _ _ h hj (by refine rwP Array.size_replicate ?_; lia) p1 p2 ?_))
  refine rwP (fdiv_pg h0 h1 p1 p2) ?_
  refine SG.mk (by with_reducible assumption) at_Memory_most (by exact rfl) (by exact optC_notTop _) ?_; refine SG.mk (by with_reducible assumption) at_Memory_pages (by exact rfl) (by exact nT rfl) ?_
  refine CV.grown (by exact lv ‹_› rfl) ?_
  cases hg : grownV o more mo 5 with
  | none =>
    refine cmpI.is true rfl ?_
    exact q0 hg
  | some t =>
    refine cmpI.is false rfl ?_
    have hm : 0 ≤ more ∧ o + more ≤ 5 ∧ t = o + more := by
      unfold grownV at hg
      split at hg
      · injection hg
      · rename_i hh; simp only [Bool.or_eq_true, decide_eq_true_eq, not_or] at hh; obtain rfl := Option.some.inj hg; exact ⟨by lia, by lia, rfl⟩
    refine hide fun Ph hPh => ?_
    obtain ⟨hm0, hm1, rfl⟩ := hm
    refine hPh ?_
    have bd2 := mul_bd hm0 (by lia) p1 p2
    refine SG.mk (by with_reducible assumption) at_Memory_data (by exact rfl) (by exact nT rfl) ?_
    refine SM.mk (MethV.ba (by with_reducible assumption) ?_)
    refine SG.mk (by with_reducible assumption) at_Memory_page (by exact rfl) (by exact nT rfl) ?_
    refine SB.mk none (.mul (by unfold small; lia) ?_)
    refine SC.mk (CallV.bytesInt bd2.1 (by lia) ?_)
    refine SC.mk (CallV.extendBa hj (by refine rwP Array.size_replicate ?_; refine rwP Array.size_replicate ?_; lia) ?_)
    have e : Array.replicate (o * pg).toNat (0 : UInt8) ++ Array.replicate (more * pg).toNat 0 = Array.replicate ((o + more) * pg).toNat 0 := by
      refine rwP Array.replicate_append_replicate ?_
      congr 1
      rw [Int.add_mul]; lia
    refine rwP e ?_
    exact q1 hm0 hg
theorem mkMemory {w : World} {c : Cx} {m : Lm} {σ : CH} {X : CH → Prop} {Q : CV → Lm → CH → Prop} {n s j : Nat} {l pg : Int} {mo : Option Int} (hlv : c.lv + 2 ≤ 30) (hn : σ n = none) (hs : σ s = some (szO pg)) (hj : σ j = none) (hnj : n ≠ j) (h0 : 0 ≤ l) (h1 : l ≤ 100) (p1 : 1 ≤ pg) (p2 : pg ≤ 100)
    (q : l ≤ 5 → ∀ σ', σ' n = some (memO mo pg j) → σ' j = some (.barr (Array.replicate (l * pg).toNat 0)) → (∀ i, i ≠ n → i ≠ j → σ' i = σ i) → Q (.ref n) m σ')
    (qX : 5 < l → ∀ σ', (∀ i, i ≠ n → σ' i = σ i) → X σ') : SC w c X (.top (.ref 248)) [.int l, optC mo, .ref s] Q m σ := by
  have hsn : s ≠ n := by rintro rfl; rw [hn] at hs; injection hs
  refine ⟨CallV.ok k_Memory hlv (CallOk.cls mk_Memory.1 mk_Memory.2.1 mk_Memory.2.2 hn (memory_init l pg mo _ (CH.set_self ..) ((CH.set_ne _ _ hsn).trans hs) ((CH.set_ne _ _ hnj.symm).trans hj) h0 h1 p1 p2 (fun h σ' a b e => ⟨rfl, q h σ' a b fun i i1 i2 => (e i i1 i2).trans (CH.set_ne _ _ i1)⟩) fun h => qX h _ fun i hi => CH.set_ne _ _ hi) fun _ h => h)⟩
theorem make_memory_ok {w : World} {σ : CH} {X : CH → Prop} {st s f t mm g n j : Nat} (l pg : Int) (mo : Option Int) (lm : List CV) (Q : CV → CH → Prop) (h : σ st = some (stoO s f t mm g)) (hs : σ s = some (szO pg)) (ht : σ mm = some (.list lm)) (hz : lm.length ≤ 1000) (hn : σ n = none) (hj : σ j = none) (hnj : n ≠ j) (h0 : 0 ≤ l) (h1 : l ≤ 100) (p1 : 1 ≤ pg) (p2 : pg ≤ 100)
    (q : l ≤ 5 → ∀ σ', σ' n = some (memO mo pg j) → σ' j = some (.barr (Array.replicate (l * pg).toNat 0)) → σ' mm = some (.list (lm ++ [.ref n])) → (∀ i, i ≠ n → i ≠ j → i ≠ mm → σ' i = σ i) → Q (.int lm.length) σ')
    (qX : 5 < l → ∀ σ', (∀ i, i ≠ n → σ' i = σ i) → X σ') : CallOk w 6 (.ref 505) [.ref st, .tup [.int l, optC mo]] σ Q X := by
  refine CallOk.topW true _ ["self", "about"] (.top g_Memory .nil) (by k_is) (by k_is) (ar2 fun _ _ => rfl) rfl (by decide) (fun c hl fr hc => ?_)
  obtain ⟨hnm, hcd, hcm⟩ := hc
  refine SM.mk (MethV.own (by with_reducible assumption) me_Store_add_memory rfl ?_); refine itemTup (by decide) (by decide) rfl ?_; refine itemTup (by decide) (by decide) rfl ?_; refine SG.mk (by with_reducible assumption) at_Store_sizes (by exact rfl) (by exact nT rfl) ?_
  refine mkMemory (by exact lv ‹_› rfl) hn hs hj hnj h0 h1 p1 p2 (fun h6 σ1 a1 a2 a3 => ?_) qX
  have tn : mm ≠ n := by rintro rfl; rw [hn] at ht; injection ht
  have tj : mm ≠ j := by rintro rfl; rw [hj] at ht; injection ht
  have sn : st ≠ n := by rintro rfl; rw [hn] at h; injection h
  have sj : st ≠ j := by rintro rfl; rw [hj] at h; injection h
  refine SC.mk (CallV.ok km_Store_add_memory (by exact lv ‹_› rfl) (add_memory_ok lm (.ref n) _ ((a3 _ sn sj).trans h) rfl ((a3 _ tn tj).trans ht) hz ?_))
  exact q h6 _ ((CH.set_ne _ _ tn.symm).trans a1) ((CH.set_ne _ _ tj.symm).trans a2) (CH.set_self ..) fun i i1 i2 i3 => (CH.set_ne _ _ i3).trans (a3 i i1 i2)
noncomputable def SD.lim (d : SD) (t : Bool) : Int := if t then d.tl else d.ml
noncomputable def SD.most (d : SD) (t : Bool) : Option Int := if t then d.tm else d.mm
noncomputable def SD.gr (d : SD) (t : Bool) (l : Int) : SD := if t then { d with tl := l } else { d with ml := l }
theorem SD.gr_it (d : SD) (t : Bool) (l : Int) : (d.gr t l).it = d.it := by cases t <;> rfl
noncomputable def grt (t : Bool) : Int := if t then 6 else 5
noncomputable def pl (t : Bool) : Int := if t then 0 else 1
theorem SD.lim_at (d : SD) (t : Bool) : [limC d.tl d.tm, limC d.ml d.mm][(pl t).toNat]? = some (limC (d.lim t) (d.most t)) := by cases t <;> rfl
theorem SD.gr_8 (d : SD) (t : Bool) (l : Int) : .list ([limC d.tl d.tm, limC d.ml d.mm].set (pl t).toNat (limC l (d.most t))) = (d.gr t l).obj 8 := by cases t <;> rfl
theorem SD.gr_at (d : SD) (t : Bool) (l : Int) : ∃ L, (d.gr t l).obj 8 = .list L ∧ L[(pl t).toNat]? = some (limC l (d.most t)) := by cases t <;> exact ⟨_, rfl, rfl⟩
theorem SD.gr_obj (d : SD) (t : Bool) (l : Int) : ∀ k ∈ nms, k ≠ 8 → k ≠ (if t then 25 else 26) → (d.gr t l).obj k = d.obj k := by
  cases t
  · exact nmsAll (fun _ _ => rfl) (fun _ _ => rfl) (fun _ _ => rfl) (fun _ _ => rfl) (fun _ _ => rfl) (fun h _ => absurd rfl h) (fun _ _ => rfl) (fun _ _ => rfl) (fun _ _ => rfl) (fun _ _ => rfl) (fun _ _ => rfl) (fun _ _ => rfl) (fun _ _ => rfl) (fun _ _ => rfl) (fun _ _ => rfl) (fun _ _ => rfl) (fun _ _ => rfl) (fun _ _ => rfl) (fun _ _ => rfl) (fun _ _ => rfl) (fun _ _ => rfl) (fun _ _ => rfl) (fun _ h => absurd rfl h) (fun _ _ => rfl) (fun _ _ => rfl) (fun _ _ => rfl) (fun _ _ => rfl) (fun _ _ => rfl)
  · exact nmsAll (fun _ _ => rfl) (fun _ _ => rfl) (fun _ _ => rfl) (fun _ _ => rfl) (fun _ _ => rfl) (fun h _ => absurd rfl h) (fun _ _ => rfl) (fun _ _ => rfl) (fun _ _ => rfl) (fun _ _ => rfl) (fun _ _ => rfl) (fun _ _ => rfl) (fun _ _ => rfl) (fun _ _ => rfl) (fun _ _ => rfl) (fun _ _ => rfl) (fun _ _ => rfl) (fun _ _ => rfl) (fun _ _ => rfl) (fun _ _ => rfl) (fun _ _ => rfl) (fun _ h => absurd rfl h) (fun _ _ => rfl) (fun _ _ => rfl) (fun _ _ => rfl) (fun _ _ => rfl) (fun _ _ => rfl) (fun _ _ => rfl)
noncomputable def tight (mo : Option Int) (g : Int) : Int := match mo with
  | none => g
  | some t => if g < t then g else t
theorem tight_le (mo : Option Int) (g : Int) : tight mo g ≤ g ∧ ∀ u, mo = some u → tight mo g ≤ u := by
  induction mo with
  | none => exact ⟨Int.le_refl _, fun u h => nomatch h⟩
  | some t =>
    refine ⟨?_, fun u h => ?_⟩
    · show (if g < t then g else t) ≤ g
      split <;> lia
    · obtain rfl := Option.some.inj h
      show (if g < t then g else t) ≤ t
      split <;> lia
theorem grown_tight {l m g : Int} {mo : Option Int} (h : 0 ≤ m) : grownV l m mo g = if l + m ≤ tight mo g then some (l + m) else none := by
  have key : (decide (m < 0) || decide (g < l + m) || overC (l + m) mo) = !decide (l + m ≤ tight mo g) := by
    refine rwP (decide_eq_false (show ¬ m < 0 by lia)) ?_; rw [Bool.false_or]
    induction mo with
    | none =>
      show (decide (g < l + m) || false) = !decide (l + m ≤ g)
      rewrite [Bool.or_false]; refine rwB decide_not ?_
      exact decide_eq_decide.mpr (by lia)
    | some t =>
      show (decide (g < l + m) || decide (t < l + m)) = !decide (l + m ≤ if g < t then g else t)
      rewrite [← Bool.decide_or]; refine rwB decide_not ?_
      exact decide_eq_decide.mpr (by split <;> lia)
  unfold grownV
  refine rwP key ?_
  by_cases e : l + m ≤ tight mo g
  · refine rwP (decide_eq_true e) ?_; refine rwP (if_pos e) ?_; rfl
  · refine rwP (decide_eq_false e) ?_; refine rwP (if_neg e) ?_; rfl
theorem more_at {r : Int} (h0 : 0 ≤ r) (h1 : r < 5) : ∃ M, 0 ≤ M ∧ ((M : Int) ≤ 3 ∨ M = 4294967295) ∧ [CV.int r, .int (2 ^ Int.toNat 32 - 1)][(if (r == 4) = true then (1 : Int) else 0).toNat]? = some (.int M) := by
  have : r = 0 ∨ r = 1 ∨ r = 2 ∨ r = 3 ∨ r = 4 := by lia
  rcases this with rfl | rfl | rfl | rfl | rfl <;> exact ⟨_, by decide, by decide, rfl⟩
theorem SD.gr_ok {w : World} {d : SD} (h : d.Ok w) (t : Bool) {l : Int} (h0 : 0 ≤ l) (h1 : l ≤ tight (d.most t) (grt t)) : (d.gr t l).Ok w := by
  have h2 := tight_le (d.most t) (grt t)
  cases t
  · exact ⟨h.pg, h.act, h.acu, h.kd, h.cd, h.tl, ⟨h0, Int.le_trans h1 h2.1⟩, h.tm, fun u hu => ⟨Int.le_trans h1 (h2.2 u hu), (h.mm u hu).2⟩, h.told, h.seen, h.cok⟩
  · exact ⟨h.pg, h.act, h.acu, h.kd, h.cd, ⟨h0, Int.le_trans h1 h2.1⟩, h.ml, fun u hu => ⟨Int.le_trans h1 (h2.2 u hu), (h.tm u hu).2⟩, h.mm, h.told, h.seen, h.cok⟩
structure Gr (w : World) (d : SD) (t : Bool) (l : Int) (N : Nat) (c : Bool) (σ : CH) : Prop where
  two : σ 2 = some (d.obj 2)
  eight : σ 8 = some (d.obj 8)
  hand : HandAt σ N
  no : c = false → St w σ d
  yes : c = true → St w (σ.set 8 ((d.gr t l).obj 8)) (d.gr t l)
theorem Gr.of {w : World} {d : SD} {t : Bool} {l : Int} {N : Nat} {σ : CH} (S : St w σ d) (hh : HandAt σ N) : Gr w d t l N false σ := ⟨S.at 2, S.at 8, hh, fun _ => S, fun h => nomatch h⟩
theorem Gr.on {w : World} {d : SD} {t : Bool} {l : Int} {N : Nat} {σ : CH} (S : St w σ d) (hh : HandAt σ N) (h0 : 0 ≤ l) (h1 : l ≤ tight (d.most t) (grt t)) : Gr w d t l N true (σ.set (if t then 25 else 26) ((d.gr t l).obj (if t then 25 else 26))) := by
  have h : ∀ k, k < 20 → k ≠ (if t then 25 else 26) := fun k hk e => by cases t <;> (rw [e] at hk; revert hk; decide)
  refine ⟨(CH.set_ne _ _ (h 2 (by decide))).trans (S.at 2), (CH.set_ne _ _ (h 8 (by decide))).trans (S.at 8), hh.set (h 1 (by decide)), (fun e => nomatch e), fun _ => ⟨fun k hk => ?_, SD.gr_ok S.ok t h0 h1, (S.free.set _ _).set _ _, (CH.set_ne _ _ (by decide)).trans ((CH.set_ne _ _ (by cases t <;> decide)).trans (S.aux.trans (SD.gr_it d t l).symm))⟩⟩
  by_cases k8 : k = 8
  · subst k8; exact CH.set_self ..
  · refine rwP (CH.set_ne _ _ k8) ?_
    by_cases k2 : k = (if t then 25 else 26)
    · subst k2; exact CH.set_self ..
    · refine rwP (CH.set_ne _ _ k2) ?_; refine rwP (SD.gr_obj d t l k hk k8 k2) ?_; exact S.at' k hk
theorem SD.bnd {w : World} {d : SD} (h : d.Ok w) (t : Bool) : 0 ≤ d.lim t ∧ d.lim t ≤ 6 ∧ (∀ u, d.most t = some u → d.lim t ≤ u ∧ u ≤ 8) := by
  cases t
  · exact ⟨h.ml.1, by have : d.ml ≤ 5 := h.ml.2; show d.ml ≤ 6; lia, h.mm⟩
  · exact ⟨h.tl.1, h.tl.2, h.tm⟩
theorem SD.gr_lim (d : SD) (t : Bool) (l : Int) : (d.gr t l).lim t = l ∧ (d.gr t l).most t = d.most t := by cases t <;> exact ⟨rfl, rfl⟩
theorem grow_right_ok {w : World} {σ : CH} {X : CH → Prop} (ns : List Int) (N : Nat) (d : SD) (t : Bool) (Q : CV → CH → Prop) (S : St w σ d) (hh : HandAt σ N) (hN : N ≤ 40000) (hz : ns.length ≤ 63)
    (q : ∀ d' σ', d'.it = d.it → St w σ' d' → HandAt σ' (N + 3) → Q (.bool true) σ') : CallOk w 5 (.ref 644) [.fl (ns.map .int), .ref 1, .ref 10, .ref 2, .int (pl t + 1)] σ Q X := by
  refine CallOk.topW true _ ["script", "hand", "store", "state", "sort"] (.top g_law_draw (.top g_law_limits_right (.bi bi_int (by decide) .nil))) (by k_is) (by k_is) (ar5 fun _ _ _ _ _ => rfl) rfl (by decide) (fun c hl fr hc => ?_)
  obtain ⟨hnm, hcd, hcm⟩ := hc
  have hsc := fr.hs
  have hp : pl t + 1 - 1 = pl t ∧ 0 ≤ pl t ∧ pl t < 2 := by cases t <;> decide
  obtain ⟨b0, b1, b2⟩ := SD.bnd S.ok t
  have e10 : σ 10 = some (stoO 11 12 13 14 15) := S.at 10
  refine SX.mk (XV.assignS fr true ?_)
  refine itemDic (S.at 2) rfl ?_
  refine (?_ : itemI _ _ _ _)
  refine rwP hp.1 ?_
  refine itemNam (S.at 8) hp.2.1 (by lia) (d.lim_at t) ?_
  refine SA.mk (AV.tup (l := [.int (d.lim t), optC (d.most t)]) rfl rfl (fr.As true ?_))
  refine (?_ : itemI _ _ _ _)
  refine rwP hp.1 ?_
  refine itemFl (cv := .int (grt t)) hp.2.1 (by lia) (by cases t <;> rfl) ?_
  refine CV.draw (by exact lv ‹_› rfl) hh (by exact Nat.le_trans ‹_› (by decide)) hz (by decide) S.free fun r σ1 r0 r1 u1 h1 => ?_
  have S1 := S.upH u1
  have e11 : σ1 10 = some (stoO 11 12 13 14 15) := S1.at 10
  have e23 : σ1 23 = some (tabO (-16) d.tm 6 25) := S1.at 23
  have e24 : σ1 24 = some (memO d.mm d.pg 26) := S1.at 24
  refine SB.mk none (.pow (by decide) (by decide) (by unfold small; decide) ?_)
  refine cmpI.eq ?_
  refine SC.mk (CallV.intBool ?_)
  obtain ⟨M, m0, m1, e⟩ := more_at r0 r1
  refine itemFl (by split <;> decide) (by split <;> decide) e ?_
  refine SE.ifJ fr true (.int (tight (d.most t) (grt t))) (· = σ1) ?_ fun σ' e => ?_
  · refine cmpI.is (d.most t).isNone (by cases d.most t <;> rfl) ?_
    cases hmo : d.most t with
    | none =>
      exact ⟨rfl, rfl, rfl⟩
    | some u =>
      refine cmpGt2 (fun hb => ?_) fun hb => ?_
      · exact ⟨rfl, by show _ = CV.int (if grt t < u then grt t else u); refine rwP (if_neg (of_decide_eq_false hb)) ?_; rfl, rfl⟩
      · exact ⟨rfl, by show _ = CV.int (if grt t < u then grt t else u); refine rwP (if_pos (of_decide_eq_true hb)) ?_; rfl, rfl⟩
  subst e
  refine (?_ : SE _ _ _ _ _ _ _)
  obtain ⟨B, hB⟩ : ∃ B, B = decide (d.lim t + M ≤ tight (d.most t) (grt t)) := ⟨_, rfl⟩
  have hg : grownV (d.lim t) M (d.most t) (grt t) = if B then some (d.lim t + M) else none := by
    refine rwP (grown_tight m0) ?_; refine rwP hB ?_
    by_cases h : d.lim t + M ≤ tight (d.most t) (grt t)
    · refine rwP (if_pos h) ?_; refine rwP (decide_eq_true h) ?_; rfl
    · refine rwP (if_neg h) ?_; refine rwP (decide_eq_false h) ?_; rfl
  refine SE.ifJ fr true (.int (if B then d.lim t else 4294967295)) (Gr w d t (d.lim t + M) (N + 1) B) ?_ fun σ3 G => ?_
  · have hG := fun (e : B = true) => Gr.on (t := t) (l := d.lim t + M) S1 h1 (by lia) (of_decide_eq_true (hB.symm.trans e))
    refine cmpI.eq ?_
    cases t
    · refine SG.mk (by with_reducible assumption) at_Store_memories (by exact rfl) (by exact nT rfl) ?_
      refine itemNam (k := 0) (l := storeL 2) (S1.at 14) (by decide) (by decide) rfl ?_
      refine SM.mk (MethV.own (by with_reducible assumption) me_Memory_grow rfl ?_)
      refine SC.mk (CallV.ok km_Memory_grow (by exact lv ‹_› rfl) (memory_grow d.ml d.pg M d.mm _ (S1.at 24) (S1.at 26) b0 S.ok.ml.2 S.ok.pg.1 (by have := S.ok.pg.2; lia) (fun hn => ?_) fun _ hn => ?_))
      · have hn := hg.symm.trans hn
        cases B
        · exact ⟨rfl, rfl, Gr.of S1 h1⟩
        · injection hn
      · have hn := hg.symm.trans hn
        cases B
        · injection hn
        · exact ⟨rfl, rfl, hG rfl⟩
    · refine SG.mk (by with_reducible assumption) at_Store_tables (by exact rfl) (by exact nT rfl) ?_
      refine itemNam (k := 0) (l := storeL 1) (S1.at 13) (by decide) (by decide) rfl ?_
      refine SM.mk (MethV.own (by with_reducible assumption) me_Table_grow rfl ?_); refine (?_ : SC _ _ _ _ _ _ _ _)
      have hlen : ((List.replicate d.tl.toNat CV.none).length : Int) = d.tl := by refine rwP List.length_replicate ?_; exact Int.toNat_of_nonneg b0
      refine ⟨CallV.ok km_Table_grow (by exact lv ‹_› rfl) (table_grow (-16) 6 M d.tm (List.replicate d.tl.toNat .none) _ (S1.at 23) (S1.at 25) (by have := S.ok.tl.2; lia) (by decide) (fun hn => ?_) fun _ hn => ?_)⟩
      · rw [hlen] at hn
        have hn := hg.symm.trans hn
        cases B
        · exact ⟨rfl, rfl, Gr.of S1 h1⟩
        · injection hn
      · rw [hlen] at hn ⊢
        have hn := hg.symm.trans hn
        cases B
        · injection hn
        · refine ⟨rfl, rfl, ?_⟩
          refine rwP List.replicate_append_replicate ?_; refine rwP (show d.tl.toNat + M.toNat = (d.tl + M).toNat by have : 0 ≤ d.tl := b0; lia) ?_
          exact hG rfl
  refine SE.ifJ fr true (.int (if B then d.lim t else 4294967295)) (· = σ3) ?_ fun σ' e => ?_
  · refine cmpI.le ?_
    refine rwB hB ?_
    cases B
    · refine SB.mk none (.pow (by decide) (by decide) (by unfold small; decide) ?_)
      exact ⟨rfl, rfl, rfl⟩
    · exact ⟨rfl, rfl, rfl⟩
  subst e
  refine cmpNeSelf ?_
  refine cmpI.le ?_
  refine rwB hB ?_
  have tail : ∀ (d' : SD) (l' : Int), d'.Ok w → d'.lim t = l' → d'.most t = d.most t → 0 ≤ l' ∧ l' ≤ 6 ∧ (∀ u, d.most t = some u → l' ≤ u ∧ u ≤ 8) := fun d' l' h e1 e2 => by
    have := SD.bnd h t
    rw [e1, e2] at this; exact this
  cases B
  · have S3 := G.no rfl
    refine SX.mk (XV.assignS fr true ?_)
    refine itemDic G.two rfl ?_
    refine (?_ : itemI _ _ _ _)
    refine rwP hp.1 ?_
    refine itemNam G.eight hp.2.1 (by lia) (d.lim_at t) ?_
    refine SA.mk (AV.tup (l := [.int (d.lim t), optC (d.most t)]) rfl rfl (fr.As true ?_))
    refine CV.limits_right (by exact lv ‹_› rfl) G.hand (by exact Nat.le_trans (Nat.add_le_add_right ‹_› _) (by decide)) hz S3.free b0 b1 b2 fun σ4 u4 h4 => ?_
    exact q d σ4 rfl (S3.upH u4) h4
  · have S3 := G.yes rfl
    have h3 := G.hand.set (n := 8) (o := (d.gr t (d.lim t + M)).obj 8) (by decide)
    obtain ⟨c0, c1, c2⟩ := tail _ _ S3.ok (SD.gr_lim d t _).1 (SD.gr_lim d t _).2
    refine itemDic G.two rfl ?_
    refine (?_ : SP _ _ _ _ _)
    refine rwP hp.1 ?_
    refine SP.mk ⟨_, G.eight, hp.2.1, by lia, by show (pl t).toNat < 2; lia, ?_⟩
    refine rwP (show CObj.list ([limC d.tl d.tm, limC d.ml d.mm].set (pl t).toNat (.tup [.int (d.lim t + M), optC (d.most t)])) = _ from SD.gr_8 d t _) ?_
    refine hide fun Ph hPh => ?_
    obtain ⟨L, eL, aL⟩ := SD.gr_at d t (d.lim t + M)
    refine hPh ?_
    have e8 : (σ'.set 8 ((d.gr t (d.lim t + M)).obj 8)) 8 = some (.list L) := by rewrite [CH.set_self]; refine rwP eL ?_; rfl
    have e2 := S3.at 2
    generalize σ'.set 8 ((d.gr t (d.lim t + M)).obj 8) = σ4 at *
    refine SX.mk (XV.assignS fr true ?_)
    refine itemDic e2 rfl ?_
    refine (?_ : itemI _ _ _ _)
    refine rwP hp.1 ?_
    refine itemNam e8 hp.2.1 (by lia) aL ?_
    refine SA.mk (AV.tup (l := [.int (d.lim t + M), optC (d.most t)]) rfl rfl (fr.As true ?_))
    refine CV.limits_right (by exact lv ‹_› rfl) h3 (by exact Nat.le_trans (Nat.add_le_add_right ‹_› _) (by decide)) hz S3.free c0 c1 c2 fun σ5 u5 h5 => ?_
    exact q _ σ5 (SD.gr_it d t _) (S3.upH u5) h5
noncomputable def sdA : CV → Bool
  | .none => true
  | .bool _ => true
  | .int _ => true
  | _ => false
noncomputable def sdC (n : Nat) : CV → Bool := Nat.rec sdA (fun _ ih cv => match cv with
  | .tup l => l.all ih
  | .fl l => l.all ih
  | cv => sdA cv) n
theorem sdA_ok (n : Nat) {cv : CV} (h : sdA cv = true) : Sh (n + 1) cv := by
  cases cv with
  | none => exact ⟨rfl, rfl, Nat.zero_le _⟩
  | bool b => exact ⟨rfl, rfl, Nat.zero_le _⟩
  | int i => exact ⟨rfl, rfl, Nat.zero_le _⟩
  | _ => exact absurd h Bool.false_ne_true
theorem sdCs_ok {n : Nat} (ih : ∀ cv, sdC n cv = true → Sh (n + 1) cv) (l : List CV) : l.all (sdC n) = true → ShL (n + 1) l := by
  induction l with
  | nil => exact fun _ => .nil
  | cons c l hl => exact fun h => .cons (ih c (Bool.and_eq_true_iff.mp h).1) (hl (Bool.and_eq_true_iff.mp h).2)
theorem sdC_ok (n : Nat) : ∀ cv : CV, sdC n cv = true → Sh (n + 1) cv := by
  induction n with
  | zero => exact fun cv h => sdA_ok 0 h
  | succ n ih =>
    intro cv h
    cases cv with
    | tup l => exact .tup (sdCs_ok ih l h)
    | fl l => exact .fl (sdCs_ok ih l h)
    | _ => exact sdA_ok _ h
theorem sd {cv : CV} (h : sdC 6 cv = true) : okD cv = true ∧ SeqAt.shaped (toD cv) = true := (sdC_ok 6 cv h).ok (by decide)
theorem sd_int (n : Nat) (i : Int) : sdC n (.int i) = true := by cases n <;> rfl
theorem sd_opt (n : Nat) (o : Option Int) : sdC n (optC o) = true := by cases o <;> cases n <;> rfl
theorem sd_ints (n : Nat) (l : List Int) : sdC (n + 1) (.tup (l.map CV.int)) = true := by
  show (l.map CV.int).all (sdC n) = true
  refine rwP List.all_map ?_; exact List.all_eq_true.mpr fun i _ => sd_int n i
theorem sd_kind (n : Nat) (p : List Int × List Int) : sdC (n + 2) (kindC p) = true := by
  show (sdC (n + 1) (.tup (p.1.map CV.int)) && (sdC (n + 1) (.tup (p.2.map CV.int)) && true)) = true
  rw [sd_ints, sd_ints]; rfl
theorem neSd {σ : CH} {a b : CV} {Q : Bool → Prop} (n : CV) (ha : res σ a = n) (hb : res σ b = n) (h : sdC 6 n = true) (q : Q false) : cmpI σ Q .NotEq a b := .neD (ha.trans hb.symm) (ha ▸ (sd h).1) (ha ▸ (sd h).2) q
theorem eqSd {σ : CH} {a b : CV} {Q : Bool → Prop} (n : CV) (ha : res σ a = n) (hb : res σ b = n) (h : sdC 6 n = true) (q : Q true) : cmpI σ Q .Eq a b := .eqD (ha.trans hb.symm) (ha ▸ (sd h).1) (ha ▸ (sd h).2) q
theorem okB_int {i : Int} (h0 : -100 ≤ i) (h1 : i ≤ 100) : okB (.int i) = true := by
  refine decide_eq_true (p := i.natAbs.log2 < 1920) ?_
  by_cases h : i.natAbs = 0
  · refine rwP h ?_; decide
  · refine (Nat.log2_lt h).mpr (Nat.lt_of_lt_of_le (show i.natAbs < 2 ^ 7 by lia) (Nat.pow_le_pow_right (by decide) (by decide)))
theorem okB_opt {o : Option Int} (h : ∀ u, o = some u → 0 ≤ u ∧ u ≤ 100) : okB (optC o) = true := by
  induction o with
  | none => rfl
  | some u => have := h u rfl; exact okB_int (by lia) (by lia)
theorem okBs_none (n : Nat) : okBs (List.replicate n CV.none) = true ∧ lnCs (List.replicate n CV.none) = 202 * n ∧ dpCs (List.replicate n CV.none) = 0 := by
  induction n with
  | zero => exact ⟨rfl, rfl, rfl⟩
  | succ n ih =>
    refine ⟨ih.1, ?_, ?_⟩
    · show 200 + 2 + lnCs (List.replicate n CV.none) = _
      refine rwP ih.2.1 ?_; lia
    · show max 0 (dpCs (List.replicate n CV.none)) = 0
      refine rwP ih.2.2 ?_; rfl
noncomputable def SD.cells (d : SD) : List (Nat × Int × Int × VV) := [(19, d.cd 0), (20, d.cd 1), (21, d.cd 2), (22, d.cd 3)]
noncomputable def SD.plain (d : SD) : CV := .tup [.tup [.tup [.int (-16), optC d.tm, .tup (List.replicate d.tl.toNat .none)]], .tup [.tup [optC d.mm, .bytes (Array.replicate (d.ml * d.pg).toNat 0)]], .tup [cellC (d.cd 0), cellC (d.cd 1), cellC (d.cd 2), cellC (d.cd 3)]]
theorem ln_opt (o : Option Int) : lnC (optC o) ≤ 1930 ∧ dpC (optC o) = 0 := by
  cases o
  · exact ⟨show 200 ≤ 1930 by decide, rfl⟩
  · exact ⟨Nat.le_refl 1930, rfl⟩
theorem ln_cell (c : Int × Int × VV) : lnC (cellC c) ≤ 6000 ∧ dpC (cellC c) ≤ 3 := by
  have b2 := c.2.2.ln
  refine ⟨?_, ?_⟩
  · show 1930 + 2 + (1930 + 2 + (lnC c.2.2.c + 2 + 0)) + 3 ≤ 6000
    lia
  · show max 0 (max 0 (max (dpC c.2.2.c) 0)) + 1 ≤ 3
    lia
theorem SD.plain_ok {w : World} {d : SD} (h : d.Ok w) : okB d.plain = true ∧ lnC d.plain ≤ 1000000 ∧ dpC d.plain ≤ 100 := by
  obtain ⟨n1, n2, n3⟩ := okBs_none d.tl.toNat
  have bd := mul_bd h.ml.1 h.ml.2 h.pg.1 (by have := h.pg.2; lia)
  have bd2 : d.ml * d.pg ≤ 20 := by have := Int.mul_le_mul h.ml.2 h.pg.2 (by have := h.pg.1; lia) (by decide); lia
  have o1 : okB (optC d.tm) = true := okB_opt fun u e => ⟨by have := h.tm u e; have := h.tl.1; lia, by have := h.tm u e; lia⟩
  have o2 : okB (optC d.mm) = true := okB_opt fun u e => ⟨by have := h.mm u e; have := h.ml.1; lia, by have := h.mm u e; lia⟩
  have o3 : okB (.bytes (Array.replicate (d.ml * d.pg).toNat 0)) = true := by
    refine Bool.and_eq_true_iff.mpr ⟨decide_eq_true ?_, ?_⟩ <;> rw [Array.size_replicate]
    · lia
    · exact beq_self_eq_true _
  have l1 := ln_opt d.tm
  have l2 := ln_opt d.mm
  have c0 := ln_cell (d.cd 0)
  have c1 := ln_cell (d.cd 1)
  have c2 := ln_cell (d.cd 2)
  have c3 := ln_cell (d.cd 3)
  refine ⟨?_, ?_, ?_⟩
  · show (((okB (.int (-16)) && (okB (optC d.tm) && (okBs (List.replicate d.tl.toNat .none) && true))) && true) && (((okB (optC d.mm) && (okB (.bytes (Array.replicate (d.ml * d.pg).toNat 0)) && true)) && true) && ((okB (cellC (d.cd 0)) && (okB (cellC (d.cd 1)) && (okB (cellC (d.cd 2)) && (okB (cellC (d.cd 3)) && true)))) && true))) = true
    refine rwP (okB_int (by decide) (by decide)) ?_; refine rwP o1 ?_; refine rwP n1 ?_; refine rwP o2 ?_; refine rwP o3 ?_; refine rwP (h.cok 0 (by decide)) ?_; refine rwP (h.cok 1 (by decide)) ?_; refine rwP (h.cok 2 (by decide)) ?_; refine rwP (h.cok 3 (by decide)) ?_; rfl
  · have := h.tl.2
    show ((1930 + 2 + (lnC (optC d.tm) + 2 + (lnCs (List.replicate d.tl.toNat .none) + 3 + 2 + 0)) + 3) + 2 + 0 + 3) + 2 + (((lnC (optC d.mm) + 2 + (200 + 2 + 0) + 3) + 2 + 0 + 3) + 2 + ((lnC (cellC (d.cd 0)) + 2 + (lnC (cellC (d.cd 1)) + 2 + (lnC (cellC (d.cd 2)) + 2 + (lnC (cellC (d.cd 3)) + 2 + 0))) + 3) + 2 + 0)) + 3 ≤ 1000000
    lia
  · have b1 : ∀ {a b n : Nat}, a ≤ n → b ≤ n → max a b ≤ n := fun h1 h2 => Nat.max_le.mpr ⟨h1, h2⟩
    have b0 : ∀ n : Nat, 0 ≤ n := Nat.zero_le
    show max (max (max 0 (max (dpC (optC d.tm)) (max (dpCs (List.replicate d.tl.toNat .none) + 1) 0)) + 1) 0 + 1) (max (max (max (dpC (optC d.mm)) (max 0 0) + 1) 0 + 1) (max (max (dpC (cellC (d.cd 0))) (max (dpC (cellC (d.cd 1))) (max (dpC (cellC (d.cd 2))) (max (dpC (cellC (d.cd 3))) 0))) + 1) 0)) + 1 ≤ 100
    refine rwP n3 ?_; refine rwP l1.2 ?_; refine rwP l2.2 ?_
    have s : ∀ {a n : Nat}, a ≤ n → a + 1 ≤ n + 1 := Nat.succ_le_succ
    exact s (n := 99) (b1 (s (n := 98) (b1 (s (n := 97) (by decide)) (b0 _))) (b1 (by decide) (b1 (s (n := 98) (b1 (Nat.le_trans c0.2 (by decide)) (b1 (Nat.le_trans c1.2 (by decide)) (b1 (Nat.le_trans c2.2 (by decide)) (b1 (Nat.le_trans c3.2 (by decide)) (b0 _)))))) (b0 _))))
theorem is_same_ok {w : World} {σ : CH} {X : CH → Prop} (d : SD) (Q : CV → CH → Prop) (S : St w σ d)
    (q : ∀ σ', Up σ σ' → Q (.bool true) σ') : CallOk w 5 (.ref 649) [.ref 10, .ref 2] σ Q X := by
  refine CallOk.topWC true _ ["store", "state"] [] (.bi bi_bytes (by decide) (.bi bi_range (by decide) (.bi bi_repr (by decide) (.bi bi_tuple (by decide) .nil)))) (by k_is) (by k_is) (ar2 fun _ _ => rfl) rfl (by decide) (fun c hl fr hc => ?_)
  obtain ⟨hnm, hcd, hcm⟩ := hc
  have hsc := fr.hs
  have b0 := S.ok.tl
  have b1 := S.ok.ml
  have b2 := S.ok.pg
  have bd := mul_bd b1.1 b1.2 b2.1 (by lia)
  have e10 : σ 10 = some (stoO 11 12 13 14 15) := S.at 10
  refine SX.mk (XV.assignS fr true ?_)
  refine itemDic (S.at 2) rfl ?_
  refine SA.mk (AV.tup (l := [limC d.tl d.tm, limC d.ml d.mm]) (S.at 8) rfl (fr.As true ?_))
  refine SA.mk (AV.tup (l := [.int d.tl, optC d.tm]) rfl rfl (fr.As true ?_))
  refine SA.mk (AV.tup (l := [.int d.ml, optC d.mm]) rfl rfl (fr.As true ?_))
  refine SX.mk (XV.assign2 (fr.E true ?_) (by show swappedStores _ _ { c.env with scope := c.sc } = _; refine rwP hsc ?_; rfl) (by rfl))
  refine SB.mk none (.mulT (List.cons_ne_nil _ _) b0.1 (by lia) (Nat.le_of_ble_eq_true rfl) ?_)
  refine rwP List.flatten_replicate_singleton ?_
  refine itemDic (S.at 2) rfl ?_
  refine SB.mk none (.mul (by unfold small; lia) ?_)
  refine SC.mk (CallV.bytesInt bd.1 (by lia) ?_)
  conv => whnf
  refine ⟨_, _, rfl, StOk.loc hsc rfl, StOk.loc hsc rfl, ?_⟩
  refine ⟨rfl, ?_⟩; refine SM.mk (MethV.own (by with_reducible assumption) me_Store_plain rfl ?_)
  refine SC.mk (CallV.ok km_Store_plain (by exact lv ‹_› rfl) (store_plain (-16) 6 d.tm d.mm (List.replicate d.tl.toNat .none) d.pg _ d.cells _ S.sts S.free rfl rfl rfl (S.at 23) (S.at 25) (by refine rwP List.length_replicate ?_; lia) (S.at 24) (S.at 26) (by refine rwP Array.size_replicate ?_; lia) (fun x hx => ?_) fun σ1 u1 => ?_))
  · simp only [SD.cells, List.mem_cons, List.not_mem_nil, or_false] at hx
    rcases hx with rfl | rfl | rfl | rfl
    · exact S.at 19
    · exact S.at 20
    · exact S.at 21
    · exact S.at 22
  refine hide fun Ph hPh => ?_
  obtain ⟨p1, p2, p3⟩ := SD.plain_ok S.ok
  refine hPh ?_
  have S1 := S.up u1
  have e10 : σ1 10 = some (stoO 11 12 13 14 15) := S1.at 10
  refine SC.mk (CallV.repr p1 p2 p3 ?_)
  refine itemDic (S1.at 2) rfl ?_
  refine SC.mk (CallV.tupleOf (l := [cellC (d.cd 0), cellC (d.cd 1), cellC (d.cd 2), cellC (d.cd 3)]) (S1.at 6) (Nat.le_of_ble_eq_true rfl) (fun _ h => nomatch h) ?_)
  refine SC.mk (CallV.repr p1 p2 p3 ?_)
  refine cmpNeS_same rfl ?_
  refine ⟨rfl, ?_⟩; refine SM.mk (MethV.own (by with_reducible assumption) me_Store_marks rfl ?_)
  refine SC.mk (CallV.ok km_Store_marks (by exact lv ‹_› rfl) (store_marks (storeL 0) (storeL 1) (storeL 2) (storeL 3) _ e10 (S1.at 12) (S1.at 13) (S1.at 14) (S1.at 15) (by decide) (by decide) (by decide) (by decide) ?_))
  refine neSd _ rfl rfl rfl ?_
  refine ⟨rfl, ?_⟩; refine SM.mk (MethV.own (by with_reducible assumption) me_Store_about rfl ?_)
  refine SC.mk (CallV.ok km_Store_about (by exact lv ‹_› rfl) (about1 0 (-16) 6 d.tm (List.replicate d.tl.toNat .none) _ S1.sts (by decide) rfl (S1.at 23) (S1.at 25) (by refine rwP List.length_replicate ?_; lia) ?_))
  refine rwP List.length_replicate ?_; refine rwP (Int.toNat_of_nonneg b0.1) ?_
  refine ⟨rfl, ?_⟩; refine SM.mk (MethV.own (by with_reducible assumption) me_Store_about rfl ?_)
  refine SC.mk (CallV.ok km_Store_about (by exact lv ‹_› rfl) (about2 0 d.mm d.pg _ _ S1.sts (by decide) rfl (S1.at 24) (S1.at 26) (by refine rwP Array.size_replicate ?_; lia) b2.1 (by lia) ?_))
  refine rwP (fdiv_pg b1.1 b1.2 b2.1 (by lia)) ?_
  refine neSd _ rfl rfl ?_ ?_
  · show ((sdC 4 (.int (-16)) && (sdC 4 (.int d.tl) && (sdC 4 (optC d.tm) && true))) && ((sdC 4 (.int d.ml) && (sdC 4 (optC d.mm) && true)) && true)) = true
    rw [sd_opt, sd_opt, sd_int, sd_int, sd_int]; rfl
  refine SE.mk (EV.compM (caps := [.ref 10]) CV.int (fun k => kindC (d.kd k.toNat)) [0, 1, 2] (fun m => m.lookup (Str.ofString "store") = some (.ref 10)) (compOk hsc hcm rfl (fun cv h => by refine rwP (List.mem_singleton.mp h) ?_; rfl)) rfl (fr.E true ?_))
  refine SC.mk (CallV.range1 ?_)
  refine ⟨S1.free, Nat.le_of_ble_eq_true rfl, Iter.rng (by decide) (by decide) (by decide) (by decide) (by intros; rfl), fun x hx c2 hs2 hl2 m2 σ2 hm2 u2 K hK => ?_, fun σ2 u2 => ?_⟩
  · rw [relabel_of hsc] at hs2
    have i2 : InF w c2 _ _ := ⟨hs2, rfl, rfl, fr.gt⟩
    have hx : 0 ≤ x ∧ x < 3 := by
      simp only [List.mem_cons, List.not_mem_nil, or_false] at hx
      rcases hx with rfl | rfl | rfl <;> decide
    have S2 := S1.up u2
    have e10 : σ2 10 = some (stoO 11 12 13 14 15) := S2.at 10
    refine AV.name (StOk.loc hs2 rfl) (i2.E true ?_)
    conv => whnf
    refine look hm2 ?_
    refine ⟨rfl, ?_⟩; refine SM.mk (MethV.own (by with_reducible assumption) me_Store_about rfl ?_)
    refine SC.mk (CallV.ok km_Store_about (by exact lvE ‹_› ‹_› rfl) (about0 x _ _ _ S2.sts hx.1 (get3 (fun i => CV.ref (16 + i)) hx.1 hx.2) (S2.host (by lia)) (fun _ h => nomatch h) ?_))
    exact hK _ _ hm2 (Up.refl S2.free)
  have S2 := S1.up u2
  have e10 : σ2 10 = some (stoO 11 12 13 14 15) := S2.at 10
  refine itemDic (S2.at 2) rfl ?_
  have hk : sdC 6 (.fl [kindC (d.kd 0), kindC (d.kd 1), kindC (d.kd 2)]) = true := by
    show (sdC 5 (kindC (d.kd 0)) && (sdC 5 (kindC (d.kd 1)) && (sdC 5 (kindC (d.kd 2)) && true))) = true
    rw [sd_kind, sd_kind, sd_kind]; rfl
  refine neSd (.fl [kindC (d.kd 0), kindC (d.kd 1), kindC (d.kd 2)]) rfl (res_ref (S2.at 5)) hk ?_
  refine SE.mk (EV.compM (caps := [.ref 10]) CV.int (fun k => kindC (d.kd k.toNat)) [0, 1, 2] (fun m => m.lookup (Str.ofString "store") = some (.ref 10)) (compOk hsc hcm rfl (fun cv h => by refine rwP (List.mem_singleton.mp h) ?_; rfl)) rfl (fr.E true ?_))
  refine SC.mk (CallV.range1 ?_)
  refine ⟨S2.free, Nat.le_of_ble_eq_true rfl, Iter.rng (by decide) (by decide) (by decide) (by decide) (by intros; rfl), fun x hx c2 hs2 hl2 m2 σ3 hm2 u3 K hK => ?_, fun σ3 u3 => ?_⟩
  · rw [relabel_of hsc] at hs2
    have i2 : InF w c2 _ _ := ⟨hs2, rfl, rfl, fr.gt⟩
    have hx : 0 ≤ x ∧ x < 3 := by
      simp only [List.mem_cons, List.not_mem_nil, or_false] at hx
      rcases hx with rfl | rfl | rfl <;> decide
    have S3 := S2.up u3
    have e10 : σ3 10 = some (stoO 11 12 13 14 15) := S3.at 10
    refine AV.name (StOk.loc hs2 rfl) (i2.E true ?_)
    conv => whnf
    refine look hm2 ?_
    refine ⟨rfl, ?_⟩; refine SM.mk (MethV.own (by with_reducible assumption) me_Store_func_kind rfl ?_)
    refine CV.func_kind (by exact lvE ‹_› ‹_› rfl) S3.sts hx.1 (get3 (fun i => CV.ref (16 + i)) hx.1 hx.2) (S3.host (by lia)) (fun _ h => nomatch h) ?_
    exact hK _ _ hm2 (Up.refl S3.free)
  have S3 := S2.up u3
  have e10 : σ3 10 = some (stoO 11 12 13 14 15) := S3.at 10
  refine itemDic (S3.at 2) rfl ?_
  refine neSd (.fl [kindC (d.kd 0), kindC (d.kd 1), kindC (d.kd 2)]) rfl (res_ref (S3.at 5)) hk ?_
  refine SE.mk (EV.compM (caps := [.ref 10]) CV.int (fun k => .tup [.int (d.cd k.toNat).1, .int (d.cd k.toNat).2.1]) [0, 1, 2, 3] (fun m => m.lookup (Str.ofString "store") = some (.ref 10)) (compOk hsc hcm rfl (fun cv h => by refine rwP (List.mem_singleton.mp h) ?_; rfl)) rfl (fr.E true ?_))
  refine SC.mk (CallV.range1 ?_)
  refine ⟨S3.free, Nat.le_of_ble_eq_true rfl, Iter.rng (by decide) (by decide) (by decide) (by decide) (by intros; rfl), fun x hx c2 hs2 hl2 m2 σ4 hm2 u4 K hK => ?_, fun σ4 u4 => ?_⟩
  · rw [relabel_of hsc] at hs2
    have i2 : InF w c2 _ _ := ⟨hs2, rfl, rfl, fr.gt⟩
    have hx : 0 ≤ x ∧ x < 4 := by
      simp only [List.mem_cons, List.not_mem_nil, or_false] at hx
      rcases hx with rfl | rfl | rfl | rfl <;> decide
    have S4 := S3.up u4
    have e10 : σ4 10 = some (stoO 11 12 13 14 15) := S4.at 10
    refine AV.name (StOk.loc hs2 rfl) (i2.E true ?_)
    conv => whnf
    refine look hm2 ?_
    refine ⟨rfl, ?_⟩; refine SM.mk (MethV.own (by with_reducible assumption) me_Store_about rfl ?_)
    refine SC.mk (CallV.ok km_Store_about (by exact lvE ‹_› ‹_› rfl) (about3 x _ _ _ _ S4.sts hx.1 (get4 (fun i => CV.ref (19 + i)) hx.1 hx.2) (S4.cell (by lia)) ?_))
    exact hK _ _ hm2 (Up.refl S4.free)
  have S4 := S3.up u4
  refine SE.mk (EV.compM (caps := []) cellC (fun c => .tup [.int c.1, .int c.2.1]) [d.cd 0, d.cd 1, d.cd 2, d.cd 3] (fun _ => True) (compOk hsc hcm rfl nofun) trivial (fr.E true ?_))
  refine itemDic (S4.at 2) rfl ?_
  refine ⟨S4.free, Nat.le_of_ble_eq_true rfl, Iter.list (S4.at 6) (by intros; rfl), fun x hx c2 hs2 hl2 m2 σ5 _ u5 K hK => ?_, fun σ5 u5 => ?_⟩
  · rw [relabel_of hsc] at hs2
    have i2 : InF w c2 _ _ := ⟨hs2, rfl, rfl, fr.gt⟩
    refine AV.name (StOk.loc hs2 rfl) (i2.E true ?_)
    refine itemTup (by decide) (by decide) rfl ?_; refine itemTup (by decide) (by decide) rfl ?_
    exact hK _ _ trivial (Up.refl u5.free)
  refine eqSd (.fl ([d.cd 0, d.cd 1, d.cd 2, d.cd 3].map fun c => .tup [.int c.1, .int c.2.1])) rfl rfl ?_ ?_
  · show ([d.cd 0, d.cd 1, d.cd 2, d.cd 3].map fun c => CV.tup [.int c.1, .int c.2.1]).all (sdC 5) = true
    refine rwP List.all_map ?_
    refine List.all_eq_true.mpr fun c _ => ?_
    show (sdC 4 (.int c.1) && (sdC 4 (.int c.2.1) && true)) = true
    rw [sd_int, sd_int]; rfl
  exact q _ (u1.trans (u2.trans (u3.trans (u4.trans u5))))
structure Lay (σ : CH) (F : Nat → Option CObj) (N : Nat) : Prop where
  low : ∀ k, k ≠ 1 → k < 100 → σ k = F k
  free : Free σ
  hand : HandAt σ N
noncomputable def updL (F : Nat → Option CObj) (l : List (Nat × CObj)) (k : Nat) : Option CObj := match l.lookup k with
  | some o => some o
  | none => F k
section
variable {σ σ' : CH} {F F' : Nat → Option CObj} {N M : Nat}
theorem Free.buts {ns : List Nat} (h : Free σ) (e : ∀ k, k ∉ ns → σ' k = σ k) : Free σ' := by
  obtain ⟨B, hB⟩ := h
  obtain ⟨C, hC⟩ : ∃ C, ∀ n ∈ ns, n < C := by
    clear e
    induction ns with
    | nil => exact ⟨0, fun _ h => absurd h List.not_mem_nil⟩
    | cons n ns ih =>
      obtain ⟨C, hC⟩ := ih
      exact ⟨max C (n + 1), fun m hm => by rcases List.mem_cons.mp hm with rfl | hm; lia; have := hC m hm; lia⟩
  exact ⟨max B C, fun k hk => by refine rwP (e k fun h => by have := hC k h; lia) ?_; exact hB k (by lia)⟩
theorem Lay.mv (ns : List Nat) (L : Lay σ F N) (h1 : 1 ∉ ns) (e : ∀ k, k ∉ ns → σ' k = σ k) (hn : ∀ k ∈ ns, σ' k = F' k) (hF : ∀ k, k ∉ ns → F' k = F k) : Lay σ' F' N :=
  ⟨fun k k1 k2 => by
    by_cases h : k ∈ ns
    · exact hn k h
    · refine rwP (e k h) ?_; refine rwP (hF k h) ?_; exact L.low k k1 k2, L.free.buts e, by
    obtain ⟨a, ha, hr⟩ := L.hand
    exact ⟨a, (e 1 h1).trans ha, hr⟩⟩
theorem lookup_none {l : List (Nat × CObj)} {k : Nat} (h : k ∉ l.map (·.1)) : l.lookup k = none := by
  induction l with
  | nil => rfl
  | cons p l ih =>
    rw [List.map_cons, List.mem_cons, not_or] at h
    refine rwP List.lookup_cons ?_; refine rwP (show (k == p.1) = false from beq_false_of_ne h.1) ?_
    exact ih h.2
theorem Lay.upd (l : List (Nat × CObj)) (L : Lay σ F N) (h1 : 1 ∉ l.map (·.1)) (e : ∀ k, k ∉ l.map (·.1) → σ' k = σ k) (hn : ∀ p ∈ l, σ' p.1 = some p.2) (nd : (l.map (·.1)).Nodup) : Lay σ' (updL F l) N :=
  L.mv (l.map (·.1)) h1 e (fun k hk => by
    obtain ⟨p, hp, rfl⟩ := List.mem_map.mp hk
    refine rwP (hn p hp) ?_
    have : l.lookup p.1 = some p.2 := by
      clear hn e h1 hk
      induction l with
      | nil => exact absurd hp List.not_mem_nil
      | cons q l ih =>
        rw [List.map_cons, List.nodup_cons] at nd
        rcases List.mem_cons.mp hp with rfl | hp
        · refine rwP List.lookup_cons ?_; refine rwP (show (p.1 == p.1) = true from beq_self_eq_true _) ?_; rfl
        · refine rwP List.lookup_cons ?_; refine rwP (show (p.1 == q.1) = false from beq_false_of_ne fun e => nd.1 (e ▸ List.mem_map_of_mem hp)) ?_
          exact ih nd.2 hp
    unfold updL; refine rwP this ?_; rfl) fun k hk => by unfold updL; refine rwP (lookup_none hk) ?_; rfl
theorem Lay.set (L : Lay σ F N) (n : Nat) (o : CObj) (h : 1 ≠ n) : Lay (σ.set n o) (updL F [(n, o)]) N :=
  L.upd [(n, o)] (by refine rwP List.map_cons ?_; refine rwP List.map_nil ?_; rw [List.mem_singleton]; exact h) (fun k hk => CH.set_ne _ _ fun e => hk (by refine rwP e ?_; exact List.mem_singleton.mpr rfl)) (fun p hp => by refine rwP (List.mem_singleton.mp hp) ?_; exact CH.set_self ..) (List.nodup_cons.mpr ⟨List.not_mem_nil, List.nodup_nil⟩)
theorem Lay.one (L : Lay σ F N) {n : Nat} {o : CObj} (h : 1 ≠ n) (hn : σ' n = some o) (e : ∀ k, k ≠ n → σ' k = σ k) : Lay σ' (updL F [(n, o)]) N :=
  L.upd [(n, o)] (by refine rwP List.map_cons ?_; refine rwP List.map_nil ?_; rw [List.mem_singleton]; exact h) (fun k hk => e k fun e => hk (by refine rwP e ?_; exact List.mem_singleton.mpr rfl)) (fun p hp => by refine rwP (List.mem_singleton.mp hp) ?_; exact hn) (List.nodup_cons.mpr ⟨List.not_mem_nil, List.nodup_nil⟩)
theorem Lay.but (L : Lay σ F N) {n : Nat} (hn : 100 ≤ n) (e : ∀ k, k ≠ n → σ' k = σ k) : Lay σ' F N :=
  ⟨fun k k1 k2 => (e k (by lia)).trans (L.low k k1 k2), L.free.but e, L.hand.but hn e⟩
theorem Lay.up (L : Lay σ F N) (u : Up σ σ') : Lay σ' F N := ⟨fun k k1 k2 => (u.low k2).trans (L.low k k1 k2), u.free, L.hand.up u⟩
theorem Lay.upH (L : Lay σ F N) (u : UpH σ σ') (h : HandAt σ' M) : Lay σ' F M := ⟨fun k k1 k2 => (u.low k1 k2).trans (L.low k k1 k2), u.free, h⟩
end
noncomputable def refs (n m : Nat) : List CV := (List.range m).map fun i => CV.ref (n + i)
theorem refs_length (n m : Nat) : (refs n m).length = m := by unfold refs; rewrite [List.length_map]; refine rwP List.length_range ?_; rfl
theorem refs_succ (n m : Nat) : refs n (m + 1) = refs n m ++ [.ref (n + m)] := by unfold refs; refine rwP List.range_succ ?_; refine rwP List.map_append ?_; rfl
noncomputable def LL {α : Type} (F : Nat → Option CObj) (a b n : Nat) (f : α → CV) (g : α → CObj) (l : List α) (k : Nat) : Option CObj :=
  if k = a then some (.list (l.map f)) else if k = b then some (.list (refs n l.length)) else if n ≤ k ∧ k < n + l.length then (l[k - n]?).map g else F k
section
variable {α : Type} {σ σ' : CH} {F : Nat → Option CObj} {N a b n : Nat} {f : α → CV} {g : α → CObj} {l : List α}
theorem LL.nil (ha : F a = some (.list [])) (hb : F b = some (.list [])) (k : Nat) : LL F a b n f g [] k = F k := by
  unfold LL
  by_cases h : k = a
  · refine rwP (if_pos h) ?_; refine rwP h ?_; refine rwP ha ?_; rfl
  · refine rwP (if_neg h) ?_
    by_cases h : k = b
    · refine rwP (if_pos h) ?_; refine rwP h ?_; refine rwP hb ?_; rfl
    · refine rwP (if_neg h) ?_; refine rwP (if_neg (by refine rwP List.length_nil ?_; lia)) ?_; rfl
theorem LL.low {k : Nat} (ha : k ≠ a) (hb : k ≠ b) (hk : k < n ∨ n + l.length ≤ k) : LL F a b n f g l k = F k := by
  unfold LL; refine rwP (if_neg ha) ?_; refine rwP (if_neg hb) ?_; refine rwP (if_neg (by lia)) ?_; rfl
theorem LL.step {p : α} (L : Lay σ (LL F a b n f g l) N) (hab : a < b) (hbn : b < n) (h1 : 1 < a) (h : σ' (n + l.length) = some (g p)) (hb : σ' b = some (.list (refs n l.length ++ [.ref (n + l.length)]))) (ha : σ' a = some (.list (l.map f ++ [f p])))
    (e : ∀ k, k ≠ a → k ≠ b → k ≠ n + l.length → σ' k = σ k) : Lay σ' (LL F a b n f g (l ++ [p])) N := by
  refine L.mv [a, b, n + l.length] ?_ (fun k hk => ?_) (fun k hk => ?_) fun k hk => ?_
  · simp only [List.mem_cons, List.not_mem_nil, or_false]; lia
  · simp only [List.mem_cons, List.not_mem_nil, or_false, not_or] at hk
    exact e k hk.1 hk.2.1 hk.2.2
  · simp only [List.mem_cons, List.not_mem_nil, or_false] at hk
    unfold LL
    rcases hk with rfl | rfl | rfl
    · refine rwP (if_pos rfl) ?_; refine rwP ha ?_; refine rwP List.map_append ?_; rfl
    · refine rwP (if_neg (by lia)) ?_; refine rwP (if_pos rfl) ?_; refine rwP hb ?_; refine rwP List.length_append ?_; rw [← refs_succ]; rfl
    · refine rwP (if_neg (by lia)) ?_; refine rwP (if_neg (by lia)) ?_; refine rwP (if_pos (by refine rwP List.length_append ?_; exact ⟨by lia, by show n + l.length < n + (l.length + 1); lia⟩)) ?_; refine rwP h ?_; rewrite [Nat.add_sub_cancel_left]; refine rwP List.getElem?_concat_length ?_; rfl
  · simp only [List.mem_cons, List.not_mem_nil, or_false, not_or] at hk
    unfold LL
    refine rwP (if_neg hk.1) ?_; refine rwP (if_neg hk.2.1) ?_; refine rwP (if_neg hk.1) ?_; refine rwP (if_neg hk.2.1) ?_
    by_cases q : n ≤ k ∧ k < n + l.length
    · refine rwP (if_pos q) ?_; refine rwP (if_pos (by refine rwP List.length_append ?_; lia)) ?_; refine rwP (List.getElem?_append_left (by lia)) ?_; rfl
    · refine rwP (if_neg q) ?_; refine rwP (if_neg (by refine rwP List.length_append ?_; show ¬ (n ≤ k ∧ k < n + (l.length + 1)); lia)) ?_; rfl
end
noncomputable abbrev dict0 (pg : Int) (lim things : CV) : CObj := .dict [("page", .int pg), ("funcs", .ref 5), ("cells", .ref 6), ("limits", lim), ("seen", .ref 3), ("told", .ref 4), ("things", things)]
noncomputable def F0 : Nat → Option CObj
  | 2 => some (dict0 1 (.fl []) (.fl []))
  | 3 => some (.list [])
  | 4 => some (.list [.fl []])
  | 5 => some (.list [])
  | 6 => some (.list [])
  | 30 => some (.tab 606 "_law_host.<locals>._law_action")
  | 31 => some (.tab 651 "_law_made.<locals>.<lambda>")
  | 32 => some (.tab 627 "_law_found_right.<locals>.<lambda>")
  | 33 => some (.tab 620 "_law_put_right.<locals>.<lambda>")
  | 34 => some (.tab 613 "_law_calls_right.<locals>.<lambda>")
  | _ => none
theorem setDict {σ : CH} {n : Nat} {es : List (Str × CV)} {x : Str} {v : CV} {k : CH → Prop} (h : σ n = some (.dict es)) (o : CObj) (ho : .dict (storedC es x v) = o) (hz : es.length ≤ 1000) (q : k (σ.set n o)) : SP (.ref n) (.str x) v k σ := ⟨⟨es, h, hz, ho ▸ q⟩⟩
theorem mkStore {w : World} {c : Cx} {m : Lm} {σ : CH} {X : CH → Prop} {Q : CV → Lm → CH → Prop} {pg : Int} (hlv : c.lv + 2 ≤ 30) (hn : σ 10 = none) (hs : σ 11 = some (szO pg)) (h12 : σ 12 = none) (h13 : σ 13 = none) (h14 : σ 14 = none) (h15 : σ 15 = none)
    (q : ∀ σ', σ' 10 = some (stoO 11 12 13 14 15) → σ' 12 = some (.list []) → σ' 13 = some (.list []) → σ' 14 = some (.list []) → σ' 15 = some (.list []) → (∀ j, j ≠ 10 → j ≠ 12 → j ≠ 13 → j ≠ 14 → j ≠ 15 → σ' j = σ j) → Q (.ref 10) m σ') : SC w c X (.top (.ref 555)) [.ref 11] Q m σ :=
  ⟨CallV.ok k_Store hlv (CallOk.cls mk_Store.1 mk_Store.2.1 mk_Store.2.2 hn (store_init pg _ (CH.set_self ..) ((CH.set_ne _ _ (by decide)).trans hs) ((CH.set_ne _ _ (by decide)).trans h12) ((CH.set_ne _ _ (by decide)).trans h13) ((CH.set_ne _ _ (by decide)).trans h14) ((CH.set_ne _ _ (by decide)).trans h15) (by decide) (by decide) (by decide) (by decide) (by decide) (by decide)
    (fun σ' a1 a2 a3 a4 a5 e => ⟨rfl, q σ' a1 a2 a3 a4 a5 fun i i1 i2 i3 i4 i5 => (e i i1 i2 i3 i4 i5).trans (CH.set_ne _ _ i1)⟩)) fun _ h => h)⟩
theorem up3 {j : Nat} {x : CV} (h : (upL 0 (3 - 0 : Int).toNat)[j]? = some x) : x = .int j ∧ j < 3 := by
  match j, h with
  | 0, h => obtain rfl := Option.some.inj h; exact ⟨rfl, by decide⟩
  | 1, h => obtain rfl := Option.some.inj h; exact ⟨rfl, by decide⟩
  | 2, h => obtain rfl := Option.some.inj h; exact ⟨rfl, by decide⟩
  | j + 3, h => injection h
theorem up4 {j : Nat} {x : CV} (h : (upL 0 (4 - 0 : Int).toNat)[j]? = some x) : x = .int j ∧ j < 4 := by
  match j, h with
  | 0, h => obtain rfl := Option.some.inj h; exact ⟨rfl, by decide⟩
  | 1, h => obtain rfl := Option.some.inj h; exact ⟨rfl, by decide⟩
  | 2, h => obtain rfl := Option.some.inj h; exact ⟨rfl, by decide⟩
  | 3, h => obtain rfl := Option.some.inj h; exact ⟨rfl, by decide⟩
  | j + 4, h => injection h
theorem pow_bd {b : Int} {j : Nat} (hb : b = 85 ∨ b = 2) (h : j < 4) : ∃ E, b ^ (j : Int).toNat = E ∧ 1 ≤ E ∧ E ≤ 1000000 := by
  have : j = 0 ∨ j = 1 ∨ j = 2 ∨ j = 3 := by lia
  rcases this with rfl | rfl | rfl | rfl <;> rcases hb with rfl | rfl <;> exact ⟨_, rfl, by decide, by decide⟩
theorem first_at {j : Nat} (h : j < 4) : ∃ v : VV, okB v.c = true ∧ [CV.int 5, .int (2 ^ Int.toNat 64 - 1), .none, .int 3][(j : Int).toNat]? = some v.c := by
  have : j = 0 ∨ j = 1 ∨ j = 2 ∨ j = 3 := by lia
  rcases this with rfl | rfl | rfl | rfl
  · exact ⟨.int 5, by decide +kernel, rfl⟩
  · exact ⟨.int (2 ^ Int.toNat 64 - 1), by decide +kernel, rfl⟩
  · exact ⟨.none, by decide +kernel, rfl⟩
  · exact ⟨.int 3, by decide +kernel, rfl⟩
theorem most_at {a b c r : Int} (h0 : 0 ≤ r) (h1 : r < 4) (ha : 3 ≤ a ∧ a ≤ 8) (hb : 3 ≤ b ∧ b ≤ 8) (hc : 3 ≤ c ∧ c ≤ 8) : ∃ o : Option Int, [CV.none, .int a, .int b, .int c][r.toNat]? = some (optC o) ∧ ∀ t, o = some t → 3 ≤ t ∧ t ≤ 8 := by
  have : r = 0 ∨ r = 1 ∨ r = 2 ∨ r = 3 := by lia
  rcases this with rfl | rfl | rfl | rfl
  · exact ⟨none, rfl, fun t h => nomatch h⟩
  · exact ⟨some a, rfl, fun t h => by obtain rfl := Option.some.inj h; exact ha⟩
  · exact ⟨some b, rfl, fun t h => by obtain rfl := Option.some.inj h; exact hb⟩
  · exact ⟨some c, rfl, fun t h => by obtain rfl := Option.some.inj h; exact hc⟩
theorem okB_mk {k m : Int} {v : VV} (hk : kindB k = true) (h0 : 0 ≤ m) (h1 : m < 2) (hv : okB v.c = true) : okB (cellC (k, m, v)) = true := by
  show (okB (.int k) && (okB (.int m) && (okB v.c && true))) = true
  refine rwP (okB_int (i := m) (by lia) (by lia)) ?_; refine rwP hv ?_
  rcases kindB_eq hk with rfl | rfl | rfl | rfl <;> rfl
noncomputable abbrev Host := (List Int × List Int) × CV
noncomputable def goodH (w : World) (p : Host) : Prop := p.1.1.all kindB = true ∧ p.1.2.all kindB = true ∧ p.1.1.length ≤ 3 ∧ p.1.2.length ≤ 3 ∧ ActOk w p.2 ∧ ∀ u, p.2 ≠ .top u
noncomputable def goodC (c : Int × Int × VV) : Prop := kindB c.1 = true ∧ okB (cellC c) = true
noncomputable abbrev LH (F : Nat → Option CObj) (hl : List Host) : Nat → Option CObj := LL F 5 12 16 (fun p => kindC p.1) (fun p => hosO (kindC p.1) p.2) hl
noncomputable abbrev LC (F : Nat → Option CObj) (cl : List (Int × Int × VV)) : Nat → Option CObj := LL F 6 15 19 cellC (fun c => celO c.1 c.2.1 c.2.2.c) cl
structure MLk (ns : List Int) (fl : Int) (m : Lm) : Prop where
  s : m.lookup (Str.ofString "script") = some (.fl (ns.map CV.int))
  h : m.lookup (Str.ofString "hand") = some (.ref 1)
  t : m.lookup (Str.ofString "state") = some (.ref 2)
  r : m.lookup (Str.ofString "store") = some (.ref 10)
  f : m.lookup (Str.ofString "flags") = some (.int fl)
structure FOk (pg : Int) (F : Nat → Option CObj) : Prop where
  f2 : F 2 = some (dict0 pg (.fl []) (.fl []))
  f3 : F 3 = some (.list [])
  f4 : F 4 = some (.list [.fl []])
  f5 : F 5 = some (.list [])
  f6 : F 6 = some (.list [])
  f8 : F 8 = none
  f10 : F 10 = some (stoO 11 12 13 14 15)
  f11 : F 11 = some (szO pg)
  f12 : F 12 = some (.list [])
  f13 : F 13 = some (.list [])
  f14 : F 14 = some (.list [])
  f15 : F 15 = some (.list [])
  f30 : F 30 = some (.tab 606 "_law_host.<locals>._law_action")
  f31 : F 31 = some (.tab 651 "_law_made.<locals>.<lambda>")
  f32 : F 32 = some (.tab 627 "_law_found_right.<locals>.<lambda>")
  f33 : F 33 = some (.tab 620 "_law_put_right.<locals>.<lambda>")
  f34 : F 34 = some (.tab 613 "_law_calls_right.<locals>.<lambda>")
  f40 : F 40 = none
  no : ∀ k, 16 ≤ k → k < 27 → F k = none
theorem fok (pg : Int) : FOk pg (updL (updL (updL F0 [(2, dict0 pg (.fl []) (.fl []))]) [(11, szO pg)]) [(10, stoO 11 12 13 14 15), (12, .list []), (13, .list []), (14, .list []), (15, .list [])]) :=
  ⟨rfl, rfl, rfl, rfl, rfl, rfl, rfl, rfl, rfl, rfl, rfl, rfl, rfl, rfl, rfl, rfl, rfl, rfl, fun k h1 h2 => by
    have : k = 16 ∨ k = 17 ∨ k = 18 ∨ k = 19 ∨ k = 20 ∨ k = 21 ∨ k = 22 ∨ k = 23 ∨ k = 24 ∨ k = 25 ∨ k = 26 := by lia
    rcases this with rfl | rfl | rfl | rfl | rfl | rfl | rfl | rfl | rfl | rfl | rfl <;> rfl⟩
theorem Lay.congr {σ : CH} {F F' : Nat → Option CObj} {N : Nat} (L : Lay σ F N) (h : ∀ k, F' k = F k) : Lay σ F' N := ⟨fun k k1 k2 => (L.low k k1 k2).trans (h k).symm, L.free, L.hand⟩
section
variable {α : Type} {σ : CH} {F : Nat → Option CObj} {N a b n : Nat} {f : α → CV} {g : α → CObj} {l : List α} (L : Lay σ (LL F a b n f g l) N)
include L
theorem Lay.ll (k : Nat) {o : Option CObj} (h : F k = o) (ha : k ≠ a) (hb : k ≠ b) (hk : k < n ∨ n + l.length ≤ k) (h1 : k ≠ 1) (h2 : k < 100) : σ k = o :=
  (L.low k h1 h2).trans ((LL.low ha hb hk).trans h)
theorem Lay.la (h1 : a ≠ 1) (h2 : a < 100) : σ a = some (.list (l.map f)) := (L.low a h1 h2).trans (by unfold LL; refine rwP (if_pos rfl) ?_; rfl)
theorem Lay.lb (h1 : b ≠ 1) (h2 : b < 100) (h : b ≠ a) : σ b = some (.list (refs n l.length)) := (L.low b h1 h2).trans (by unfold LL; refine rwP (if_neg h) ?_; refine rwP (if_pos rfl) ?_; rfl)
end
theorem nm1 {k a : Nat} {l : List Nat} (h : k ∉ a :: l) : k ≠ a ∧ k ∉ l := ⟨fun e => h (e ▸ .head _), fun e => h (.tail _ e)⟩
structure FT (pg : Int) (F G : Nat → Option CObj) : Prop where
  f2 : F 2 = some (dict0 pg (.fl []) (.fl []))
  f8 : F 8 = none
  f10 : F 10 = some (stoO 11 12 13 14 15)
  f11 : F 11 = some (szO pg)
  f12 : F 12 = some (.list [.ref 16, .ref 17, .ref 18])
  f13 : F 13 = some (.list [])
  f14 : F 14 = some (.list [])
  f15 : F 15 = some (.list [.ref 19, .ref 20, .ref 21, .ref 22])
  f31 : F 31 = some (.tab 651 "_law_made.<locals>.<lambda>")
  f40 : F 40 = none
  n23 : F 23 = none
  n24 : F 24 = none
  n25 : F 25 = none
  n26 : F 26 = none
  g : ∀ k ∈ [3, 4, 5, 6, 10, 11, 12, 15, 16, 17, 18, 19, 20, 21, 22, 30, 31, 32, 33, 34], F k = G k
noncomputable abbrev dM (pg : Int) (p0 p1 p2 : Host) (c0 c1 c2 c3 : Int × Int × VV) (tl : Int) (tm : Option Int) (ml : Int) (mm : Option Int) : SD := SD.mk pg (fun i => match i with
    | 0 => p0.2
    | 1 => p1.2
    | _ => p2.2) (fun i => match i with
    | 0 => p0.1
    | 1 => p1.1
    | _ => p2.1) (fun i => match i with
    | 0 => c0
    | 1 => c1
    | 2 => c2
    | _ => c3) tl tm ml mm [] [] none
theorem ft {pg : Int} {F : Nat → Option CObj} (H : FOk pg F) (p0 p1 p2 : Host) (c0 c1 c2 c3 : Int × Int × VV) : FT pg (LC (LH F [p0, p1, p2]) [c0, c1, c2, c3]) (fun k => some ((dM pg p0 p1 p2 c0 c1 c2 c3 0 none 0 none).obj k)) :=
  ⟨H.f2, H.f8, H.f10, H.f11, rfl, H.f13, H.f14, rfl, H.f31, H.f40, H.no 23 (by decide) (by decide), H.no 24 (by decide) (by decide), H.no 25 (by decide) (by decide), H.no 26 (by decide) (by decide),
    allC H.f3 <| allC H.f4 <| allC rfl <| allC rfl <| allC H.f10 <| allC H.f11 <| allC rfl <| allC rfl <| allC rfl <| allC rfl <| allC rfl <| allC rfl <| allC rfl <| allC rfl <| allC rfl <| allC H.f30 <| allC H.f31 <| allC H.f32 <| allC H.f33 <| allC H.f34 <| List.forall_mem_nil _⟩
theorem dM_ok {w : World} {pg : Int} {p0 p1 p2 : Host} {c0 c1 c2 c3 : Int × Int × VV} {tl : Int} {tm : Option Int} {ml : Int} {mm : Option Int} (hpg : 1 ≤ pg ∧ pg ≤ 4) (hg : ∀ p ∈ [p0, p1, p2], goodH w p) (hgc : ∀ p ∈ [c0, c1, c2, c3], goodC p)
    (t0 : 0 ≤ tl ∧ tl ≤ 6) (m0 : 0 ≤ ml ∧ ml ≤ 5) (ht : ∀ t, tm = some t → tl ≤ t ∧ t ≤ 8) (hm : ∀ t, mm = some t → ml ≤ t ∧ t ≤ 8) : (dM pg p0 p1 p2 c0 c1 c2 c3 tl tm ml mm).Ok w := by
  have x := hg p0 (.head _)
  have y := hg p1 (.tail _ (.head _))
  have z := hg p2 (.tail _ (.tail _ (.head _)))
  have three : ∀ {P : Nat → Prop}, P 0 → P 1 → P 2 → ∀ i, i < 3 → P i := fun a b c i hi => match i, hi with
    | 0, _ => a
    | 1, _ => b
    | 2, _ => c
  have four : ∀ {P : Nat → Prop}, P 0 → P 1 → P 2 → P 3 → ∀ i, i < 4 → P i := fun a b c d i hi => match i, hi with
    | 0, _ => a
    | 1, _ => b
    | 2, _ => c
    | 3, _ => d
  have g0 := hgc c0 (.head _)
  have g1 := hgc c1 (.tail _ (.head _))
  have g2 := hgc c2 (.tail _ (.tail _ (.head _)))
  have g3 := hgc c3 (.tail _ (.tail _ (.tail _ (.head _))))
  exact ⟨hpg, three x.2.2.2.2.1 y.2.2.2.2.1 z.2.2.2.2.1, three x.2.2.2.2.2 y.2.2.2.2.2 z.2.2.2.2.2, three ⟨x.1, x.2.1, x.2.2.1, x.2.2.2.1⟩ ⟨y.1, y.2.1, y.2.2.1, y.2.2.2.1⟩ ⟨z.1, z.2.1, z.2.2.1, z.2.2.2.1⟩,
    four g0.1 g1.1 g2.1 g3.1, t0, m0, ht, hm, Nat.zero_le _, Nat.zero_le _, four g0.2 g1.2 g2.2 g3.2⟩
theorem len3 {α : Type} {l : List α} (h : l.length = 3) : ∃ a b c, l = [a, b, c] := match l, h with
  | [a, b, c], _ => ⟨a, b, c, rfl⟩
theorem len4 {α : Type} {l : List α} (h : l.length = 4) : ∃ a b c d, l = [a, b, c, d] := match l, h with
  | [a, b, c, d], _ => ⟨a, b, c, d, rfl⟩
theorem made_ok {w : World} {σ : CH} {X : CH → Prop} (ns : List Int) (N : Nat) (Q : CV → CH → Prop) (L : Lay σ F0 N) (hN : N ≤ 40000) (hz : ns.length ≤ 63)
    (q : ∀ d σ', d.it = none → St w σ' d → HandAt σ' (N + 4) → Q (.ref 10) σ') : CallOk w 9 (.ref 656) [.fl (ns.map .int), .ref 1, .ref 2] σ Q X := by
  refine CallOk.topWC false _ ["script", "hand", "state"] ["store"] (.top g_Sizes (.top g_Store (.top g_law_draw (.top g_law_heard (.top g_law_host (.top g_law_kinds (.bi bi_list (by decide) (.bi bi_range (by decide) .nil)))))))) (by k_is) (by k_is) (ar3 fun _ _ _ => rfl) rfl (by decide) (fun c hl fr hc => ?_)
  obtain ⟨hnm, hcd, hcm⟩ := hc
  have hsc := fr.hs
  refine CV.draw (by exact lv ‹_› rfl) L.hand (by lia) hz (by decide) L.free fun r σ1 r0 r1 u1 h1 => ?_
  have L1 := L.upH u1 h1
  have hpg : 1 ≤ 1 + r ∧ 1 + r ≤ 4 := by lia
  refine (?_ : SP _ _ _ _ _)
  generalize 1 + r = pg at *
  refine setDict (L1.low 2 (by decide) (by decide)) (dict0 pg (.fl []) (.fl [])) rfl (Nat.le_of_ble_eq_true rfl) ?_
  have L2 := L1.set 2 (dict0 pg (.fl []) (.fl [])) (by decide)
  generalize σ1.set 2 (dict0 pg (.fl []) (.fl [])) = σ2 at *
  refine itemDic (L2.low 2 (by decide) (by decide)) rfl ?_
  refine mkSizes (n := 11) (by exact lv ‹_› rfl) (L2.low 11 (by decide) (by decide)) fun σ3 a3 e3 => ?_
  have L3 := L2.one (n := 11) (by decide) a3 e3
  refine mkStore (by exact lv ‹_› rfl) (L3.low 10 (by decide) (by decide)) a3 (L3.low 12 (by decide) (by decide)) (L3.low 13 (by decide) (by decide)) (L3.low 14 (by decide) (by decide)) (L3.low 15 (by decide) (by decide)) fun σ4 b0 b1 b2 b3 b4 e4 => ?_
  have L4 : Lay σ4 _ _ := L3.upd [(10, stoO 11 12 13 14 15), (12, .list []), (13, .list []), (14, .list []), (15, .list [])] (by decide) (fun k hk => have h1 := nm1 hk; have h2 := nm1 h1.2; have h3 := nm1 h2.2; have h4 := nm1 h3.2; e4 k h1.1 h2.1 h3.1 h4.1 (nm1 h4.2).1) (allC b0 <| allC b1 <| allC b2 <| allC b3 <| allC b4 <| List.forall_mem_nil _) (by decide)
  obtain ⟨F6, H, L4⟩ : ∃ F, FOk pg F ∧ Lay σ4 F (N + 1) := ⟨_, fok pg, L4⟩
  refine SX.mk (XV.assign2 (fr.E false ?_) (by show swappedStores _ _ { c.env with scope := c.sc } = _; refine rwP hsc ?_; rfl) (by rfl))
  refine SB.mk none (.pow (by decide) (by decide) (by unfold small; decide) ?_)
  refine CV.draw (by exact lv ‹_› rfl) L4.hand (by lia) hz (by decide) L4.free fun sh σ5 s0 s1 u5 h5 => ?_
  have L5 := L4.upH u5 h5
  refine CV.draw (by exact lv ‹_› rfl) L5.hand (by lia) hz (by decide) L5.free fun fl σ6 f0 f1 u6 h6 => ?_
  have L6 := L5.upH u6 h6
  conv => whnf
  refine ⟨_, _, rfl, StOk.loc hsc rfl, StOk.loc hsc rfl, ?_⟩
  refine SX.mk (XV.for (fr.E false ?_) (by intro _; rfl))
  refine SC.mk (CallV.range1 ?_)
  obtain ⟨n, hn1, hn2⟩ := L6.free.pick
  refine ⟨n, _, _, _, _, iter_rng (by lia) (by lia) (by lia) (by lia) hn2, CH.set_self .., src_rit (fun _ _ => rfl) _ _, ?_⟩
  refine FV.run2 (fun i m σ' => (MLk ns fl m ∧ m.lookup (Str.ofString "shapes") = some (.int sh)) ∧ ∃ hl : List Host, hl.length = i ∧ (∀ p ∈ hl, goodH w p) ∧ Lay σ' (LH F6 hl) (N + 1 + 1 + 1)) (fun _ _ _ _ => trivial) (fun i m σ1 σ2 s k => ⟨s.1, by obtain ⟨hl, a, b, L⟩ := s.2; exact ⟨hl, a, b, L.but hn1 k⟩⟩) _ _ _ 0 (fun j x hx m σ7 o hI ho K hK _ => ?_)
    ⟨⟨⟨rfl, rfl, rfl, rfl, rfl⟩, rfl⟩, [], rfl, fun p hp => absurd hp List.not_mem_nil, (L6.but hn1 fun k hk => CH.set_ne _ _ hk).congr (LL.nil H.f5 H.f12)⟩ fun m σ7 hI => ?_
  · refine hide fun Ph hPh => ?_
    obtain ⟨rfl, hj⟩ := up3 hx
    obtain ⟨⟨M, hsh⟩, hl, hlen, hg, L7⟩ := hI
    refine hPh ?_
    rw [Nat.zero_add] at hlen hK
    refine AV.name (StOk.loc hsc rfl) (fr.Xs false ?_)
    conv => whnf
    refine look hsh ?_
    refine SB.mk none (.pow (by lia) (by lia) (by unfold small; decide) ?_)
    obtain ⟨E, hE, E1, E2⟩ := pow_bd (.inl rfl) (show j < 4 by lia)
    refine rwP hE ?_
    refine SB.mk none (.div (by lia) (by unfold small; lia) ?_)
    refine SB.mk none (.mod (by decide) ?_)
    have n0 := Int.fmod_nonneg_of_pos (Int.fdiv sh E) (show (0 : Int) < 85 by decide)
    have n1 := Int.fmod_lt_of_pos (Int.fdiv sh E) (show (0 : Int) < 85 by decide)
    refine (?_ : SC _ _ _ _ _ _ _ _)
    generalize Int.fmod (Int.fdiv sh E) 85 = num at *
    refine CV.kinds (by exact lv ‹_› rfl) L7.free n0 (by lia) fun ks1 σ8 k1 z1 u8 => ?_
    refine SB.mk none (.mul (by unfold small; lia) ?_)
    refine SB.mk none (.mul (by unfold small; decide) ?_)
    refine SB.mk none (.mod (by decide) ?_)
    refine (?_ : SC _ _ _ _ _ _ _ _)
    have n2 := Int.fmod_nonneg_of_pos (num * 7 + 5 * j) (show (0 : Int) < 21 by decide)
    have n3 := Int.fmod_lt_of_pos (num * 7 + 5 * j) (show (0 : Int) < 21 by decide)
    refine CV.kinds (by exact lv ‹_› rfl) u8.free n2 (by lia) fun ks2 σ9 k2 z2 u9 => ?_
    have L9 := (L7.up u8).up u9
    have ho9 := u9.at (u8.at ho)
    have e10 := L9.ll 10 H.f10 (by decide) (by decide) (.inl (by decide)) (by decide) (by decide)
    have e2 := L9.ll 2 H.f2 (by decide) (by decide) (.inl (by decide)) (by decide) (by decide)
    have e16 : σ9 (16 + hl.length) = none := L9.ll _ (H.no _ (by lia) (by lia)) (by lia) (by lia) (.inr (Nat.le_refl _)) (by lia) (by lia)
    conv => whnf
    refine look M.r ?_
    refine ⟨rfl, ?_⟩; refine SM.mk (MethV.own (by with_reducible assumption) me_Store_make_host rfl ?_); conv => whnf
    refine look M.t ?_
    refine itemDic e2 rfl ?_
    conv => whnf
    refine look M.t ?_
    refine itemDic e2 rfl ?_
    refine SC.mk (CallV.ok k_law_host (by exact lv ‹_› rfl) (law_host_ok _ (L9.ll 30 H.f30 (by decide) (by decide) (.inr (by lia)) (by decide) (by decide)) fun act ha hu hnt => ?_))
    refine SC.mk (CallV.ok km_Store_make_host (by exact lv ‹_› rfl) (make_host_ok (n := 16 + hl.length) (kindC (ks1, ks2)) act (refs 16 hl.length) _ rfl hu e10 (L9.lb (by decide) (by decide) (by decide)) (by rw [refs_length]; lia) e16 fun σA aA bA eA => ?_))
    rewrite [refs_length]; refine rwP hlen ?_
    refine cmpNeSelf ?_
    have e2A := (eA 2 (by lia) (by decide)).trans e2
    have e5 := (eA 5 (by lia) (by decide)).trans (L9.la (by decide) (by decide))
    conv => whnf
    refine look M.t ?_
    refine itemDic e2A rfl ?_
    refine SM.mk (MethV.lapp e5 ?_)
    refine SC.mk (CallV.append e5 (by rewrite [List.length_map]; refine rwP sizeLine_eq ?_; lia) ?_)
    refine hK _ _ ⟨⟨⟨M.s, M.h, M.t, M.r, M.f⟩, hsh⟩, hl ++ [((ks1, ks2), act)], by refine rwP List.length_append ?_; refine rwP hlen ?_; rfl, fun p hp => ?_, LL.step L9 (by decide) (by decide) (by decide) ((CH.set_ne _ _ (by lia)).trans aA) ((CH.set_ne _ _ (by decide)).trans bA) (CH.set_self ..) fun k k1 k2 k3 => (CH.set_ne _ _ k1).trans (eA k k3 k2)⟩ ?_
    · rcases List.mem_append.mp hp with hp | hp
      · exact hg p hp
      · refine rwP (List.mem_singleton.mp hp) ?_; exact ⟨k1, k2, z1, z2, ha, hnt⟩
    · exact (CH.set_ne _ _ (by lia)).trans ((eA n (by lia) (by lia)).trans ho9)
  obtain ⟨⟨M, -⟩, hl, hlen, hg, L7⟩ := hI
  rw [Nat.zero_add] at hlen
  have hlen : hl.length = 3 := hlen
  refine SX.mk (XV.for (fr.E false ?_) (by intro _; rfl))
  refine SC.mk (CallV.range1 ?_)
  obtain ⟨n2, hn3, hn4⟩ := L7.free.pick
  refine ⟨n2, _, _, _, _, iter_rng (by lia) (by lia) (by lia) (by lia) hn4, CH.set_self .., src_rit (fun _ _ => rfl) _ _, ?_⟩
  refine FV.run2 (fun i m σ' => MLk ns fl m ∧ ∃ cl : List (Int × Int × VV), cl.length = i ∧ (∀ p ∈ cl, goodC p) ∧ Lay σ' (LC (LH F6 hl) cl) (N + 1 + 1 + 1)) (fun _ _ _ _ => trivial) (fun i m σ1 σ2 s k => ⟨s.1, by obtain ⟨hl, a, b, L⟩ := s.2; exact ⟨hl, a, b, L.but hn3 k⟩⟩) _ _ _ 0 (fun j x hx m σ8 o hI ho K hK _ => ?_)
    ⟨M, [], rfl, fun p hp => absurd hp List.not_mem_nil, (L7.but hn3 fun k hk => CH.set_ne _ _ hk).congr (LL.nil ((LL.low (by decide) (by decide) (.inl (by decide))).trans H.f6) ((LL.low (by decide) (by decide) (.inl (by decide))).trans H.f15))⟩ fun m σ8 hI => ?_
  · refine hide fun Ph hPh => ?_
    obtain ⟨rfl, hj⟩ := up4 hx
    obtain ⟨M, cl, hcl, hgc, L8⟩ := hI
    refine hPh ?_
    rw [Nat.zero_add] at hcl hK
    obtain ⟨kk, hkk, ek⟩ := kind_at (r := j) (by lia) (by lia)
    obtain ⟨v, hv, ev⟩ := first_at hj
    refine AV.name (StOk.loc hsc rfl) (fr.Xs false ?_)
    refine SL.mk none ?_
    refine itemFl (by lia) (by lia) ek ?_
    conv => whnf
    refine look M.f ?_
    refine SB.mk none (.pow (by lia) (by lia) (by unfold small; decide) ?_)
    obtain ⟨E, hE, E1, E2⟩ := pow_bd (.inr rfl) hj
    refine rwP hE ?_
    refine SB.mk none (.div (by lia) (by unfold small; lia) ?_)
    refine SB.mk none (.mod (by decide) ?_)
    have n0 := Int.fmod_nonneg_of_pos (Int.fdiv fl E) (show (0 : Int) < 2 by decide)
    have n1 := Int.fmod_lt_of_pos (Int.fdiv fl E) (show (0 : Int) < 2 by decide)
    refine SB.mk none (.pow (by decide) (by decide) (by unfold small; decide) ?_); refine (?_ : SL _ _ _ _)
    generalize Int.fmod (Int.fdiv fl E) 2 = mu at *
    refine ⟨none, ?_⟩
    refine itemFl (by lia) (by lia) ev ?_
    have lw : ∀ k o, F6 k = o → k < 16 → k ≠ 5 → k ≠ 6 → k ≠ 12 → k ≠ 15 → k ≠ 1 → σ8 k = o := fun k o h h1 h2 h3 h4 h5 h6 => L8.ll k ((LL.low h2 h4 (.inl h1)).trans h) h3 h5 (.inl (by lia)) h6 (by lia)
    have e10 := lw 10 _ H.f10 (by decide) (by decide) (by decide) (by decide) (by decide) (by decide)
    have e2 := lw 2 _ H.f2 (by decide) (by decide) (by decide) (by decide) (by decide) (by decide)
    have e19 : σ8 (19 + cl.length) = none := L8.ll _ ((LL.low (by lia) (by lia) (.inr (by lia))).trans (H.no _ (by lia) (by lia))) (by lia) (by lia) (.inr (Nat.le_refl _)) (by lia) (by lia)
    conv => whnf
    refine look M.r ?_
    refine ⟨rfl, ?_⟩; refine SM.mk (MethV.own (by with_reducible assumption) me_Store_make_global rfl ?_); refine itemTup (by decide) (by decide) rfl ?_; refine itemTup (by decide) (by decide) rfl ?_; refine itemTup (by decide) (by decide) rfl ?_
    refine SC.mk (CallV.ok km_Store_make_global (by exact lv ‹_› rfl) (make_global_ok (n := 19 + cl.length) kk mu v (refs 19 cl.length) _ e10 (L8.lb (by decide) (by decide) (by decide)) (by rw [refs_length]; lia) e19 fun σA aA bA eA => ?_))
    rewrite [refs_length]; refine rwP hcl ?_
    refine cmpNeSelf ?_
    have e2A := (eA 2 (by lia) (by decide)).trans e2
    have e6 := (eA 6 (by lia) (by decide)).trans (L8.la (by decide) (by decide))
    conv => whnf
    refine look M.t ?_
    refine itemDic e2A rfl ?_
    refine SM.mk (MethV.lapp e6 ?_)
    refine SC.mk (CallV.append e6 (by rewrite [List.length_map]; refine rwP sizeLine_eq ?_; lia) ?_)
    refine hK _ _ ⟨⟨M.s, M.h, M.t, M.r, M.f⟩, cl ++ [(kk, mu, v)], by refine rwP List.length_append ?_; refine rwP hcl ?_; rfl, fun p hp => ?_, LL.step L8 (by decide) (by decide) (by decide) ((CH.set_ne _ _ (by lia)).trans aA) ((CH.set_ne _ _ (by decide)).trans bA) (CH.set_self ..) fun k k1 k2 k3 => (CH.set_ne _ _ k1).trans (eA k k3 k2)⟩ ?_
    · rcases List.mem_append.mp hp with hp | hp
      · exact hgc p hp
      · refine rwP (List.mem_singleton.mp hp) ?_; exact ⟨hkk, okB_mk hkk n0 n1 hv⟩
    · exact (CH.set_ne _ _ (by lia)).trans ((eA n2 (by lia) (by lia)).trans ho)
  obtain ⟨M, cl, hcl, hgc, L8⟩ := hI
  rw [Nat.zero_add] at hcl
  have hcl : cl.length = 4 := hcl
  obtain ⟨p0, p1, p2, rfl⟩ := len3 hlen
  obtain ⟨c0, c1, c2, c3, rfl⟩ := len4 hcl
  obtain ⟨F8, H8, L8⟩ : ∃ F, FT pg F (fun k => some ((dM pg p0 p1 p2 c0 c1 c2 c3 0 none 0 none).obj k)) ∧ Lay σ8 F (N + 1 + 1 + 1) := ⟨_, ft H _ _ _ _ _ _ _, L8⟩
  conv => whnf
  refine look M.s ?_
  conv => whnf
  refine look M.h ?_
  refine CV.draw (by exact lv ‹_› rfl) L8.hand (by lia) hz (by decide) L8.free fun way σ9 w0 w1 u9 h9 => ?_
  have L9 := L8.upH u9 h9
  have t0 := Int.fmod_nonneg_of_pos way (show (0 : Int) < 4 by decide)
  have t1 := Int.fmod_lt_of_pos way (show (0 : Int) < 4 by decide)
  have m0 : 0 ≤ Int.fdiv way 16 := Int.fdiv_nonneg w0 (by decide)
  have m1 : Int.fdiv way 16 < 4 := by refine rwP (Int.fdiv_eq_ediv_of_nonneg _ (by decide)) ?_; lia
  have i0 := Int.fmod_nonneg_of_pos (Int.fdiv way 4) (show (0 : Int) < 4 by decide)
  have i1 := Int.fmod_lt_of_pos (Int.fdiv way 4) (show (0 : Int) < 4 by decide)
  refine hide fun Ph hPh => ?_
  obtain ⟨tm, et, ht⟩ := most_at (a := 3) (b := 5) (c := 8) i0 i1 (by decide) (by decide) (by decide)
  obtain ⟨mm, em, hm⟩ := most_at (a := 3) (b := 4) (c := 7) i0 i1 (by decide) (by decide) (by decide)
  refine hPh ?_
  refine SB.mk none (.mod (by decide) ?_)
  refine SL.mk none ?_
  refine SB.mk none (.div (by decide) (by unfold small; decide) ?_)
  refine SB.mk none (.mod (by decide) ?_)
  refine itemFl i0 (by lia) et ?_
  refine SB.mk none (.div (by decide) (by unfold small; decide) ?_)
  refine SL.mk none ?_
  refine SB.mk none (.div (by decide) (by unfold small; decide) ?_)
  refine SB.mk none (.mod (by decide) ?_)
  refine itemFl i0 (by lia) em ?_
  refine (?_ : SL _ _ _ _)
  clear et em i0 i1
  generalize Int.fmod way 4 = tl at *
  generalize Int.fdiv way 16 = ml at *
  have e8 : σ9 8 = none := (L9.low 8 (by decide) (by decide)).trans H8.f8
  refine ⟨some 8, lstQ_some e8 ?_⟩
  have L10 := L9.set 8 (.list [limC tl tm, limC ml mm]) (by decide)
  generalize σ9.set 8 (.list [limC tl tm, limC ml mm]) = σ10 at *
  conv => whnf
  refine look M.t ?_
  refine (?_ : SP _ _ _ _ _)
  refine setDict ((L10.low 2 (by decide) (by decide)).trans H8.f2) (dict0 pg (.ref 8) (.fl [])) rfl (Nat.le_of_ble_eq_true rfl) ?_
  have L11 := L10.set 2 (dict0 pg (.ref 8) (.fl [])) (by decide)
  generalize σ10.set 2 (dict0 pg (.ref 8) (.fl [])) = σ11 at *
  have e10 : σ11 10 = some (stoO 11 12 13 14 15) := (L11.low 10 (by decide) (by decide)).trans H8.f10
  conv => whnf
  refine look M.r ?_
  refine ⟨rfl, ?_⟩; refine SM.mk (MethV.own (by with_reducible assumption) me_Store_make_table rfl ?_); conv => whnf
  refine look M.t ?_
  refine itemDic (L11.low 2 (by decide) (by decide)) rfl ?_
  refine itemNam (k := 0) (L11.low 8 (by decide) (by decide)) (by decide) (by decide) rfl ?_
  refine SB.mk none (.addT (by refine rwP sizeLine_eq ?_; exact Nat.le_of_ble_eq_true rfl) ?_)
  refine SC.mk (CallV.ok km_Store_make_table (by exact lv ‹_› rfl) (make_table_ok (n := 23) (j := 25) (-16) tl pg tm [] _ e10 ((L11.low 11 (by decide) (by decide)).trans H8.f11) ((L11.low 13 (by decide) (by decide)).trans H8.f13) (by decide) ((L11.low 23 (by decide) (by decide)).trans H8.n23) ((L11.low 25 (by decide) (by decide)).trans H8.n25) (by decide) t0 (by lia) (fun _ σA a1 a2 a3 eA => ?_) fun h => absurd h (by lia)))
  have L12 : Lay σA _ _ := L11.upd [(23, tabO (-16) tm 6 25), (25, .list (List.replicate tl.toNat .none)), (13, .list [.ref 23])] (show 1 ∉ ([23, 25, 13] : List Nat) by decide) (fun k hk => have h1 := nm1 hk; have h2 := nm1 h1.2; eA k h1.1 h2.1 (nm1 h2.2).1) (allC a1 <| allC a2 <| allC a3 <| List.forall_mem_nil _) (show ([23, 25, 13] : List Nat).Nodup by decide)
  have e10 : σA 10 = some (stoO 11 12 13 14 15) := (L12.low 10 (by decide) (by decide)).trans H8.f10
  refine cmpI.ne ?_
  conv => whnf
  refine look M.r ?_
  refine ⟨rfl, ?_⟩; refine SM.mk (MethV.own (by with_reducible assumption) me_Store_make_memory rfl ?_); conv => whnf
  refine look M.t ?_
  refine itemDic (L12.low 2 (by decide) (by decide)) rfl ?_
  refine itemNam (k := 1) (L12.low 8 (by decide) (by decide)) (by decide) (by decide) rfl ?_
  refine SC.mk (CallV.ok km_Store_make_memory (by exact lv ‹_› rfl) (make_memory_ok (n := 24) (j := 26) ml pg mm [] _ e10 ((L12.low 11 (by decide) (by decide)).trans H8.f11) ((L12.low 14 (by decide) (by decide)).trans H8.f14) (by decide) ((L12.low 24 (by decide) (by decide)).trans H8.n24) ((L12.low 26 (by decide) (by decide)).trans H8.n26) (by decide) m0 (by lia) hpg.1 (by lia) (fun _ σB a1 a2 a3 eB => ?_) fun h => absurd h (by lia)))
  have L13 : Lay σB _ _ := L12.upd [(24, memO mm pg 26), (26, .barr (Array.replicate (ml * pg).toNat 0)), (14, .list [.ref 24])] (show 1 ∉ ([24, 26, 14] : List Nat) by decide) (fun k hk => have h1 := nm1 hk; have h2 := nm1 h1.2; eB k h1.1 h2.1 (nm1 h2.2).1) (allC a1 <| allC a2 <| allC a3 <| List.forall_mem_nil _) (show ([24, 26, 14] : List Nat).Nodup by decide)
  have e10 : σB 10 = some (stoO 11 12 13 14 15) := (L13.low 10 (by decide) (by decide)).trans H8.f10
  have e11 : σB 11 = some (szO pg) := (L13.low 11 (by decide) (by decide)).trans H8.f11
  refine cmpI.ne ?_
  refine SE.mk (EV.lambda ((L13.low 31 (by decide) (by decide)).trans H8.f31) (by decide) hcd (by refine rwP hnm ?_; rfl) (caps := [.ref 10]) (by show [m.lookup (Str.ofString "store")] = _; refine rwP M.r ?_; rfl) (noUnb rfl) (by refine rwP hsc ?_; decide) ?_ (by rfl))
  refine SC.mk (CallV.ok (h := 8) k_law_heard (by exact lv ‹_› rfl) (heard_gen _ 7 _ rfl (fun b cv σ' => b = false ∧ cv = .none ∧ Up σB σ') (fun c' m' hl' => CallV.lam (by exact lv ‹_› rfl) rfl (by intros; rfl) (by decide) (by decide) (fun c2 hl2 hs2 => InF.E (⟨hs2, rfl, rfl, fr.gt⟩ : InF w c2 _ _) false ?_) rfl rfl rfl) fun b cv σC hR => ?_))
  · refine hide fun Ph hPh => ?_
    obtain ⟨a, ha1, ha2⟩ := L13.free.pick
    obtain ⟨b, hb1, hb2⟩ := (L13.free.set a .junk).pick
    refine hPh ?_
    have hab : a ≠ b := by rintro rfl; rw [CH.set_self] at hb2; injection hb2
    refine ⟨rfl, ?_⟩; refine SM.mk (MethV.own (by with_reducible assumption) me_Store_make_memory rfl ?_)
    exact SC.mk (CallV.ok km_Store_make_memory (by exact lvS ‹_› ‹_› rfl) (make_memory_ok (n := a) (j := b) 6 pg none [.ref 24] _ e10 e11 (L13.low 14 (by decide) (by decide)) (by decide) ha2 ((CH.set_ne _ _ hab.symm).symm.trans hb2) hab (by decide) (by decide) hpg.1 (by lia) (fun h => absurd h (by decide)) fun _ σ' e => ⟨rfl, rfl, (Up.refl L13.free).tmp ha1 ha2 e⟩))
  obtain ⟨rfl, rfl, uC⟩ := hR
  have LC := L13.up uC
  have e10 := uC.at e10
  have e11 := uC.at e11
  refine SE.mk (EV.lambda ((LC.low 31 (by decide) (by decide)).trans H8.f31) (by decide) hcd (by refine rwP hnm ?_; rfl) (caps := [.ref 10]) (by show [m.lookup (Str.ofString "store")] = _; refine rwP M.r ?_; rfl) (noUnb rfl) (by refine rwP hsc ?_; decide) ?_ (by rfl))
  refine SC.mk (CallV.ok (h := 8) k_law_heard (by exact lv ‹_› rfl) (heard_gen _ 7 _ rfl (fun b cv σ' => b = false ∧ cv = .none ∧ Up σC σ') (fun c' m' hl' => CallV.lam (by exact lv ‹_› rfl) rfl (by intros; rfl) (by decide) (by decide) (fun c2 hl2 hs2 => InF.E (⟨hs2, rfl, rfl, fr.gt⟩ : InF w c2 _ _) false ?_) rfl rfl rfl) fun b cv σD hR => ?_))
  · refine hide fun Ph hPh => ?_
    obtain ⟨a, ha1, ha2⟩ := LC.free.pick
    obtain ⟨b, hb1, hb2⟩ := (LC.free.set a .junk).pick
    refine hPh ?_
    have hab : a ≠ b := by rintro rfl; rw [CH.set_self] at hb2; injection hb2
    refine ⟨rfl, ?_⟩; refine SM.mk (MethV.own (by with_reducible assumption) me_Store_make_table rfl ?_)
    exact SC.mk (CallV.ok km_Store_make_table (by exact lvS ‹_› ‹_› rfl) (make_table_ok (n := a) (j := b) (-17) 7 pg (some 9) [.ref 23] _ e10 e11 (LC.low 13 (by decide) (by decide)) (by decide) ha2 ((CH.set_ne _ _ hab.symm).symm.trans hb2) hab (by decide) (by decide) (fun h => absurd h (by decide)) fun _ σ' e => ⟨rfl, rfl, (Up.refl LC.free).tmp ha1 ha2 e⟩))
  obtain ⟨rfl, rfl, uD⟩ := hR
  have LD := LC.up uD
  have e10 := uD.at e10
  refine SL.mk none ?_
  conv => whnf
  refine look M.r ?_
  refine ⟨rfl, ?_⟩; refine SG.mk (by with_reducible assumption) at_Store_funcs (by exact rfl) (by exact nT rfl) ?_
  refine SC.mk (CallV.listOf none (l := [.ref 16, .ref 17, .ref 18]) ((LD.low 12 (by decide) (by decide)).trans H8.f12) (Nat.le_of_ble_eq_true rfl) (lstQ_none ?_))
  conv => whnf
  refine look M.r ?_
  refine ⟨rfl, ?_⟩; refine SG.mk (by with_reducible assumption) at_Store_tables (by exact rfl) (by exact nT rfl) ?_
  refine SC.mk (CallV.listOf none (l := [.ref 23]) (LD.low 13 (by decide) (by decide)) (Nat.le_of_ble_eq_true rfl) (lstQ_none ?_))
  conv => whnf
  refine look M.r ?_
  refine ⟨rfl, ?_⟩; refine SG.mk (by with_reducible assumption) at_Store_memories (by exact rfl) (by exact nT rfl) ?_
  refine SC.mk (CallV.listOf none (l := [.ref 24]) (LD.low 14 (by decide) (by decide)) (Nat.le_of_ble_eq_true rfl) (lstQ_none ?_))
  conv => whnf
  refine look M.r ?_
  refine ⟨rfl, ?_⟩; refine SG.mk (by with_reducible assumption) at_Store_globals (by exact rfl) (by exact nT rfl) ?_
  refine SC.mk (CallV.listOf none (l := [.ref 19, .ref 20, .ref 21, .ref 22]) ((LD.low 15 (by decide) (by decide)).trans H8.f15) (Nat.le_of_ble_eq_true rfl) (lstQ_none ?_))
  refine SL.mk none ?_
  conv => whnf
  refine look M.t ?_
  refine (?_ : SP _ _ _ _ _)
  refine setDict (LD.low 2 (by decide) (by decide)) (dict0 pg (.ref 8) thingsC) rfl (Nat.le_of_ble_eq_true rfl) ?_
  have LE := LD.set 2 (dict0 pg (.ref 8) thingsC) (by decide)
  generalize σD.set 2 (dict0 pg (.ref 8) thingsC) = σE at *
  refine SE.ifs fr false ?_
  refine SL.mk none ?_
  refine SB.mk none (.mulL (List.cons_ne_nil _ _) (by decide) (by decide) (by decide) (lstQ_none ?_))
  refine .eqD (b := .fl [.tup [.str "misused", .none], .tup [.str "misused", .none]]) rfl (by show okD (.fl [.tup [.str "misused", .none], .tup [.str "misused", .none]]) = true; decide +kernel) (by show SeqAt.shaped (toD (.fl [.tup [.str "misused", .none], .tup [.str "misused", .none]])) = true; decide +kernel) ?_
  conv => whnf
  refine look M.r ?_
  refine ⟨rfl, q (dM pg p0 p1 p2 c0 c1 c2 c3 tl tm ml mm) σE rfl ⟨fun k hk => (LE.low k ((show ∀ k ∈ nms, k ≠ 1 by decide) k hk) ((show ∀ k ∈ nms, k < 100 by decide) k hk)).trans ?_, ?_, LE.free, (LE.low 40 (by decide) (by decide)).trans H8.f40⟩ LE.hand⟩
  · have g := H8.g
    revert hk; revert k
    exact nmsAll rfl (g 3 (by decide)) (g 4 (by decide)) (g 5 (by decide)) (g 6 (by decide)) rfl (g 10 (by decide)) (g 11 (by decide)) (g 12 (by decide)) rfl rfl (g 15 (by decide)) (g 16 (by decide)) (g 17 (by decide)) (g 18 (by decide)) (g 19 (by decide)) (g 20 (by decide)) (g 21 (by decide)) (g 22 (by decide)) rfl rfl rfl rfl (g 30 (by decide)) (g 31 (by decide)) (g 32 (by decide)) (g 33 (by decide)) (g 34 (by decide))
  · exact dM_ok hpg hg hgc ⟨t0, by lia⟩ ⟨m0, by lia⟩ (fun t e => ⟨by have := ht t e; lia, (ht t e).2⟩) (fun t e => ⟨by have := hm t e; lia, (hm t e).2⟩)
noncomputable def fstCx (prog : Program) (s : Shared) (fd : FuncData) (f : Addr) : Cx :=
  { prog := prog, A := callerA.deeper (envX fd.qualname fd.scope s.heap.objs.size f fd.code fd.closure), nm := fd.qualname, sc := fd.scope, L := s.heap.objs.size, fa := f, cd := fd.code, cl := fd.closure, outer := [], pr := fun _ => none, os0 := s.os, lv := 1 }
theorem fstOk (prog : Program) (s : Shared) (fd : FuncData) (f : Addr) (k : fd.scope.kind = .function) : CxOk (fstCx prog s fd f) :=
  ⟨Around.frames_deeper rfl, fun _ e => absurd e (by exact fun h => nomatch h), fun _ e => absurd e List.not_mem_nil, rfl, rfl, k, by show callerA.units + 3 ≤ 200; decide, by show callerA.depth + 1 ≤ 320; decide, by show 1 ≤ 30; decide⟩
theorem startW {w : World} {h : Nat} {f : Addr} {cs : List CV} {σ : CH} {Q : CV → CH → Prop}
    {name qual : Str} {params : Arguments} {body : List Stmt} {scope : Scope} {dV kV doc pm cdv ct oc : Value} {an od : Option Addr} {osl : Array (Option Value)} (fz : Bool) (gt : List (Str × CV)) (names : List Str) (hgt : Gt w gt) (ho : (kk.heap_1 w.params).lookup f = some ⟨oc, od, .func (fnOf name qual params body scope dV kV doc pm an cdv ct), osl⟩) (hcd : codeIn (kk.heap_1 w.params) cdv qual = true)
    (hbind : ∀ vs, vs.length = names.length → bindArgs (fnOf name qual params body scope dV kV doc pm an cdv ct) ⟨vs, []⟩ = Pure.pure (names.zip vs)) (hlen : cs.length = names.length) (hn : nmsOk names scope = true) (hh : h ≤ 29)
    (hbody : ∀ c, c.lv + h ≤ 30 → InF w c scope gt → c.nm = qual ∧ c.cd = cdv ∧ c.cmp = none → wp w c noX ⟨scope, gt, fz⟩ 100 (.Xs body (endK Q)) (names.zip cs) σ)
    {prog : Program} {T : TM} {s : Shared} {vs : List Value} (W : W0 w s.os (fun _ => none) T σ s) (hL : ∀ a, T a ≠ some .loc) (hC : ∀ a x, T a ≠ some (.cell x)) (ra : VX T cs vs) :
    wpI (model prog w) callerA (call (.ref f) vs) (fun v s' => ∃ cv σ' T', Q cv σ' ∧ W0 w s.os (fun _ => none) T' σ' s' ∧ Ext T T' ∧ VR T' cv v) (fun _ _ => False) s := by
  have n := nmsOk_of hn
  obtain ⟨p, lo, mg, mb, TT, XX⟩ := Topped.ns W
  rw [KF_eq] at XX
  have hl : ∀ x ∈ names.zip vs, scope.names.lookup x.1 = some .local := fun x hx => n.loc _ (List.of_mem_zip (a := x.1) (b := x.2) hx).1
  generalize hfd : fnOf name qual params body scope dV kV doc pm an cdv ct = fd at *
  have e1 : fd.scope = scope := by refine rwB hfd ?_; rfl
  have e2 : fd.qualname = qual := by refine rwB hfd ?_; rfl
  have e3 : fd.code = cdv := by refine rwB hfd ?_; rfl
  have e5 : fd.globals = mainGlobals := by refine rwB hfd ?_; rfl
  have e6 : fd.builtins = builtinsNs := by refine rwB hfd ?_; rfl
  have e7 : fd.body = .stmts body := by refine rwB hfd ?_; rfl
  subst e1
  have henv : callEnv fd s.heap.objs.size f = (fstCx prog s fd f).env := by unfold callEnv newEnv fstCx; simp only []; refine rwP e5 ?_; refine rwP e6 ?_; rfl
  refine wpI_call (codeI_call_function (by show 301 < recursionLimit; decide) (XX _ _ ho) rfl n.co n.gen e7 (by refine rwP e3 ?_; refine rwP e2 ?_; exact codeRec_of XX hcd) ?_)
  refine rwP (hbind vs (ra.length.trans hlen)) ?_
  refine wpI_pure (of (wpAny_newFunctionEnv n.cell hl (fun h₀ hns hsb₀ => ⟨TT.nolimit.fresh _ hsb₀, codeI_func ?_⟩) n.kind))
  have hkk : ∀ b o, s.heap.get? b = some o → h₀.get? b = some o := fun b o e => hsb₀.extBut b o (Nat.ne_of_lt (Heap.lt_size e)) (Heap.get?_push_of_some _ e)
  show wpI _ (callerA.deeper (callEnv fd s.heap.objs.size f)) (execs body (callEnv fd s.heap.objs.size f)) _ (fun e s' => PySem.wpAny _ (callerA.deeper (callEnv fd s.heap.objs.size f)) (leaving (callEnv fd s.heap.objs.size f) e) _ _ s') _
  refine rwP henv ?_
  have hfr := W.fresh
  have hns2 := hns
  refine hide fun Ph hPh => ?_
  obtain ⟨oL, _, _, hoL, _⟩ := hns2
  refine hPh ?_
  have W1 : Wf w (fstCx prog s fd f) (T.put s.heap.objs.size .loc) (names.zip cs) σ { s with heap := h₀, toks := s.toks + (names.zip vs).length } :=
    { toW0 := (W.stepK (s' := { s with heap := h₀, toks := s.toks + (names.zip vs).length }) (fun a o _ e => hkk a o e) rfl rfl).more (fun a t h => (TM.put_ne _ _ (by rintro rfl; rw [hfr] at h; injection h)).trans h) fun a t h => by
        by_cases q : a = s.heap.objs.size
        · subst q; rw [TM.put_self] at h; obtain rfl := Option.some.inj h; exact .inr ⟨oL, hoL, .inl rfl⟩
        · rw [TM.put_ne _ _ q] at h; exact .inl h
      ok := fstOk prog s fd f n.kind
      locL := TM.put_self ..
      loc := ⟨_, hns, fun x cv e => by
        obtain ⟨v, e', r⟩ := zip_get (ra.mono (Ext.put hfr)) e
        exact .inl ⟨n.loc _ (List.of_mem_zip (PySem.mem_of_lookup e)).1, v, lookup_rev n.nd e', r⟩⟩
      onlyL := fun a h => by
        by_cases q : a = s.heap.objs.size
        · exact q
        · rw [TM.put_ne _ _ q] at h; exact absurd h (hL a)
      onlyC := fun a x h => by
        by_cases q : a = s.heap.objs.size
        · subst q; rw [TM.put_self] at h; cases h
        · rw [TM.put_ne _ _ q] at h; exact absurd h (hC a x) }
  have i : InF w (fstCx prog s fd f) fd.scope gt := ⟨rfl, n.db, n.kind, hgt⟩
  refine wpI_mono ((i.Xs fz (hbody (fstCx prog s fd f) (by show 1 + h ≤ 30; lia) i ⟨e2, e3, rfl⟩) _ _ W1).run (fun fl s' => ∃ cv σ' T', Q cv σ' ∧ W0 w s.os (fun _ => none) T' σ' s' ∧ Ext T T' ∧ VR T' cv (flowV fl)) _ .leaving (fun fl m2 σ2 T2 s2 a q W2 x2 r => ⟨_, σ2, T2, q, W2.toW0, (Ext.put hfr).trans x2, r.ret⟩) fun m2 σ2 T2 s2 e q _ _ _ => q.elim) (fun fl s' h => ?_) fun e s' h => h
  cases fl <;> exact h
noncomputable def F00 (k : Nat) : Option CObj := if 2 ≤ k ∧ k ≤ 6 then none else F0 k
theorem HandAt.bump {σ σ' : CH} {N : Nat} (h : HandAt σ N) (e : ∀ k, k ≠ 40 → σ' k = σ k) : HandAt σ' N := by
  obtain ⟨a, ha, hr⟩ := h
  exact ⟨a, (e 1 (by decide)).trans ha, hr⟩
theorem St.bump {w : World} {σ σ' : CH} {d : SD} (S : St w σ d) (e : ∀ k, k ≠ 40 → σ' k = σ k) : St w σ' { d with it := σ' 40 } :=
  ⟨fun k hk => (e k ((show ∀ k ∈ nms, k ≠ 40 by decide) k hk)).trans (S.at' k hk), ⟨S.ok.pg, S.ok.act, S.ok.acu, S.ok.kd, S.ok.cd, S.ok.tl, S.ok.ml, S.ok.tm, S.ok.mm, S.ok.told, S.ok.seen, S.ok.cok⟩, S.free.but e, rfl⟩
structure LLk (ns : List Int) (m : Lm) : Prop where
  s : m.lookup (Str.ofString "script") = some (.fl (ns.map CV.int))
  h : m.lookup (Str.ofString "hand") = some (.ref 1)
  t : m.lookup (Str.ofString "state") = some (.ref 2)
  r : m.lookup (Str.ofString "store") = some (.ref 10)
theorem law_run {w : World} {σ : CH} (ns : List Int) (hσ : ∀ k, σ k = F00 k) (hz : ns.length ≤ 63) {prog : Program} {T : TM} {s : Shared} {vs : List Value} (W : W0 w s.os (fun _ => none) T σ s) (hL : ∀ a, T a ≠ some .loc) (hC : ∀ a x, T a ≠ some (.cell x)) (ra : VX T [.fl (ns.map .int)] vs) :
    wpI (model prog w) callerA (call (.ref 663) vs) (fun v s' => ∃ cv σ' T', (cv = CV.bool true ∧ ∀ k, 30 ≤ k → k < 35 → σ' k = F00 k) ∧ W0 w s.os (fun _ => none) T' σ' s' ∧ Ext T T' ∧ VR T' cv v) (fun _ _ => False) s := by
  have hF : Free σ := ⟨100, fun k hk => by
    refine rwP (hσ k) ?_; rewrite [F00]; refine rwP (if_neg (by lia)) ?_
    unfold F0
    split <;> first | rfl | lia⟩
  refine startW (h := 9) (Q := fun cv σ' => cv = CV.bool true ∧ ∀ k, 30 ≤ k → k < 35 → σ' k = F00 k) false _ ["script"] (.top g_law_calls_right (.top g_law_draw (.top g_law_found_right (.top g_law_grow_right (.top g_law_is_same (.top g_law_made (.top g_law_put_right (.bi bi_range (by decide) .nil)))))))) (by k_is) (by k_is) (ar1 fun _ => rfl) rfl (by decide) (by decide) (fun c hl fr hc => ?_) W hL hC ra
  obtain ⟨hnm, hcd, hcm⟩ := hc
  have hsc := fr.hs
  refine SE.mk (EV.dict (n := 1) ((hσ 1).trans rfl) (fun o1 => SDi.h (SDi.cons fr false ?_)) (by rfl) (by rfl) (by exact List.cons_ne_nil _ _) (by decide))
  conv => whnf
  refine ⟨EP.nil ⟨CH.set_self .., [("at", .int 0)], rfl, by decide, ?_⟩⟩
  have fresh : ∀ k, 2 ≤ k → k ≤ 6 → σ k = none := fun k h1 h2 => by refine rwP (hσ k) ?_; rewrite [F00]; refine rwP (if_pos ⟨h1, h2⟩) ?_; rfl
  obtain ⟨σ1, hσ1, h1⟩ : ∃ σ1 : CH, (∀ k, k ≠ 1 → σ1 k = σ k) ∧ σ1 1 = some (.dict [("at", .int 0)]) ∧ σ1 = (σ.set 1 o1).set 1 (.dict [("at", .int 0)]) := ⟨_, fun k hk => by refine rwP (CH.set_ne _ _ hk) ?_; refine rwP (CH.set_ne _ _ hk) ?_; rfl, CH.set_self .., rfl⟩
  refine rwB h1.2 ?_
  replace h1 := h1.1
  refine SE.mk (EV.dict (n := 2) ((hσ1 2 (by decide)).trans (fresh 2 (by decide) (by decide))) (fun o2 => SDi.h (SDi.cons fr false ?_)) (by rfl) (by rfl) (by exact List.cons_ne_nil _ _) (by decide))
  conv => whnf
  refine SDi.cons fr false ?_
  refine SL.mk (some 5) (lstQ_some ((CH.set_ne _ _ (by decide)).trans ((hσ1 5 (by decide)).trans (fresh 5 (by decide) (by decide)))) ?_)
  conv => whnf
  refine SDi.cons fr false ?_
  refine SL.mk (some 6) (lstQ_some ((CH.set_ne _ _ (by decide)).trans ((CH.set_ne _ _ (by decide)).trans ((hσ1 6 (by decide)).trans (fresh 6 (by decide) (by decide))))) ?_)
  conv => whnf
  refine SDi.cons fr false ?_
  refine SL.mk none ?_
  conv => whnf
  refine SDi.cons fr false ?_
  refine SL.mk (some 3) (lstQ_some ((CH.set_ne _ _ (by decide)).trans ((CH.set_ne _ _ (by decide)).trans ((CH.set_ne _ _ (by decide)).trans ((hσ1 3 (by decide)).trans (fresh 3 (by decide) (by decide)))))) ?_)
  conv => whnf
  refine SDi.cons fr false ?_
  refine SL.mk none ?_
  refine SL.mk (some 4) (lstQ_some ((CH.set_ne _ _ (by decide)).trans ((CH.set_ne _ _ (by decide)).trans ((CH.set_ne _ _ (by decide)).trans ((CH.set_ne _ _ (by decide)).trans ((hσ1 4 (by decide)).trans (fresh 4 (by decide) (by decide))))))) ?_)
  conv => whnf
  refine SDi.cons fr false ?_
  refine SL.mk none ?_
  conv => whnf
  refine ⟨EP.nil ⟨(CH.set_ne _ _ (by decide)).trans ((CH.set_ne _ _ (by decide)).trans ((CH.set_ne _ _ (by decide)).trans ((CH.set_ne _ _ (by decide)).trans (CH.set_self ..)))), [("page", .int 1), ("funcs", .ref 5), ("cells", .ref 6), ("limits", .fl []), ("seen", .ref 3), ("told", .ref 4), ("things", .fl [])], rfl, by decide, ?_⟩⟩
  have L1 : Lay σ1 F00 0 := ⟨fun k k1 _ => (hσ1 k k1).trans (hσ k), hF.but hσ1, ⟨0, h1, by decide, by decide⟩⟩
  have L2 : Lay ((((((σ1.set 2 o2).set 5 (.list [])).set 6 (.list [])).set 3 (.list [])).set 4 (.list [.fl []])).set 2 (dict0 1 (.fl []) (.fl []))) F0 0 := L1.mv [2, 3, 4, 5, 6] (by decide) (fun k hk => by
    simp only [List.mem_cons, List.not_mem_nil, or_false, not_or] at hk
    refine rwP (CH.set_ne _ _ hk.1) ?_; refine rwP (CH.set_ne _ _ hk.2.2.1) ?_; refine rwP (CH.set_ne _ _ hk.2.1) ?_; refine rwP (CH.set_ne _ _ hk.2.2.2.2) ?_; refine rwP (CH.set_ne _ _ hk.2.2.2.1) ?_; refine rwP (CH.set_ne _ _ hk.1) ?_; rfl) (fun k hk => by
    simp only [List.mem_cons, List.not_mem_nil, or_false] at hk
    rcases hk with rfl | rfl | rfl | rfl | rfl <;> rfl) fun k hk => by
    simp only [List.mem_cons, List.not_mem_nil, or_false, not_or] at hk
    rewrite [F00]; refine rwP (if_neg (by lia)) ?_; rfl
  generalize (((((σ1.set 2 o2).set 5 (.list [])).set 6 (.list [])).set 3 (.list [])).set 4 (.list [.fl []])).set 2 (dict0 1 (.fl []) (.fl [])) = σ2 at *
  refine SC.mk (CallV.ok k_law_made (by exact lv ‹_› rfl) (made_ok ns 0 _ L2 (by decide) hz fun d σ3 hit S h3 => ?_))
  refine cmpI.is false rfl ?_
  refine SC.mk (CallV.ok k_law_is_same (by exact lv ‹_› rfl) (is_same_ok d _ S fun σ4 u4 => ?_))
  have S4 := S.up u4
  refine SX.mk (XV.for (fr.E false ?_) (by intro _; rfl))
  refine SC.mk (CallV.range1 ?_)
  refine ⟨40, _, _, _, _, iter_rng (by lia) (by lia) (by lia) (by lia) (S4.aux.trans hit), CH.set_self .., src_rit (fun _ _ => rfl) _ _, ?_⟩
  refine FV.run2 (fun i m σ' => LLk ns m ∧ HandAt σ' (4 + 20 * i) ∧ ∃ d, St w σ' d) (fun _ _ _ _ => trivial) (fun i m σ1 σ2 s k => ⟨s.1, s.2.1.bump k, by obtain ⟨d, S⟩ := s.2.2; exact ⟨_, S.bump k⟩⟩) _ _ _ 0 (fun j x hx m σ5 o hI ho K hK _ => ?_)
    ⟨⟨rfl, rfl, rfl, rfl⟩, (h3.up u4).bump fun k hk => CH.set_ne _ _ hk, _, S4.bump fun k hk => CH.set_ne _ _ hk⟩ fun m σ5 hI => ?_
  · have hj : j < 12 := by have := (List.getElem?_eq_some_iff.mp hx).1; rw [upL_length] at this; exact this
    refine hide fun Ph hPh => ?_
    obtain ⟨M, hh, d, S⟩ := hI
    refine hPh ?_
    rw [Nat.zero_add] at hh hK
    have hdi : d.it = some o := S.aux.symm.trans ho
    refine AV.name (StOk.loc hsc rfl) (fr.Xs false ?_)
    conv => whnf
    refine look M.s ?_
    conv => whnf
    refine look M.h ?_
    refine CV.draw (by exact lv ‹_› rfl) hh (by lia) hz (by decide) S.free fun r σ6 r0 r1 u6 h6 => ?_
    have S6 := S.upH u6
    have fin : ∀ d' σ7 σ8, d'.it = d.it → St w σ7 d' → HandAt σ7 (4 + 20 * (j + 1)) → Up σ7 σ8 → ∀ m', LLk ns m' → K .next m' σ8 := fun d' σ7 σ8 e S7 h7 u8 m' M' =>
      hK m' σ8 ⟨M', h7.up u8, d', S7.up u8⟩ ((S7.up u8).aux.trans (e.trans hdi))
    refine cmpLt2 (fun hb => ?_) fun hb => ?_
    rotate_left
    · conv => whnf
      refine look M.s ?_
      conv => whnf
      refine look M.h ?_
      conv => whnf
      refine look M.r ?_
      conv => whnf
      refine look M.t ?_
      refine SC.mk (CallV.ok k_law_calls_right (by exact lv ‹_› rfl) (calls_right_ok ns _ d _ S6 h6 (by lia) hz fun d' σ7 hit S7 h7 => ?_))
      conv => whnf
      refine look M.r ?_
      conv => whnf
      refine look M.t ?_
      refine SC.mk (CallV.ok k_law_is_same (by exact lv ‹_› rfl) (is_same_ok d' _ S7 fun σ8 u8 => ?_))
      exact fin d' σ7 σ8 hit S7 (h7.mono (by lia)) u8 _ ⟨M.s, M.h, M.t, M.r⟩
    have hr2 := of_decide_eq_false hb
    refine cmpEq2 (fun hb => ?_) fun hb => ?_
    rotate_left
    · conv => whnf
      refine look M.s ?_
      conv => whnf
      refine look M.h ?_
      conv => whnf
      refine look M.r ?_
      conv => whnf
      refine look M.t ?_
      refine SC.mk (CallV.ok k_law_put_right (by exact lv ‹_› rfl) (put_right_ok ns _ d _ S6 h6 (by lia) hz fun d' σ7 hit S7 h7 => ?_))
      conv => whnf
      refine look M.r ?_
      conv => whnf
      refine look M.t ?_
      refine SC.mk (CallV.ok k_law_is_same (by exact lv ‹_› rfl) (is_same_ok d' _ S7 fun σ8 u8 => ?_))
      exact fin d' σ7 σ8 hit S7 (h7.mono (by lia)) u8 _ ⟨M.s, M.h, M.t, M.r⟩
    have hr3 := ne_of_beq_false hb
    refine cmpEq2 (fun hb => ?_) fun hb => ?_
    rotate_left
    · conv => whnf
      refine look M.s ?_
      conv => whnf
      refine look M.h ?_
      conv => whnf
      refine look M.r ?_
      conv => whnf
      refine look M.t ?_
      refine SC.mk (CallV.ok k_law_found_right (by exact lv ‹_› rfl) (found_right_ok ns _ d _ S6 h6 (by lia) hz fun σ7 S7 h7 => ?_))
      obtain ⟨d', rfl⟩ : ∃ d', d' = d := ⟨_, rfl⟩
      have hit : d'.it = d'.it := rfl
      conv => whnf
      refine look M.r ?_
      conv => whnf
      refine look M.t ?_
      refine SC.mk (CallV.ok k_law_is_same (by exact lv ‹_› rfl) (is_same_ok d' _ S7 fun σ8 u8 => ?_))
      exact fin d' σ7 σ8 hit S7 (h7.mono (by lia)) u8 _ ⟨M.s, M.h, M.t, M.r⟩
    · have hr4 := ne_of_beq_false hb
      obtain ⟨t, ht⟩ : ∃ t : Bool, r - 3 = pl t + 1 := by
        by_cases h : r = 4
        · exact ⟨true, by refine rwP h ?_; rfl⟩
        · exact ⟨false, by have : r = 5 := by lia
                           refine rwP this ?_; rfl⟩
      conv => whnf
      refine look M.s ?_
      conv => whnf
      refine look M.h ?_
      conv => whnf
      refine look M.r ?_
      conv => whnf
      refine look M.t ?_
      refine (?_ : SC _ _ _ _ _ _ _ _)
      refine rwP ht ?_
      refine ⟨CallV.ok k_law_grow_right (by exact lv ‹_› rfl) (grow_right_ok ns _ d t _ S6 h6 (by lia) hz fun d' σ7 hit S7 h7 => ?_)⟩
      conv => whnf
      refine look M.r ?_
      conv => whnf
      refine look M.t ?_
      refine SC.mk (CallV.ok k_law_is_same (by exact lv ‹_› rfl) (is_same_ok d' _ S7 fun σ8 u8 => ?_))
      exact fin d' σ7 σ8 hit S7 (h7.mono (by lia)) u8 _ ⟨M.s, M.h, M.t, M.r⟩
  · obtain ⟨-, -, d, S⟩ := hI
    refine ⟨rfl, fun k h1 h2 => ?_⟩
    have : k = 30 ∨ k = 31 ∨ k = 32 ∨ k = 33 ∨ k = 34 := by lia
    rcases this with rfl | rfl | rfl | rfl | rfl <;> exact S.at _
noncomputable def tabP : List (Addr × Nat) := [(606, 30), (651, 31), (627, 32), (620, 33), (613, 34)]
theorem tab_mem {l : List (Addr × Nat)} {a : Addr} {n : Nat} (h : l.lookup a = some n) : (a, n) ∈ l := by
  induction l with
  | nil => injection h
  | cons p l ih =>
    by_cases q : a = p.1
    · rw [List.lookup_cons, show (a == p.1) = true from beq_iff_eq.mpr q] at h
      obtain rfl := Option.some.inj h; refine rwP q ?_; exact .head _
    · rw [List.lookup_cons, show (a == p.1) = false from beq_false_of_ne q] at h
      exact .tail _ (ih h)
noncomputable def T0 (h : Heap) : TM := fun a => match tabP.lookup a with
  | some n => some (.nam n true)
  | none => (h.get? a).map .frz
theorem T0_tab {h : Heap} {a : Addr} {n : Nat} (e : tabP.lookup a = some n) : T0 h a = some (.nam n true) := by unfold T0; refine rwP e ?_; rfl
theorem T0_no {h : Heap} {a : Addr} (e : tabP.lookup a = none) : T0 h a = (h.get? a).map .frz := by unfold T0; refine rwP e ?_; rfl
theorem T0_frz {h : Heap} {a : Addr} {t : Tag} (e : T0 h a = some t) : (∃ n, tabP.lookup a = some n ∧ t = .nam n true) ∨ (tabP.lookup a = none ∧ ∃ o, h.get? a = some o ∧ t = .frz o) := by
  cases q : tabP.lookup a with
  | some n => rw [T0_tab q] at e; obtain rfl := Option.some.inj e; exact .inl ⟨n, rfl, rfl⟩
  | none =>
    rw [T0_no q] at e
    cases z : h.get? a with
    | none => rw [z] at e; injection e
    | some o => rw [z] at e; obtain rfl := Option.some.inj e; exact .inr ⟨rfl, o, rfl, rfl⟩
noncomputable def cutH (h : Heap) : Heap := { h with objs := h.objs.mapIdx fun i o => if (tabP.lookup i).isSome then { o with data := .freed } else o }
theorem cutH_get (h : Heap) (a : Addr) : (cutH h).get? a = if (tabP.lookup a).isSome then none else h.get? a := by
  unfold Heap.get? cutH
  refine rwP Array.getElem?_mapIdx ?_
  cases (tabP.lookup a).isSome <;> cases h.objs[a]? <;> rfl
theorem cutH_no {h : Heap} {a : Addr} (e : tabP.lookup a = none) : (cutH h).get? a = h.get? a := by rewrite [cutH_get]; refine rwP e ?_; rfl
theorem cutH_of {h : Heap} {a : Addr} {o : Obj} (e : (cutH h).get? a = some o) : tabP.lookup a = none ∧ h.get? a = some o := by
  rw [cutH_get] at e
  cases q : tabP.lookup a with
  | none => rw [q] at e; exact ⟨rfl, e⟩
  | some n => rw [q] at e; injection e
theorem cutH_ns {h : Heap} {a : Addr} {m : Str → Option Value} (e : tabP.lookup a = none) (x : h.Ns a m) : (cutH h).Ns a m := by
  obtain ⟨o, es, ep, ho, r⟩ := x
  exact ⟨o, es, ep, (cutH_no e).trans ho, r⟩
noncomputable abbrev mute (p : Program) : Program := { p with main := { p.main with body := [] } }
theorem cut_top {p : Program} {loose : List Str} {mean : ExcName → Option Value} {mg mb : Str → Option Value} {h : Heap} (H : Top p loose mean mg mb h) (hi : importsNone p = true) (ht : ∀ a n, tabP.lookup a = some n → h.get? a = some (tabObj #[])) :
    Top (mute p) (loose ++ ((recsOf p).map (·.name) ++ ((litsOf p).map (·.1) ++ (clssOf p loose).map (·.name)))) mean mg mb (cutH h) where
  g := cutH_ns rfl H.g
  b := cutH_ns rfl H.b
  nolimit := by
    obtain ⟨mc, h1, h2⟩ := H.nolimit
    exact ⟨mc, cutH_ns rfl h1, h2⟩
  nodigits := by
    obtain ⟨mc, h1, h2⟩ := H.nodigits
    exact ⟨mc, cutH_ns rfl h1, h2⟩
  fn := fun d hd => absurd hd List.not_mem_nil
  own := fun d hd => absurd hd List.not_mem_nil
  const := fun x d hd => nomatch (show (none : Option PyData) = some d from hd)
  free := fun x h1 h2 _ _ _ => by
    simp only [List.mem_append, not_or] at h2
    exact H.free x h1 h2.1 h2.2.1 h2.2.2.1 h2.2.2.2
  builtins := H.builtins
  tab := fun d hd => absurd hd List.not_mem_nil
  bmain := by
    refine hide fun Ph hPh => ?_
    obtain ⟨bm, ob, h1, h2, h3, h4, h5⟩ := H.bmain
    refine hPh ?_
    refine ⟨bm, ob, h1, h2, (cutH_no ?_).trans h3, h4, h5⟩
    cases q : tabP.lookup bm with
    | none => rfl
    | some n => rw [ht bm n q] at h3; obtain rfl := Option.some.inj h3; injection h4
  seer := fun _ => by
    refine hide fun Ph hPh => ?_
    obtain ⟨⟨mc, c1, c2⟩, ⟨mm, m1, m2⟩, ⟨mb', b1, b2⟩, ⟨mg', bm, ob, g1, g2, g3, g4⟩⟩ := H.seer hi
    refine hPh ?_
    refine ⟨⟨mc, cutH_ns rfl c1, c2⟩, ⟨mm, cutH_ns rfl m1, m2⟩, ⟨mb', cutH_ns rfl b1, b2⟩, ⟨mg', bm, ob, cutH_ns rfl g1, g2, (cutH_no ?_).trans g3, g4⟩⟩
    cases q : tabP.lookup bm with
    | none => rfl
    | some n => rw [ht bm n q] at g3; obtain rfl := Option.some.inj g3; cases g4.1
theorem tab_at {w : World} {p : Program} {loose : List Str} {mean : ExcName → Option Value} {mg mb : Str → Option Value} {h : Heap} (H : Top p loose mean mg mb h) (hK : (kk.heap_1 w.params).In h) {x : Str} {A c P : Addr} {oA oC : Obj} {fd : FuncData} {vs : Array Value}
    (hr : (recsOf p).any (fun d => d.name == x) = true) (hn : nsIn (kk.heap_1 w.params) mainGlobals x = some (some (.ref A))) (hA : (kk.heap_1 w.params).lookup A = some oA) (hfd : oA.data = .func fd) (hc : fd.code = .ref c)
    (hC : (kk.heap_1 w.params).lookup c = some oC) (hv : oC.data = .fields vs) (hP : vs[11]? = some (.ref P)) : h.get? P = some (tabObj #[]) := by
  refine hide fun Ph hPh => ?_
  obtain ⟨d, hd, e⟩ := List.any_eq_true.mp hr
  obtain rfl := eq_of_beq e
  obtain ⟨a, o, fd', c', P', t1, t2, t3, t4, _, ⟨⟨o', vs', u1, _, u2, u3⟩, t6⟩⟩ := H.tab d hd
  refine hPh ?_
  rw [mg_of hK H.g hn] at t1
  cases t1
  rw [hK _ _ hA] at t2
  obtain rfl := Option.some.inj t2
  rw [hfd] at t3
  (injection t3 with t3; subst t3)
  rw [hc] at t4
  (injection t4 with t4; subst t4)
  rw [hK _ _ hC] at u1
  obtain rfl := Option.some.inj u1
  rw [hv] at u2
  (injection u2 with u2; subst u2)
  rw [hP] at u3
  cases u3
  exact t6
theorem codeHd_of {K : Frag} {g : Heap} (hK : K.In g) {c P : Addr} {o : Obj} {vs : Array Value} {file : Str} {flags text : Int} {inF : Bool} {tf tg tt : Tok} (h : K.lookup c = some o) (h1 : o.cls = .type "code") (h2 : o.data = .fields vs) (h3 : vs[11]? = some (.ref P)) (h4 : vs.getD 11 .none = .ref P) (h5 : vs.getD 18 .none = .str file tf)
    (h6 : vs.getD 7 .none = .int flags tg) (h7 : vs.getD 9 .none = .bool inF) (h8 : vs.getD 10 .none = .int text tt) (h9 : c ≠ P) : CodeHd g c P := ⟨o, vs, file, tf, flags, tg, inF, text, tt, hK _ _ h, h1, h2, h3, h4, h5, h6, h7, h8, h9⟩
noncomputable def five : List Str := ["_law_host", "_law_made", "_law_found_right", "_law_put_right", "_law_calls_right"]
theorem tabs_at {w : World} {p : Program} {loose : List Str} {mean : ExcName → Option Value} {mg mb : Str → Option Value} {h : Heap} (H : Top p loose mean mg mb h) (hK : (kk.heap_1 w.params).In h)
    (hr : (five.all fun x => (recsOf p).any fun d => d.name == x) = true) : ∀ a n, tabP.lookup a = some n → h.get? a = some (tabObj #[]) := by
  have r : ∀ x ∈ five, (recsOf p).any (fun d => d.name == x) = true := fun x hx => List.all_eq_true.mp hr x hx
  intro a n e
  have := tab_mem e
  simp only [tabP, List.mem_cons, List.not_mem_nil, or_false, Prod.mk.injEq] at this
  rcases this with ⟨rfl, -⟩ | ⟨rfl, -⟩ | ⟨rfl, -⟩ | ⟨rfl, -⟩ | ⟨rfl, -⟩
  · exact tab_at H hK (r "_law_host" (by decide)) g_law_host (by k_is) rfl rfl (c := 610) (by k_is) rfl rfl
  · exact tab_at H hK (r "_law_made" (by decide)) g_law_made (by k_is) rfl rfl (c := 655) (by k_is) rfl rfl
  · exact tab_at H hK (r "_law_found_right" (by decide)) g_law_found_right (by k_is) rfl rfl (c := 631) (by k_is) rfl rfl
  · exact tab_at H hK (r "_law_put_right" (by decide)) g_law_put_right (by k_is) rfl rfl (c := 624) (by k_is) rfl rfl
  · exact tab_at H hK (r "_law_calls_right" (by decide)) g_law_calls_right (by k_is) rfl rfl (c := 617) (by k_is) rfl rfl
theorem tab_cut {w : World} {h : Heap} (hK : (kk.heap_1 w.params).In h) : (kk.heap_1 w.params).In (cutH h) := fun a o e => by
  have : tabP.lookup a = none := by
    cases q : tabP.lookup a with
    | none => rfl
    | some n =>
      exfalso
      have := tab_mem q
      simp only [tabP, List.mem_cons, List.not_mem_nil, or_false, Prod.mk.injEq] at this
      rcases this with ⟨rfl, -⟩ | ⟨rfl, -⟩ | ⟨rfl, -⟩ | ⟨rfl, -⟩ | ⟨rfl, -⟩
      · exact nomatch e.symm.trans (show (kk.heap_1 w.params).lookup 606 = none by kernel_rfl)
      · exact nomatch e.symm.trans (show (kk.heap_1 w.params).lookup 651 = none by kernel_rfl)
      · exact nomatch e.symm.trans (show (kk.heap_1 w.params).lookup 627 = none by kernel_rfl)
      · exact nomatch e.symm.trans (show (kk.heap_1 w.params).lookup 620 = none by kernel_rfl)
      · exact nomatch e.symm.trans (show (kk.heap_1 w.params).lookup 613 = none by kernel_rfl)
  exact (cutH_no this).trans (hK a o e)
theorem code_cut {w : World} {g : Heap} (hK : (kk.heap_1 w.params).In g) : CodeAll tabsK g :=
  ⟨codeHd_of hK (by k_is) rfl rfl rfl rfl rfl rfl rfl rfl (by decide), codeHd_of hK (by k_is) rfl rfl rfl rfl rfl rfl rfl rfl (by decide), codeHd_of hK (by k_is) rfl rfl rfl rfl rfl rfl rfl rfl (by decide),
   codeHd_of hK (by k_is) rfl rfl rfl rfl rfl rfl rfl rfl (by decide), codeHd_of hK (by k_is) rfl rfl rfl rfl rfl rfl rfl rfl (by decide), trivial⟩
theorem tabP_inj : ∀ a a' n, tabP.lookup a = some n → tabP.lookup a' = some n → a = a' := fun a a' n h h' => by
  have h1 := tab_mem h
  have h2 := tab_mem h'
  have : ∀ p ∈ tabP, ∀ q ∈ tabP, p.2 = q.2 → p.1 = q.1 := by decide
  exact this _ h1 _ h2 rfl
theorem tabs_start {w : World} {h : Heap} (ht : ∀ a n, tabP.lookup a = some n → h.get? a = some (tabObj #[])) {a P : Addr} {n : Nat} {x : Str} (e : tabP.lookup a = some n) (hP : P = a) : Own w (T0 h) n (.tab P x) h := by
  subst hP
  exact ⟨T0_tab e, [], ht _ _ e, fun t h => absurd h List.not_mem_nil⟩
theorem start {w : World} {p : Program} {loose : List Str} {mean : ExcName → Option Value} {mg mb : Str → Option Value} {s : Shared} (H : Top p loose mean mg mb s.heap) (hK : (kk.heap_1 w.params).In s.heap) (hi : importsNone p = true)
    (hr : (five.all fun x => (recsOf p).any fun d => d.name == x) = true) (hg : s.gens = #[]) : W0 w s.os (fun _ => none) (T0 s.heap) F00 s :=
  have ht := tabs_at H hK hr
  { alive := fun a t e => by
      rcases T0_frz e with ⟨n, h1, _⟩ | ⟨_, o, h1, _⟩
      · exact ⟨_, ht _ _ h1⟩
      · exact ⟨o, h1⟩
    frz := fun a o e => by
      rcases T0_frz e with ⟨n, _, h⟩ | ⟨_, o', h1, h⟩
      · injection h
      · (injection h with h; subst h); exact h1
    uniq := fun a a' n e e' => by
      rcases T0_frz e with ⟨k, h1, h⟩ | ⟨_, _, _, h⟩
      · rcases T0_frz e' with ⟨k', h1', h'⟩ | ⟨_, _, _, h'⟩
        · (injection h with h; subst h); (injection h' with h'; subst h'); exact tabP_inj _ _ _ h1 h1'
        · injection h'
      · injection h
    own := fun n o e => by
      have : n = 30 ∨ n = 31 ∨ n = 32 ∨ n = 33 ∨ n = 34 := by
        unfold F00 at e
        split at e
        · injection e
        · rename_i q
          unfold F0 at e
          split at e <;> first | lia | cases e
      rcases this with rfl | rfl | rfl | rfl | rfl
      · obtain rfl := Option.some.inj e; exact tabs_start ht (a := 606) rfl rfl
      · obtain rfl := Option.some.inj e; exact tabs_start ht (a := 651) rfl rfl
      · obtain rfl := Option.some.inj e; exact tabs_start ht (a := 627) rfl rfl
      · obtain rfl := Option.some.inj e; exact tabs_start ht (a := 620) rfl rfl
      · obtain rfl := Option.some.inj e; exact tabs_start ht (a := 613) rfl rfl
    nams := fun a n b e => by
      rcases T0_frz e with ⟨k, h1, h⟩ | ⟨_, _, _, h⟩
      · (injection h with h; subst h)
        have := tab_mem h1
        simp only [tabP, List.mem_cons, List.not_mem_nil, or_false, Prod.mk.injEq] at this
        rcases this with ⟨-, rfl⟩ | ⟨-, rfl⟩ | ⟨-, rfl⟩ | ⟨-, rfl⟩ | ⟨-, rfl⟩ <;> exact fun h => nomatch h
      · injection h
    top := ⟨cutH s.heap, mute p, _, mean, mg, mb, cut_top H hi ht, by rw [KF_eq]; exact tab_cut hK, code_cut (tab_cut hK), fun b o e => by
      obtain ⟨h1, h2⟩ := cutH_of e
      refine rwP (T0_no h1) ?_; refine rwP h2 ?_; rfl⟩
    prot := fun a o e => nomatch e
    cells := fun a x e => by
      rcases T0_frz e with ⟨_, _, h⟩ | ⟨_, _, _, h⟩ <;> injection h
    pall := fun a e => by
      rcases T0_frz e with ⟨_, _, h⟩ | ⟨_, _, _, h⟩ <;> injection h
    gens := hg
    os := rfl }
theorem g_law {w : World} : nsIn (kk.heap_1 w.params) mainGlobals "law" = some (some (.ref 663)) := by k_is
theorem has_int {x : WData} (h : WShape.has [] x .int = true) : ∃ i, x = .int i := by
  cases x with
  | int i => exact ⟨i, rfl⟩
  | _ => exact Bool.noConfusion (show false = true from h)
theorem items_of : ∀ xs : List WData, WShape.hasItems [] xs .int = true → ∃ ns : List Int, xs = ns.map .int
  | [], _ => ⟨[], rfl⟩
  | x :: xs, h => by
    obtain ⟨h1, h2⟩ := Bool.and_eq_true_iff.mp (show (WShape.has [] x .int && WShape.hasItems [] xs .int) = true from h)
    obtain ⟨ns, rfl⟩ := items_of xs h2
    obtain ⟨i, rfl⟩ := has_int h1
    exact ⟨i :: ns, rfl⟩
theorem args_of {args : List WData} (h : PySem.Challenge.rw_nm0141_01.row.claim.pre args = true) : ∃ ns : List Int, ns.length ≤ 63 ∧ args = [.list (ns.map .int)] := by
  unfold RowW.claim OpenLaw.row at h
  simp only [Bool.and_eq_true] at h
  obtain ⟨h1, h2⟩ := h
  cases args with
  | nil => exact Bool.noConfusion (show false = true from h1)
  | cons x l =>
    obtain ⟨h3, h4⟩ := Bool.and_eq_true_iff.mp (show (WShape.has [] x (.list .int) && WShape.hasAll [] l []) = true from h1)
    cases l with
    | cons => exact Bool.noConfusion (show false = true from h4)
    | nil =>
      obtain ⟨xs, rfl, h5⟩ := hasW_list h3
      obtain ⟨ns, rfl⟩ := items_of xs h5
      refine ⟨ns, ?_, rfl⟩
      simp [WTm.holds, OpenLaw.pre, PySem.Challenge.rw_nm0141_01, WTm.value] at h2
      rw [show less? (WData.int 63) (WData.int ns.length) = some (decide ((63 : Int) < ns.length)) from rfl] at h2
      by_cases q : (63 : Int) < ns.length
      · rw [decide_eq_true q] at h2; injection h2
      · lia
theorem ints_of {P : Params} {h : Heap} {T : TM} : ∀ (ns : List Int) {vs : List Value}, WellAll P h vs (ns.map .int) → VX T (ns.map CV.int) vs
  | [], _, h => by cases h; exact .nil
  | n :: ns, _, h => by
    cases h with
    | cons a b =>
      cases a
      exact .cons VR.int (ints_of ns b)
theorem old_of {w : World} {s s' : Shared} {os : OsState} {T' : TM} {σ' : CH} (hK : (kk.heap_1 w.params).In s.heap) (ht : ∀ a n, tabP.lookup a = some n → s.heap.get? a = some (tabObj #[])) (hσ : ∀ k, 30 ≤ k → k < 35 → σ' k = F00 k)
    (W : W0 w os (fun _ => none) T' σ' s') (x : Ext (T0 s.heap) T') : OldK s.heap s'.heap := by
  have CC := code_cut hK
  have tab : ∀ {b c : Addr} {n : Nat} {y : Str} {o : Obj}, s.heap.get? b = some o → tabP.lookup b = some n → CodeHd s.heap c b → σ' n = some (.tab b y) → asItWas s.heap s'.heap b o := fun {b c n y o} e q hc h => by
    refine hide fun Ph hPh => ?_
    obtain ⟨oc, vs, _, _, _, _, _, _, _, c1, c2, c3, c4, _⟩ := hc
    obtain ⟨_, trs, h2, _⟩ := W.own n _ h
    refine hPh ?_
    rw [ht _ _ q] at e
    obtain rfl := Option.some.inj e
    exact .inr (.inl ⟨⟨c, oc, vs, c1, c2, c3, c4⟩, rfl, #[], (tri trs).toArray, rfl, by refine rwP h2 ?_; simp⟩)
  refine ⟨fun b o e => ?_, fun b o e => ?_⟩
  · cases q : tabP.lookup b with
    | none => exact .inl (W.frz _ _ (x.frz _ _ (by refine rwP (T0_no q) ?_; refine rwP e ?_; rfl)))
    | some n =>
      have := tab_mem q
      simp only [tabP, List.mem_cons, List.not_mem_nil, or_false, Prod.mk.injEq] at this
      rcases this with ⟨rfl, rfl⟩ | ⟨rfl, rfl⟩ | ⟨rfl, rfl⟩ | ⟨rfl, rfl⟩ | ⟨rfl, rfl⟩
      · exact tab e q CC.1 ((hσ 30 (by decide) (by decide)).trans rfl)
      · exact tab e q CC.2.1 ((hσ 31 (by decide) (by decide)).trans rfl)
      · exact tab e q CC.2.2.1 ((hσ 32 (by decide) (by decide)).trans rfl)
      · exact tab e q CC.2.2.2.1 ((hσ 33 (by decide) (by decide)).trans rfl)
      · exact tab e q CC.2.2.2.2.1 ((hσ 34 (by decide) (by decide)).trans rfl)
  · cases q : tabP.lookup b with
    | none => exact W.alive _ _ (x.frz _ _ (by refine rwP (T0_no q) ?_; refine rwP e ?_; rfl))
    | some n => exact W.alive _ _ (x.nam _ _ _ (T0_tab q))
theorem walk {w : World} {p : Program} {loose : List Str} {mean : ExcName → Option Value} {mg mb : Str → Option Value} {s : Shared} {cl : Str → Option Addr} {mean' : ExcName → Option Value} {fa : Addr} {args : List WData} {vals : List Value} (H : Top p loose mean mg mb s.heap) (hK : (kk.heap_1 w.params).In s.heap)
    (hi : importsNone p = true) (hr : (five.all fun x => (recsOf p).any fun d => d.name == x) = true) (hg : s.gens = #[]) (hmg : mg "law" = some (.ref fa)) (hpre : PySem.Challenge.rw_nm0141_01.row.claim.pre args = true) (hwl : WellAll w.params s.heap vals args) :
    wpI (model PySem.Challenge.rw_nm0141_01.row.prog w) callerA (call (.ref fa) vals) (fun v s' => GoodWG PySem.Challenge.rw_nm0141_01.row.claim cl mean' args s (.ok (.ret v)) s') (fun e s' => GoodWG PySem.Challenge.rw_nm0141_01.row.claim cl mean' args s (.error e) s') s := by
  obtain ⟨ns, hz, rfl⟩ := args_of hpre
  have e := mg_of hK H.g (g_law (w := w))
  rw [hmg] at e
  cases e
  have ht := tabs_at H hK hr
  cases hwl with
  | cons a b =>
    cases b
    cases a with
    | list e1 e2 =>
      rename_i a vs
      have na : tabP.lookup a = none := by
        cases q : tabP.lookup a with
        | none => rfl
        | some n => rw [ht _ _ q] at e1; cases e1
      refine wpI_mono (law_run ns (fun _ => rfl) hz (start H hK hi hr hg) (fun a e => ?_) (fun a x e => ?_) (VX.fl (T := T0 s.heap) (k := 0) (vs' := vs) (by refine rwP (T0_no na) ?_; refine rwP e1 ?_; rfl) (ints_of ns e2) VX.nil)) (fun v s' h => ?_) fun _ _ h => h.elim
      · rcases T0_frz e with ⟨_, _, h⟩ | ⟨_, _, _, h⟩ <;> injection h
      · rcases T0_frz e with ⟨_, _, h⟩ | ⟨_, _, _, h⟩ <;> injection h
      · refine hide fun Ph hPh => ?_
        obtain ⟨cv, σ', T', ⟨rfl, hσ⟩, W, x, r⟩ := h
        refine hPh ?_
        cases r with
        | atom a _ =>
          obtain rfl := a
          exact ⟨.inl ⟨.bool true, .bool true, [], rfl, fun _ => rfl, .bool true, by kernel_rfl, fun _ => ⟨List.nodup_nil, fun _ h => absurd h List.not_mem_nil⟩⟩, old_of hK ht hσ W x, W.os, fun y hy => by rw [W.gens] at hy; simp at hy⟩
end Mine
end
section
set_option Elab.async true
namespace Mine
namespace hd
theorem tw14090284624843534012:True:=⟨⟩
theorem tw6019021122589006684:True:=⟨⟩
theorem tw12590977762386282803:True:=⟨⟩
theorem tw10458740792067480800:True:=⟨⟩
theorem tw2480057099694739299:True:=⟨⟩
theorem tw9499510787657705874:True:=⟨⟩
theorem tw15643275761693703936:True:=⟨⟩
theorem tw2608437505485318709:True:=⟨⟩
theorem tw5480042469492414594:True:=⟨⟩
theorem tw14612060388864693735:True:=⟨⟩
theorem tw4560424822364553533:True:=⟨⟩
theorem tw11117797201346649052:True:=⟨⟩
theorem tw15790720579355451973:True:=⟨⟩
theorem tw2887051446865420828:True:=⟨⟩
theorem tw9398405308114057262:True:=⟨⟩
theorem tw13445080154695654663:True:=⟨⟩
theorem tw8977307856219701671:True:=⟨⟩
theorem tw3039998526598829958:True:=⟨⟩
theorem tw12112201142124510154:True:=⟨⟩
theorem tw14991384322417631237:True:=⟨⟩
theorem tw3434918251397683217:True:=⟨⟩
theorem tw6407587892757256292:True:=⟨⟩
theorem tw960944832710211464:True:=⟨⟩
theorem tw1865391376527767206:True:=⟨⟩
theorem tw4494801613693538912:True:=⟨⟩
theorem tw3350930974749635488:True:=⟨⟩
theorem tw9013056391748086436:True:=⟨⟩
theorem tw3451239065008710300:True:=⟨⟩
theorem tw16970440968685349367:True:=⟨⟩
theorem tw7085514621470718492:True:=⟨⟩
theorem tw15910714762333108613:True:=⟨⟩
theorem tw8381844023166312768:True:=⟨⟩
theorem tw9741134391959003819:True:=⟨⟩
theorem tw14772383043592177042:True:=⟨⟩
theorem tw9731375825926819010:True:=⟨⟩
theorem tw8228950375871286339:True:=⟨⟩
theorem tw7292484366425897655:True:=⟨⟩
theorem tw15508949281206285077:True:=⟨⟩
theorem tw10531373872144210542:True:=⟨⟩
theorem tw16357263729072622229:True:=⟨⟩
theorem tw8184699220007379433:True:=⟨⟩
theorem tw7379015992945566340:True:=⟨⟩
theorem tw12414669353804360901:True:=⟨⟩
theorem tw11249132867342737325:True:=⟨⟩
theorem tw5987830557187376847:True:=⟨⟩
theorem tw6060742912462422084:True:=⟨⟩
theorem tw7317836474542784337:True:=⟨⟩
theorem tw3419581819265744254:True:=⟨⟩
theorem tw10012880186880212623:True:=⟨⟩
theorem tw4963670371499459168:True:=⟨⟩
theorem tw2930668341846507884:True:=⟨⟩
theorem tw14896477498954680388:True:=⟨⟩
theorem tw9087110039335098043:True:=⟨⟩
theorem tw15616948245753086127:True:=⟨⟩
theorem tw9577689765879766989:True:=⟨⟩
theorem tw262745018181394680:True:=⟨⟩
theorem tw9427301549700849589:True:=⟨⟩
theorem tw17429513623812275283:True:=⟨⟩
theorem tw14439243815434019604:True:=⟨⟩
theorem tw14960593345356199642:True:=⟨⟩
theorem tw15987713032478767096:True:=⟨⟩
theorem tw15615537253650120727:True:=⟨⟩
theorem tw18268791191939849864:True:=⟨⟩
theorem tw7914949630228597729:True:=⟨⟩
theorem tw6308581086252854402:True:=⟨⟩
theorem tw15852365999677673905:True:=⟨⟩
theorem tw11128854368766332075:True:=⟨⟩
theorem tw14859038896228082724:True:=⟨⟩
theorem tw17070941380808615275:True:=⟨⟩
theorem tw6627881031435992008:True:=⟨⟩
theorem tw2739504486584576224:True:=⟨⟩
theorem tw6785817131721698500:True:=⟨⟩
theorem tw17599816209265215132:True:=⟨⟩
theorem tw395138700845864316:True:=⟨⟩
theorem tw15220180469806662145:True:=⟨⟩
theorem tw17562767543260142214:True:=⟨⟩
theorem tw6957150274394394060:True:=⟨⟩
theorem tw4990156530697904881:True:=⟨⟩
theorem tw4643362625855044894:True:=⟨⟩
theorem tw10246146449241189800:True:=⟨⟩
theorem tw8015326511298524721:True:=⟨⟩
theorem tw6082411064634330575:True:=⟨⟩
theorem tw18343703819029505601:True:=⟨⟩
theorem tw17006298447274111571:True:=⟨⟩
theorem tw12591134339009171964:True:=⟨⟩
theorem tw1997569388931296116:True:=⟨⟩
theorem tw6291416237084387574:True:=⟨⟩
theorem tw8326128118092456544:True:=⟨⟩
theorem tw11232374478483605306:True:=⟨⟩
theorem tw16299908979028503884:True:=⟨⟩
theorem tw11709330566771433103:True:=⟨⟩
theorem tw9908193460736022307:True:=⟨⟩
theorem tw9132557439983319658:True:=⟨⟩
theorem tw6438293893037913957:True:=⟨⟩
theorem tw13409441903868389331:True:=⟨⟩
theorem tw5282504435634884242:True:=⟨⟩
theorem tw5247051413645994129:True:=⟨⟩
theorem tw13483081372092288885:True:=⟨⟩
theorem tw17491280204586788870:True:=⟨⟩
theorem tw7510230149288206974:True:=⟨⟩
theorem tw16011055738799735888:True:=⟨⟩
theorem tw11034497122203965937:True:=⟨⟩
theorem tw5608270528595127837:True:=⟨⟩
theorem tw11918464104331161477:True:=⟨⟩
theorem tw10879034167726328663:True:=⟨⟩
theorem tw10614716105012338702:True:=⟨⟩
theorem tw10919297434634762262:True:=⟨⟩
theorem tw4367231431732253908:True:=⟨⟩
theorem tw5373601922739893978:True:=⟨⟩
theorem tw14745743045033390146:True:=⟨⟩
theorem tw18293851220164018083:True:=⟨⟩
theorem tw5549315172176941698:True:=⟨⟩
theorem tw5283464899586487735:True:=⟨⟩
theorem tw6804821044290156842:True:=⟨⟩
theorem tw2167537188350426706:True:=⟨⟩
theorem tw16006246977917349235:True:=⟨⟩
theorem tw9736546385927885227:True:=⟨⟩
theorem tw7891253978561527248:True:=⟨⟩
theorem tw10860895700388868024:True:=⟨⟩
theorem tw15813434630575017362:True:=⟨⟩
theorem tw1005483496087919985:True:=⟨⟩
theorem tw3309697970292668127:True:=⟨⟩
theorem tw1452849714261714991:True:=⟨⟩
theorem tw10949625832625181284:True:=⟨⟩
theorem tw5343241284826551009:True:=⟨⟩
theorem tw5318216170032084099:True:=⟨⟩
theorem tw17447410573909459338:True:=⟨⟩
theorem tw7793673504863384051:True:=⟨⟩
theorem tw13566260322249332789:True:=⟨⟩
theorem tw1954109241102656831:True:=⟨⟩
theorem tw7270182246851987180:True:=⟨⟩
theorem tw14006173549557618073:True:=⟨⟩
theorem tw5978321128707920903:True:=⟨⟩
theorem tw22551697357593593:True:=⟨⟩
theorem tw17948085552500728524:True:=⟨⟩
theorem tw13372043803930879067:True:=⟨⟩
theorem tw15427206886491885616:True:=⟨⟩
theorem tw12870888531099404533:True:=⟨⟩
theorem tw16412773359747925120:True:=⟨⟩
theorem tw3381375190539634487:True:=⟨⟩
theorem tw10905682514733158466:True:=⟨⟩
theorem tw15179676742415161110:True:=⟨⟩
theorem tw18166333605607142505:True:=⟨⟩
theorem tw4182648748547736412:True:=⟨⟩
theorem tw368366308016060594:True:=⟨⟩
theorem tw9153386212771759811:True:=⟨⟩
theorem tw15673258824015622330:True:=⟨⟩
theorem tw12521463284412890351:True:=⟨⟩
theorem tw17054507655720011243:True:=⟨⟩
theorem tw9641152695372364146:True:=⟨⟩
theorem tw13132618709999183898:True:=⟨⟩
theorem tw15043168886218598503:True:=⟨⟩
theorem tw17588044629489971554:True:=⟨⟩
theorem tw6882427118574961969:True:=⟨⟩
theorem tw2867327485932766208:True:=⟨⟩
theorem tw4870687313549177768:True:=⟨⟩
theorem tw1011335219593555734:True:=⟨⟩
theorem tw2799067240506288376:True:=⟨⟩
theorem tw15367242080415987702:True:=⟨⟩
theorem tw7031273417212677730:True:=⟨⟩
theorem tw3817797698339224179:True:=⟨⟩
theorem tw13893168526513508166:True:=⟨⟩
theorem tw2595994805191909183:True:=⟨⟩
theorem tw13038990169509382042:True:=⟨⟩
theorem tw5629675986466331604:True:=⟨⟩
theorem tw3484992998616243462:True:=⟨⟩
theorem tw14103535550066685397:True:=⟨⟩
theorem tw7289634563603522867:True:=⟨⟩
theorem tw1147470481896660410:True:=⟨⟩
theorem tw1588505670450824345:True:=⟨⟩
theorem tw10030107230732127627:True:=⟨⟩
theorem tw17843490464661113860:True:=⟨⟩
theorem tw2922222751358710265:True:=⟨⟩
theorem tw4478166936697009375:True:=⟨⟩
theorem tw6982297934935202809:True:=⟨⟩
theorem tw2448417245163862455:True:=⟨⟩
theorem tw11011131195910976488:True:=⟨⟩
theorem tw3182187488490625086:True:=⟨⟩
theorem tw17312999752573914782:True:=⟨⟩
theorem tw17901334829092211166:True:=⟨⟩
theorem tw8428860471423672150:True:=⟨⟩
theorem tw7752569895197466512:True:=⟨⟩
theorem tw11136197038861592535:True:=⟨⟩
theorem tw5961118342813265553:True:=⟨⟩
theorem tw11399449904127653305:True:=⟨⟩
theorem tw8770205317985620760:True:=⟨⟩
theorem tw14400467628812073631:True:=⟨⟩
theorem tw526207354791536317:True:=⟨⟩
theorem tw3915529967508079626:True:=⟨⟩
theorem tw9271970288684553227:True:=⟨⟩
theorem tw10743916045514856203:True:=⟨⟩
theorem tw1425423193147277237:True:=⟨⟩
theorem tw9459050058782445324:True:=⟨⟩
theorem tw14980023328507725902:True:=⟨⟩
theorem tw2101469004524951375:True:=⟨⟩
theorem tw13368278939475635651:True:=⟨⟩
theorem tw8343274005884668182:True:=⟨⟩
theorem tw6449127861642672459:True:=⟨⟩
theorem tw12994019391074448376:True:=⟨⟩
theorem tw5148922909946612681:True:=⟨⟩
theorem tw8684328023851190084:True:=⟨⟩
theorem tw17903497710992402801:True:=⟨⟩
theorem tw6423634429210846174:True:=⟨⟩
theorem tw11778180911958503814:True:=⟨⟩
theorem tw4065347644161347641:True:=⟨⟩
theorem tw17583924267553061668:True:=⟨⟩
theorem tw825126770350376351:True:=⟨⟩
theorem tw17925215291927510665:True:=⟨⟩
theorem tw6924109203229866365:True:=⟨⟩
theorem tw18293732401869909652:True:=⟨⟩
theorem tw15687388767607454252:True:=⟨⟩
theorem tw12631932088317031055:True:=⟨⟩
theorem tw11151547217846952531:True:=⟨⟩
theorem tw3229955645248102723:True:=⟨⟩
theorem tw17491317419825422843:True:=⟨⟩
theorem tw10792051664901133789:True:=⟨⟩
theorem tw4068527845204499245:True:=⟨⟩
theorem tw14060237666301923597:True:=⟨⟩
theorem tw11652457597714270106:True:=⟨⟩
theorem tw14553816603554493358:True:=⟨⟩
theorem tw8004679753235328684:True:=⟨⟩
theorem tw7754304195085646258:True:=⟨⟩
theorem tw2295870552580634182:True:=⟨⟩
theorem tw6038821095411175016:True:=⟨⟩
theorem tw4014540891139286612:True:=⟨⟩
theorem tw16064382804478563927:True:=⟨⟩
theorem tw2315301623876862497:True:=⟨⟩
theorem tw15344866539931968096:True:=⟨⟩
theorem tw15042006015671813226:True:=⟨⟩
theorem tw10098268173465320503:True:=⟨⟩
theorem tw4272726840584523970:True:=⟨⟩
theorem tw3404104791013757517:True:=⟨⟩
theorem tw2114630138375439770:True:=⟨⟩
theorem tw16853341256802265648:True:=⟨⟩
theorem tw6465913693859258597:True:=⟨⟩
theorem tw10424393626065333798:True:=⟨⟩
theorem tw15941575935207895386:True:=⟨⟩
theorem tw4172343393113369950:True:=⟨⟩
theorem tw13315533130655954831:True:=⟨⟩
theorem tw9990345226319884068:True:=⟨⟩
theorem tw15675198926951892251:True:=⟨⟩
theorem tw11893437276241958245:True:=⟨⟩
theorem tw10847404155465417027:True:=⟨⟩
theorem tw17130151131035750659:True:=⟨⟩
theorem tw13855881374063213867:True:=⟨⟩
theorem tw8242931771332617035:True:=⟨⟩
theorem tw519851828213033955:True:=⟨⟩
theorem tw2329189449893159454:True:=⟨⟩
theorem tw11402939732021071671:True:=⟨⟩
theorem tw663384727985864361:True:=⟨⟩
theorem tw7927469264209771579:True:=⟨⟩
theorem tw2442259710966052079:True:=⟨⟩
theorem tw3941438180925939637:True:=⟨⟩
theorem tw16194383521188589630:True:=⟨⟩
theorem tw5513025101015932971:True:=⟨⟩
theorem tw3259873300814134281:True:=⟨⟩
theorem tw7721951785955056133:True:=⟨⟩
theorem tw13363553139645760527:True:=⟨⟩
theorem tw12685813987229840507:True:=⟨⟩
theorem tw190519026028168232:True:=⟨⟩
theorem tw189712035060473897:True:=⟨⟩
theorem tw9496365245306024149:True:=⟨⟩
theorem tw8545014587354053640:True:=⟨⟩
theorem tw9386895884608548742:True:=⟨⟩
theorem tw9077708301081682751:True:=⟨⟩
theorem tw9244321171653502345:True:=⟨⟩
theorem tw6615107907471364465:True:=⟨⟩
theorem tw6123773746684550334:True:=⟨⟩
theorem tw5635641802508607975:True:=⟨⟩
theorem tw10583446816852156582:True:=⟨⟩
theorem tw16772102934027710169:True:=⟨⟩
theorem tw11054480109507316185:True:=⟨⟩
theorem tw6264232113106981867:True:=⟨⟩
theorem tw2708950531961675432:True:=⟨⟩
theorem tw13931416462566266981:True:=⟨⟩
theorem tw8191903926673212241:True:=⟨⟩
theorem tw18358800413957953924:True:=⟨⟩
theorem tw10024716035694756283:True:=⟨⟩
theorem tw5292301768408028288:True:=⟨⟩
theorem tw14560493823538711346:True:=⟨⟩
theorem tw6164396464334811476:True:=⟨⟩
theorem tw9440118169554580438:True:=⟨⟩
theorem tw8934143017859847078:True:=⟨⟩
theorem tw162610821266807592:True:=⟨⟩
theorem tw12239354291974867115:True:=⟨⟩
theorem tw12952509933414984302:True:=⟨⟩
theorem tw2068664650715991707:True:=⟨⟩
theorem tw541196102884509978:True:=⟨⟩
theorem tw17989097746536338734:True:=⟨⟩
theorem tw9617658007855726926:True:=⟨⟩
theorem tw15103106377680225435:True:=⟨⟩
theorem tw9719896912496429819:True:=⟨⟩
theorem tw15946388913382835224:True:=⟨⟩
theorem tw2274498078352570744:True:=⟨⟩
theorem tw6838551448383532254:True:=⟨⟩
theorem tw7261450039545342454:True:=⟨⟩
theorem tw12861998865439983172:True:=⟨⟩
theorem tw12614811148066621264:True:=⟨⟩
theorem tw2216850387143573719:True:=⟨⟩
theorem tw15948780112781908787:True:=⟨⟩
theorem tw11623594800819314181:True:=⟨⟩
theorem tw1792636949448641307:True:=⟨⟩
theorem tw7382370116671421104:True:=⟨⟩
theorem tw5433107678231618845:True:=⟨⟩
theorem tw8589211134812392127:True:=⟨⟩
theorem tw6136932545381038964:True:=⟨⟩
theorem tw11672842613191775419:True:=⟨⟩
theorem tw16904818350239718627:True:=⟨⟩
theorem tw4993660671451451078:True:=⟨⟩
theorem tw17606422857730326317:True:=⟨⟩
theorem tw8025032847418708242:True:=⟨⟩
theorem tw6755925336976613232:True:=⟨⟩
theorem tw11801993109049149486:True:=⟨⟩
theorem tw16138627921320673191:True:=⟨⟩
theorem tw11256106856564762260:True:=⟨⟩
theorem tw12058812876911547015:True:=⟨⟩
theorem tw4086058157674990017:True:=⟨⟩
theorem tw4851647983119433812:True:=⟨⟩
theorem tw8801323125487838256:True:=⟨⟩
theorem tw5902613922787404954:True:=⟨⟩
theorem tw14685462170515437407:True:=⟨⟩
theorem tw4383666589626881386:True:=⟨⟩
theorem tw2457190517430149469:True:=⟨⟩
theorem tw9702936160620672325:True:=⟨⟩
theorem tw9155422001095189878:True:=⟨⟩
theorem tw5781342201191254626:True:=⟨⟩
theorem tw7525542149764818722:True:=⟨⟩
theorem tw11319892378374348655:True:=⟨⟩
theorem tw10264135568141901301:True:=⟨⟩
theorem tw515116654868589033:True:=⟨⟩
theorem tw13047593935725612058:True:=⟨⟩
theorem tw13466754112058979494:True:=⟨⟩
theorem tw10111801491309104144:True:=⟨⟩
theorem tw6411954120941647267:True:=⟨⟩
theorem tw4363365295628954845:True:=⟨⟩
theorem tw10525666975642140466:True:=⟨⟩
theorem tw6184208073178115725:True:=⟨⟩
theorem tw1798728101399967580:True:=⟨⟩
theorem tw12940713784782232206:True:=⟨⟩
theorem tw11364443708160879001:True:=⟨⟩
theorem tw15089522573102190283:True:=⟨⟩
theorem tw10788059911547816233:True:=⟨⟩
theorem tw11213053971927718326:True:=⟨⟩
theorem tw16722109127936396110:True:=⟨⟩
theorem tw11032806212648032379:True:=⟨⟩
theorem tw2783992281797965187:True:=⟨⟩
theorem tw16919406825032445293:True:=⟨⟩
theorem tw13342606739435360313:True:=⟨⟩
theorem tw3452082135128663414:True:=⟨⟩
theorem tw13285133528070534704:True:=⟨⟩
theorem tw9430268157657104642:True:=⟨⟩
theorem tw15992342658441690333:True:=⟨⟩
theorem tw16091413853298234908:True:=⟨⟩
theorem tw7654286748164834634:True:=⟨⟩
theorem tw17950676927832955104:True:=⟨⟩
theorem tw1241404454085649124:True:=⟨⟩
theorem tw9421340871869096474:True:=⟨⟩
theorem tw8479784124755550697:True:=⟨⟩
theorem tw10216474801634566288:True:=⟨⟩
theorem tw6598312636042714100:True:=⟨⟩
theorem tw3442329435671937591:True:=⟨⟩
theorem tw12801095385675086049:True:=⟨⟩
theorem tw5138769234217329475:True:=⟨⟩
theorem tw17183224562656869120:True:=⟨⟩
theorem tw991583007596301734:True:=⟨⟩
theorem tw12172025689391634812:True:=⟨⟩
theorem tw2284436838669742495:True:=⟨⟩
theorem tw12350410155528471161:True:=⟨⟩
theorem tw4402725079659364252:True:=⟨⟩
theorem tw13365295217650922812:True:=⟨⟩
theorem tw7598622570094877466:True:=⟨⟩
theorem tw13820451137229368939:True:=⟨⟩
theorem tw5036846961687405229:True:=⟨⟩
theorem tw3008623586974134963:True:=⟨⟩
theorem tw14768889098011018680:True:=⟨⟩
theorem tw5238241317806426387:True:=⟨⟩
theorem tw18093812233618175256:True:=⟨⟩
theorem tw9170477692918782315:True:=⟨⟩
theorem tw7153062008950511462:True:=⟨⟩
theorem tw17377529257436501650:True:=⟨⟩
theorem tw845060206244984605:True:=⟨⟩
theorem tw728884934406724761:True:=⟨⟩
theorem tw7523672394736509286:True:=⟨⟩
theorem tw4115565904173853331:True:=⟨⟩
theorem tw5190246844813560578:True:=⟨⟩
theorem tw4971549296188076032:True:=⟨⟩
theorem tw8047900516022102942:True:=⟨⟩
theorem tw13866372431405929976:True:=⟨⟩
theorem tw17234923516513369237:True:=⟨⟩
theorem tw5245234834050458271:True:=⟨⟩
theorem tw5486487638281291605:True:=⟨⟩
theorem tw13431754692932380062:True:=⟨⟩
theorem tw17420951861521290806:True:=⟨⟩
theorem tw17696971302532935780:True:=⟨⟩
theorem tw13225837485096350037:True:=⟨⟩
theorem tw4856431653887292112:True:=⟨⟩
theorem tw9406673726873002282:True:=⟨⟩
theorem tw1518305811592690382:True:=⟨⟩
theorem tw9345929723534960622:True:=⟨⟩
theorem tw12832683148521936107:True:=⟨⟩
theorem tw5363564295841288755:True:=⟨⟩
theorem tw1043307727769730188:True:=⟨⟩
theorem tw6046454685291232161:True:=⟨⟩
theorem tw8990313861142287110:True:=⟨⟩
theorem tw15527848837575444561:True:=⟨⟩
theorem tw8493152586797012548:True:=⟨⟩
theorem tw11953376511379268794:True:=⟨⟩
theorem tw16456969618363192440:True:=⟨⟩
theorem tw18103342009636024947:True:=⟨⟩
theorem tw13181700845877081190:True:=⟨⟩
theorem tw1013155817946168525:True:=⟨⟩
theorem tw4654797750381630734:True:=⟨⟩
theorem tw16259696140248634718:True:=⟨⟩
theorem tw1847840615245081061:True:=⟨⟩
theorem tw16477043939570097188:True:=⟨⟩
theorem tw14060154772996877548:True:=⟨⟩
theorem tw3109861748172591687:True:=⟨⟩
theorem tw4225703048834024713:True:=⟨⟩
theorem tw2951005344575393816:True:=⟨⟩
theorem tw10170382586518783626:True:=⟨⟩
theorem tw9763420282994701918:True:=⟨⟩
theorem tw5416991563250132298:True:=⟨⟩
theorem tw14294001040229213422:True:=⟨⟩
theorem tw1506431575118746342:True:=⟨⟩
theorem tw8356816923877370021:True:=⟨⟩
theorem tw10404513684093684653:True:=⟨⟩
theorem tw13322179722446271537:True:=⟨⟩
theorem tw18163647496604598072:True:=⟨⟩
theorem tw9449672872311958731:True:=⟨⟩
theorem tw3919010098100093602:True:=⟨⟩
theorem tw9277588360372424766:True:=⟨⟩
theorem tw13770079208771991547:True:=⟨⟩
theorem tw3922637787740509324:True:=⟨⟩
theorem tw8117029840178788049:True:=⟨⟩
theorem tw14567429538950270057:True:=⟨⟩
theorem tw15416985209724490359:True:=⟨⟩
theorem tw15166520500009309586:True:=⟨⟩
theorem tw16053994301053490033:True:=⟨⟩
theorem tw15837987909243819085:True:=⟨⟩
theorem tw11814627755841444246:True:=⟨⟩
theorem tw13929354066492186541:True:=⟨⟩
theorem tw11663481321943121269:True:=⟨⟩
theorem tw17895171251205151618:True:=⟨⟩
theorem tw14667805832236412624:True:=⟨⟩
theorem tw15759970867653108152:True:=⟨⟩
theorem tw12394076208661396346:True:=⟨⟩
theorem tw243823211424636713:True:=⟨⟩
theorem tw7152984921513172624:True:=⟨⟩
theorem tw16154546982801380032:True:=⟨⟩
theorem tw10603584201595350602:True:=⟨⟩
theorem tw12588582704262371052:True:=⟨⟩
theorem tw14852329139284432860:True:=⟨⟩
theorem tw17711083657039698284:True:=⟨⟩
theorem tw2323474266016966308:True:=⟨⟩
theorem tw6759412095888398321:True:=⟨⟩
theorem tw12629568148972539762:True:=⟨⟩
theorem tw10806950440038215891:True:=⟨⟩
theorem tw9983995961361265002:True:=⟨⟩
theorem tw7578210074245671484:True:=⟨⟩
theorem tw4015398097383911347:True:=⟨⟩
theorem tw8965841893048198262:True:=⟨⟩
theorem tw922143313871775805:True:=⟨⟩
theorem tw6767318904944593275:True:=⟨⟩
theorem tw16257038226119295666:True:=⟨⟩
theorem tw15610959940260225430:True:=⟨⟩
theorem tw10117440562283002822:True:=⟨⟩
theorem tw14438451200097066615:True:=⟨⟩
theorem tw1600037746751723098:True:=⟨⟩
theorem tw5732804406350252772:True:=⟨⟩
theorem tw10752148897807903841:True:=⟨⟩
theorem tw18185175575083235020:True:=⟨⟩
theorem tw3646829019195819677:True:=⟨⟩
theorem tw12399718760709695909:True:=⟨⟩
theorem tw12092154237167983948:True:=⟨⟩
theorem tw7068711184596962023:True:=⟨⟩
theorem tw9345676750909349944:True:=⟨⟩
theorem tw6469175993241445255:True:=⟨⟩
theorem tw6528754448969337418:True:=⟨⟩
theorem tw9131607905817354932:True:=⟨⟩
theorem tw7526368328331116154:True:=⟨⟩
theorem tw2999033326186475339:True:=⟨⟩
theorem tw5505005885091257285:True:=⟨⟩
theorem tw6636792957720756321:True:=⟨⟩
theorem tw1208734638264122097:True:=⟨⟩
theorem tw12337632362937886050:True:=⟨⟩
theorem tw8134915037123179040:True:=⟨⟩
theorem tw8538877666451538035:True:=⟨⟩
theorem tw6394381022753523788:True:=⟨⟩
theorem tw14705683404202351889:True:=⟨⟩
theorem tw15615420239508185596:True:=⟨⟩
theorem tw12487502673411948298:True:=⟨⟩
theorem tw11713075325732132258:True:=⟨⟩
theorem tw6293948785866598258:True:=⟨⟩
theorem tw10738003575532504788:True:=⟨⟩
theorem tw212345690472687942:True:=⟨⟩
theorem tw8671608845466749128:True:=⟨⟩
theorem tw18103420901670897651:True:=⟨⟩
theorem tw4478964076566166474:True:=⟨⟩
theorem tw12471131715012749390:True:=⟨⟩
theorem tw16211521421427940678:True:=⟨⟩
theorem tw16178712458983371728:True:=⟨⟩
theorem tw18245042118932799458:True:=⟨⟩
theorem tw6140570298594658328:True:=⟨⟩
theorem tw6998783941825042932:True:=⟨⟩
theorem tw14581931874938826474:True:=⟨⟩
theorem tw14246236162039180721:True:=⟨⟩
theorem tw11513968764499736323:True:=⟨⟩
theorem tw11551083187376567056:True:=⟨⟩
theorem tw15578025631644234493:True:=⟨⟩
theorem tw12715290954939671609:True:=⟨⟩
theorem tw1409312971732116557:True:=⟨⟩
theorem tw432457690288141553:True:=⟨⟩
theorem tw461538923250603899:True:=⟨⟩
theorem tw6196171512934965099:True:=⟨⟩
theorem tw8081886968326746073:True:=⟨⟩
theorem tw10203026625882799534:True:=⟨⟩
theorem tw17577478241444706838:True:=⟨⟩
theorem tw4138081844389336918:True:=⟨⟩
theorem tw7854228177987924090:True:=⟨⟩
theorem tw6819123309680001836:True:=⟨⟩
theorem tw876933089483189297:True:=⟨⟩
theorem tw5278057926702712004:True:=⟨⟩
theorem tw16868993833207775613:True:=⟨⟩
theorem tw9298403506768410418:True:=⟨⟩
theorem tw16945582573551092051:True:=⟨⟩
theorem tw13783031573616600631:True:=⟨⟩
theorem tw17893044597097874663:True:=⟨⟩
theorem tw5167245352685981253:True:=⟨⟩
theorem tw1882180444382439491:True:=⟨⟩
theorem tw14955159897011116063:True:=⟨⟩
theorem tw10626445513448377649:True:=⟨⟩
theorem tw12901994302517312135:True:=⟨⟩
theorem tw16345102440705955213:True:=⟨⟩
theorem tw13531707123254989501:True:=⟨⟩
theorem tw5716766192118558609:True:=⟨⟩
theorem tw8683856772340465682:True:=⟨⟩
theorem tw12131494931117144662:True:=⟨⟩
theorem tw13919464512627920130:True:=⟨⟩
theorem tw3165473116527847801:True:=⟨⟩
theorem tw17087091549796120035:True:=⟨⟩
theorem tw3828038474966422129:True:=⟨⟩
theorem tw13217225542625558698:True:=⟨⟩
theorem tw16171809288044610508:True:=⟨⟩
theorem tw7752767780024739350:True:=⟨⟩
theorem tw17986969038992634876:True:=⟨⟩
theorem tw16302227732802510677:True:=⟨⟩
theorem tw16858285156579221889:True:=⟨⟩
theorem tw5388632664720090651:True:=⟨⟩
theorem tw11754176132448286083:True:=⟨⟩
theorem tw9960721518486171458:True:=⟨⟩
theorem tw1563692795949630186:True:=⟨⟩
theorem tw15199589371867527261:True:=⟨⟩
theorem tw978945382295711627:True:=⟨⟩
theorem tw758273949599710562:True:=⟨⟩
theorem tw9600322841789187032:True:=⟨⟩
theorem tw5976792059365374437:True:=⟨⟩
theorem tw5899666649113621702:True:=⟨⟩
theorem tw5054737718236178183:True:=⟨⟩
theorem tw12575139184659369484:True:=⟨⟩
theorem tw9330943631129107780:True:=⟨⟩
theorem tw13475242022060392486:True:=⟨⟩
theorem tw11079593142295127227:True:=⟨⟩
theorem tw1118553966540926140:True:=⟨⟩
theorem tw16794629799341752650:True:=⟨⟩
theorem tw5562173858411828344:True:=⟨⟩
theorem tw6482722132109649516:True:=⟨⟩
theorem tw16332348944364537037:True:=⟨⟩
theorem tw1299046323782801668:True:=⟨⟩
theorem tw11917015161858427179:True:=⟨⟩
theorem tw2502866573005156581:True:=⟨⟩
theorem tw13828106393651249627:True:=⟨⟩
theorem tw8716120427605611371:True:=⟨⟩
theorem tw17975533764899295144:True:=⟨⟩
theorem tw6818987989461384207:True:=⟨⟩
theorem tw2658526732547218105:True:=⟨⟩
theorem tw17252143746492648416:True:=⟨⟩
theorem tw12127338746724423809:True:=⟨⟩
theorem tw7354087734392854552:True:=⟨⟩
theorem tw1222794163293265305:True:=⟨⟩
theorem tw18291419657060728153:True:=⟨⟩
theorem tw15279998641719260112:True:=⟨⟩
theorem tw6186238094035137676:True:=⟨⟩
theorem tw3953601041324332601:True:=⟨⟩
theorem tw7120233287515763914:True:=⟨⟩
theorem tw15152743547302097792:True:=⟨⟩
theorem tw14598272352848978880:True:=⟨⟩
theorem tw1666387254794493845:True:=⟨⟩
theorem tw4478177076189095293:True:=⟨⟩
theorem tw100483095206116625:True:=⟨⟩
theorem tw13122850982685727845:True:=⟨⟩
theorem tw9555612238305686254:True:=⟨⟩
theorem tw12459740579856956213:True:=⟨⟩
theorem tw7492773218913965947:True:=⟨⟩
theorem tw12113243949977362033:True:=⟨⟩
theorem tw17330132731328240911:True:=⟨⟩
theorem tw4706079058837389440:True:=⟨⟩
theorem tw697623264460660564:True:=⟨⟩
theorem tw8273930003744585626:True:=⟨⟩
theorem tw16009884308244765898:True:=⟨⟩
theorem tw8210421348078903774:True:=⟨⟩
theorem tw6820862383352777685:True:=⟨⟩
theorem tw10678649693572172417:True:=⟨⟩
theorem tw8112040973832200146:True:=⟨⟩
theorem tw10844753989422098599:True:=⟨⟩
theorem tw7628703163842673926:True:=⟨⟩
theorem tw12268275109542032366:True:=⟨⟩
theorem tw8587404781116728655:True:=⟨⟩
theorem tw9673543361469618366:True:=⟨⟩
theorem tw2304311442786299043:True:=⟨⟩
theorem tw11210553801493137410:True:=⟨⟩
theorem tw2845679848157327705:True:=⟨⟩
theorem tw15411387601460861337:True:=⟨⟩
theorem tw8960069828448710407:True:=⟨⟩
theorem tw7028611270464810887:True:=⟨⟩
theorem tw1836080755315867724:True:=⟨⟩
theorem tw16432713993328977331:True:=⟨⟩
theorem tw4523669819894539328:True:=⟨⟩
theorem tw14353793391729792155:True:=⟨⟩
theorem tw13518370688599389936:True:=⟨⟩
theorem tw1580110805410547442:True:=⟨⟩
theorem tw5130813555471234732:True:=⟨⟩
theorem tw17574625026820762457:True:=⟨⟩
theorem tw7534799579077118603:True:=⟨⟩
theorem tw8268277133935991078:True:=⟨⟩
theorem tw9228127785042440375:True:=⟨⟩
theorem tw8244733829118024811:True:=⟨⟩
theorem tw1712922718373300912:True:=⟨⟩
theorem tw8351282476255451920:True:=⟨⟩
theorem tw16684818696116721337:True:=⟨⟩
theorem tw8664936974563722654:True:=⟨⟩
theorem tw7763873220885509757:True:=⟨⟩
theorem tw2855845756224970109:True:=⟨⟩
theorem tw17454471701868102899:True:=⟨⟩
theorem tw8458067239894703972:True:=⟨⟩
theorem tw11912922877643110818:True:=⟨⟩
theorem tw6683769817339685419:True:=⟨⟩
theorem tw14168552714766633299:True:=⟨⟩
theorem tw7366208706002141716:True:=⟨⟩
theorem tw4021928978595405253:True:=⟨⟩
theorem tw15683763237869141255:True:=⟨⟩
theorem tw280609765759037681:True:=⟨⟩
theorem tw13220430256171166289:True:=⟨⟩
theorem tw17672654358674132775:True:=⟨⟩
theorem tw7540741092611519060:True:=⟨⟩
theorem tw14492701947808656938:True:=⟨⟩
theorem tw920214292312260371:True:=⟨⟩
theorem tw3026753882482905222:True:=⟨⟩
theorem tw9657781627882305391:True:=⟨⟩
theorem tw12364972598781006883:True:=⟨⟩
theorem tw4126306136578151734:True:=⟨⟩
theorem tw3694398316872202419:True:=⟨⟩
theorem tw10507497572311344420:True:=⟨⟩
theorem tw15213948185873263833:True:=⟨⟩
theorem tw5505332120971382143:True:=⟨⟩
theorem tw13321331477185743149:True:=⟨⟩
theorem tw14727110085682223627:True:=⟨⟩
theorem tw15595854959937240912:True:=⟨⟩
theorem tw16056359734778111409:True:=⟨⟩
theorem tw13280443560766958183:True:=⟨⟩
theorem tw5009564483982726761:True:=⟨⟩
theorem tw732345407407602841:True:=⟨⟩
theorem tw242841246431481386:True:=⟨⟩
theorem tw17088047866570459193:True:=⟨⟩
theorem tw7494724483528729301:True:=⟨⟩
theorem tw6898005170327248138:True:=⟨⟩
theorem tw4819202231147424091:True:=⟨⟩
theorem tw12949589719889679912:True:=⟨⟩
theorem tw3673089383077640791:True:=⟨⟩
theorem tw14120982254508448379:True:=⟨⟩
theorem tw4642405928176397000:True:=⟨⟩
theorem tw8652628183442184457:True:=⟨⟩
theorem tw1800889605409440832:True:=⟨⟩
theorem tw12744807935193187038:True:=⟨⟩
theorem tw1603739661141634737:True:=⟨⟩
theorem tw12936449754285732098:True:=⟨⟩
theorem tw8609351116199087170:True:=⟨⟩
theorem tw16920754564084929960:True:=⟨⟩
theorem tw6079173187612997037:True:=⟨⟩
theorem tw185848376630758926:True:=⟨⟩
theorem tw13277076834127875243:True:=⟨⟩
theorem tw17330945745186091897:True:=⟨⟩
theorem tw17076082267592564974:True:=⟨⟩
theorem tw4360684699965382250:True:=⟨⟩
theorem tw1088296927520436173:True:=⟨⟩
theorem tw4315991029959535628:True:=⟨⟩
theorem tw6545403380812914513:True:=⟨⟩
theorem tw4292457097857839397:True:=⟨⟩
theorem tw4817003022231809500:True:=⟨⟩
theorem tw7698358502638924378:True:=⟨⟩
theorem tw8879563391730754479:True:=⟨⟩
theorem tw9748044761591592747:True:=⟨⟩
theorem tw15048261121198461528:True:=⟨⟩
theorem tw3759623122121258479:True:=⟨⟩
theorem tw12611767792052310623:True:=⟨⟩
theorem tw8727321023445011275:True:=⟨⟩
theorem tw8516288146210602744:True:=⟨⟩
theorem tw14906377314874228009:True:=⟨⟩
theorem tw2195365466389143174:True:=⟨⟩
theorem tw1760603350576429475:True:=⟨⟩
theorem tw16037735763661986305:True:=⟨⟩
theorem tw3443669649825651883:True:=⟨⟩
theorem tw4788038989552484473:True:=⟨⟩
theorem tw1097998534492414930:True:=⟨⟩
theorem tw257007361410690125:True:=⟨⟩
theorem tw16502264421070913907:True:=⟨⟩
theorem tw9325612240067072397:True:=⟨⟩
theorem tw3493717111155160527:True:=⟨⟩
theorem tw6761669909254768831:True:=⟨⟩
theorem tw15083628210047938546:True:=⟨⟩
theorem tw4702841417184801058:True:=⟨⟩
theorem tw8770659054964912022:True:=⟨⟩
theorem tw18241275227582772068:True:=⟨⟩
theorem tw14892549342360969540:True:=⟨⟩
theorem tw8988450967556017812:True:=⟨⟩
theorem tw15529170255622000948:True:=⟨⟩
theorem tw7540655947842036084:True:=⟨⟩
theorem tw6931407450589930559:True:=⟨⟩
theorem tw13903934854276604550:True:=⟨⟩
theorem tw1033889070964956483:True:=⟨⟩
theorem tw940617070666608080:True:=⟨⟩
theorem tw10292235466723388172:True:=⟨⟩
theorem tw5511420028821071320:True:=⟨⟩
theorem tw6555240042291301478:True:=⟨⟩
theorem tw16640546478005224243:True:=⟨⟩
theorem tw8226494294326810461:True:=⟨⟩
theorem tw6830512106363814048:True:=⟨⟩
theorem tw2000490053193787569:True:=⟨⟩
theorem tw15833661619300960221:True:=⟨⟩
theorem tw6184460063843016694:True:=⟨⟩
theorem tw5592360268479517082:True:=⟨⟩
theorem tw18264374347568628810:True:=⟨⟩
theorem tw11389486352061984695:True:=⟨⟩
theorem tw7023726343779634624:True:=⟨⟩
theorem tw11162318198679636149:True:=⟨⟩
theorem tw5567388512258382067:True:=⟨⟩
theorem tw7082855905992002993:True:=⟨⟩
theorem tw2915727038923087905:True:=⟨⟩
theorem tw3704167492566942397:True:=⟨⟩
theorem tw7676003278276379012:True:=⟨⟩
theorem tw1610171440888473627:True:=⟨⟩
theorem tw3571134770919094901:True:=⟨⟩
theorem tw1197925565968671727:True:=⟨⟩
theorem tw13092906067662860646:True:=⟨⟩
theorem tw7155415327029175403:True:=⟨⟩
theorem tw1848646778235469078:True:=⟨⟩
theorem tw13638418597567726942:True:=⟨⟩
theorem tw5174551420813472067:True:=⟨⟩
theorem tw9184186324627900627:True:=⟨⟩
theorem tw8457440626546761165:True:=⟨⟩
theorem tw2391449824757734642:True:=⟨⟩
theorem tw226724450230711188:True:=⟨⟩
theorem tw13642289790063256904:True:=⟨⟩
theorem tw3196399650302076718:True:=⟨⟩
theorem tw17325209927041812611:True:=⟨⟩
theorem tw14462709497994964445:True:=⟨⟩
theorem tw16029623286316568529:True:=⟨⟩
theorem tw1699103778626983548:True:=⟨⟩
theorem tw13532847315355080253:True:=⟨⟩
theorem tw1331086792558400476:True:=⟨⟩
end hd
set_option maxHeartbeats 8000000 in
theorem hd : PySem.Challenge.rw_nm0141_01.Holds := by
  w_on
  o_law
  o_head (kHook Mine.kk.heap_1 [2, 3, 15, 17, 18, 20, 21, 22, 29, 31, 32, 34, 35, 36, 37, 38, 39, 42, 49, 50, 51, 54, 61, 62, 63, 66, 74, 75, 77, 78, 80, 81, 82, 83, 84, 85, 86, 89, 91, 92, 94, 95, 96, 98, 99, 101, 102, 103, 105, 106, 108, 109, 110, 113, 114, 115, 117, 118, 120, 121, 122, 124, 125, 127, 128, 129, 132, 133, 134, 136, 137, 139, 140, 141, 143, 144, 146, 147, 155, 157, 158, 160, 161, 162, 164, 165, 167, 168, 169, 171, 172, 174, 175, 176, 178, 179, 181, 182, 183, 185, 186, 188, 189, 190, 192, 193, 195, 196, 197, 199, 200, 202, 203, 204, 206, 207, 209, 210, 211, 213, 214, 216, 217, 218, 220, 221, 223, 224, 225, 227, 228, 230, 231, 232, 234, 235, 237, 238, 239, 241, 242, 244, 245, 246, 247, 248, 249, 250, 260, 262, 263, 265, 266, 267, 269, 270, 272, 273, 274, 276, 277, 279, 280, 281, 283, 284, 286, 287, 288, 290, 291, 293, 294, 295, 297, 298, 300, 301, 302, 304, 305, 307, 308, 309, 311, 312, 314, 315, 316, 318, 319, 321, 322, 323, 325, 326, 328, 329, 330, 332, 333, 335, 336, 337, 338, 339, 340, 341, 351, 353, 354, 356, 357, 358, 360, 361, 363, 364, 365, 367, 368, 370, 371, 372, 374, 375, 377, 378, 379, 381, 382, 384, 385, 386, 387, 388, 389, 390, 400, 402, 403, 405, 406, 407, 409, 410, 412, 413, 414, 416, 417, 419, 420, 421, 422, 423, 424, 425, 435, 436, 438, 439, 441, 442, 443, 445, 446, 448, 449, 450, 452, 453, 455, 456, 457, 459, 460, 462, 463, 464, 466, 467, 469, 470, 471, 473, 474, 476, 477, 478, 480, 481, 483, 484, 485, 487, 488, 490, 491, 492, 494, 495, 497, 498, 499, 501, 502, 504, 505, 506, 508, 509, 511, 512, 513, 515, 516, 518, 519, 520, 522, 523, 525, 526, 527, 529, 530, 532, 533, 534, 536, 537, 539, 540, 541, 543, 544, 546, 547, 548, 551, 552, 553, 554, 555, 556, 557, 560, 562, 563, 565, 566, 567, 569, 570, 572, 573, 574, 576, 577, 579, 580, 581, 583, 584, 586, 587, 588, 591, 592, 593, 595, 596, 598, 599, 600, 603, 604, 605, 607, 608, 610, 611, 612, 614, 615, 617, 618, 619, 621, 622, 624, 625, 626, 628, 629, 631, 632, 633, 636, 637, 638, 640, 641, 643, 644, 645, 648, 649, 650, 652, 653, 655, 656, 657, 659, 660, 662, 663] (fun _ => by kernel_rfl))
  (case hw => w_witness2)
  intro w s₀ s₁ mg mb G Y fa o pm cd doc dV kV ho hd hcd hD hmg hg args vals as hpre hlay hrd hwl hlo
  exact walk G.T (kIn_of Y) (by kernel_rfl) (by kernel_rfl) hg hmg hpre hwl
end Mine
end
theorem PySem.Challenge.cw_nm0141_01_holds : PySem.Challenge.rw_nm0141_01.Holds :=
  Mine.hd
