import PyProof.Rows.All
import Wide.All
import OpenK.AllK
import Wide.FinOn
import Lean
import PySem.Challenge.RW_nm0155_01
open PySem PySem.W PyProof.Rows PySem.Calls
set_option Elab.async false
set_option compiler.extract_closed false
set_option linter.unusedVariables false
set_option maxRecDepth 10000
namespace Mine
section
open PySem.Sem (wp)

/-! a logic for stacks that bear no decoder -/
def badIds : List String := PySem.Builtin.Bytes.decodersThatHold ++ ["bytearray.__contains__", "bytearray.__mod__", "bytearray.__rmod__", "_struct.pack_into.held", "bytearray.find.held"]
def gdc : Code → Bool
  | .builtin id _ => !badIds.contains id
  | _ => true
def GdL (l : List (Code × Pos)) : Prop := ∀ x ∈ l, gdc x.1 = true
def wpG {α : Type} (M : Model) (A : Around) (t : Sem α) (Q : α → Shared → Prop) (E : Value → Shared → Prop) (s : Shared) : Prop :=
  ∀ Γ p, Γ.In A → gdc Γ.code = true → GdL Γ.below → wp M Γ t (fun a _ s' => Q a s') (fun e _ s' => E e s') p s
def codeG (M : Model) (A : Around) (c : Code) (R : Result → Shared → Prop) (s : Shared) : Prop :=
  ∀ Γ p, Γ.code = c → Γ.Below A → GdL Γ.below → wpCode M Γ R p s

section
variable {α β : Type} {M : Model} {A : Around} {E : Value → Shared → Prop} {s : Shared}
theorem gOf {t : Sem α} {Q : α → Shared → Prop} (h : wpAny M A t Q E s) : wpG M A t Q E s := fun Γ p hΓ _ _ => h Γ p hΓ
theorem gCode {c : Code} {R : Result → Shared → Prop} (h : codeAny M A c R s) : codeG M A c R s := fun Γ p hc hΓ _ => h Γ p hc hΓ
theorem gPure {a : α} {Q : α → Shared → Prop} (h : Q a s) : wpG M A (pure a) Q E s := fun _ _ _ _ _ => h
theorem gMono {t : Sem α} {Q Q' : α → Shared → Prop} {E' : Value → Shared → Prop} (h : wpG M A t Q E s) (hQ : ∀ a s, Q a s → Q' a s) (hE : ∀ e s, E e s → E' e s) : wpG M A t Q' E' s :=
  fun Γ p hΓ g1 g2 => Sem.wp_mono M Γ t (fun a _ s => hQ a s) (fun e _ s => hE e s) p s (h Γ p hΓ g1 g2)
theorem gBind {m : Sem α} {f : α → Sem β} {Q : β → Shared → Prop} (h : wpG M A m (fun a s' => wpG M A (f a) Q E s') E s) : wpG M A (m >>= f) Q E s := fun Γ p hΓ g1 g2 => by
  rw [Sem.wp_bind']
  exact Sem.wp_mono M Γ m (fun a p' s' h' => h' Γ p' hΓ g1 g2) (fun _ _ _ h' => h') p s (h Γ p hΓ g1 g2)
/-- what is plain goes first -/
theorem gB {m : Sem α} {f : α → Sem β} {Q : β → Shared → Prop} (h : wpAny M A m (fun a s' => wpG M A (f a) Q E s') E s) : wpG M A (m >>= f) Q E s := gBind (gOf h)
theorem gOnRaise {m : Sem α} {k : Value → Sem Unit} {Q : α → Shared → Prop} (h : wpG M A m Q (fun e s' => wpG M A (k e) (fun _ s'' => E e s'') E s') s) : wpG M A (m.onRaise k) Q E s := fun Γ p hΓ g1 g2 => by
  rw [Sem.wp_onRaise]
  exact Sem.wp_mono M Γ m (fun _ _ _ h' => h') (fun e p' s' h' => h' Γ p' hΓ g1 g2) p s (h Γ p hΓ g1 g2)
theorem gHolding {vs : List Value} {m : Sem α} {Q : α → Shared → Prop} (h : wpG M A m Q E s) : wpG M A (holding vs m) Q E s :=
  fun Γ p hΓ g1 g2 => by rw [Sem.wp_holding]; exact h Γ p hΓ g1 g2
theorem gStack {Q : List (Code × Pos) → Shared → Prop} (h : ∀ st, GdL st → Q st s) : wpG M A stack Q E s := fun Γ p _ g1 g2 => by
  show Q ((Γ.code, p) :: Γ.below) s
  refine h _ fun x hx => ?_
  rcases List.mem_cons.mp hx with rfl | hx
  · exact g1
  · exact g2 x hx
theorem gTree {c : Code} {R : Result → Shared → Prop} (hc : gdc c = true)
    (h : wpG M (A.under c) (M.den c) (fun fin s' => match fin with | .done f => R (.ok f) s' | .again c' => c'.quiet = true ∧ codeG M A c' R s') (fun e s' => R (.error e) s') s) : codeG M A c R s := fun Γ p hc' hΓ g2 => by
  rw [wpCode_iff_wp, hc']
  refine Sem.wp_mono M Γ _ (fun fin p' s' h' => ?_) (fun _ _ _ h' => h') p s (h Γ p (hc' ▸ hΓ.in) (hc' ▸ hc) g2)
  cases fin with
  | done f => exact h'
  | again c' => exact ⟨h'.1, h'.2 (Γ.goto c') p' rfl (hΓ.goto c') g2⟩
theorem gCall {f : Value} {pos : List Value} {kw : List (Str × Value)} {Q : Value → Shared → Prop}
    (hc : codeG M A (.call f ⟨pos, kw⟩) (fun r s' => match r with | .ok (.ret v) => Q v s' | .ok _ => False | .error e => E e s') s) : wpG M A (call f pos kw) Q E s := fun Γ p hΓ g1 g2 => by
  rw [show call f pos kw = runValue (.call f ⟨pos, kw⟩) from rfl, Sem.wp_runValue]
  refine hc _ p rfl (hΓ.enter _ none p (by intro x; cases x)) fun x hx => ?_
  rcases List.mem_cons.mp hx with rfl | hx
  · exact g1
  · exact g2 x hx
theorem gRun {c : Code} {h : Option Value} {Q : Flow → Shared → Prop} (hc : codeG M (A.mark h) c (fun r s' => match r with | .ok f => Q f s' | .error e => E e s') s) (hnb : h ≠ some byPass := by intro x; cases x) : wpG M A (run c h) Q E s := fun Γ p hΓ g1 g2 => by
  rw [Sem.wp_run]
  refine hc _ p rfl (hΓ.enter c h p hnb) fun x hx => ?_
  rcases List.mem_cons.mp hx with rfl | hx
  · exact g1
  · exact g2 x hx
theorem gCodeMono {c : Code} {R R' : Result → Shared → Prop} (h : codeG M A c R s) (hR : ∀ r s, R r s → R' r s) : codeG M A c R' s := fun Γ p hc hΓ g => wpCode_mono hR (h Γ p hc hΓ g)
theorem gAttempt {m : Sem α} {Q : Except Value α → Shared → Prop} (h : wpG M A m (fun a => Q (.ok a)) (fun e => Q (.error e)) s) : wpG M A m.attempt Q E s := fun Γ p hΓ g1 g2 => by rw [Sem.wp_attempt]; exact h Γ p hΓ g1 g2
end

section
variable {prog : Program} {w : World} {A : Around} {s : Shared} {R : Result → Shared → Prop}
theorem gBuiltin {id : String} {args : Args} {b : Builtin} (hg : gdc (.builtin id args) = true) (hb : entryFor table id = some b)
    (h : wpG (model prog w) (A.under (.builtin id args)) (b args) (fun fin s' => match fin with | .done f => R (.ok f) s' | .again c' => c'.quiet = true ∧ codeG (model prog w) A c' R s') (fun e s' => R (.error e) s') s) :
    codeG (model prog w) A (.builtin id args) R s := by
  refine gTree hg ?_
  show wpG _ _ (match entryFor table id with | some b => b args | none => unsupported ((withoutEnding? id "#data").getD id)) _ _ s
  rw [hb]; exact h
theorem gCallBuiltin {id : String} {args : Args} (hq : (Code.builtin id args).quiet = true)
    (h : wpAny (model prog w) A.in1 (checkBuiltinCall id args) (fun _ s₁ => codeG (model prog w) A (.builtin id args) R s₁) (fun e s' => R (.error e) s') s) : codeG (model prog w) A (.call (.builtin id) args) R s := by
  refine gTree rfl ?_
  show wpG _ A.in1 (do checkBuiltinCall id args; again (.builtin id args)) _ _ s
  exact gB (wpAny_mono h (fun _ s₁ h₁ => gPure (And.intro hq h₁)) fun _ _ h' => h')

end

end
section
open PySem.Sem (wp)
open PySem.W
theorem g_done {M : Model} {Γ : Ctx} {A : Around} {t : Sem Fin} {R : Result → Shared → Prop} {s : Shared} (hin : Γ.In A) (g1 : gdc Γ.code = true) (g2 : GdL Γ.below)
    (h : wpG M A t (fun fin s' => ∃ f, fin = .done f ∧ R (.ok f) s') (fun e s' => R (.error e) s') s) (p : Pos) : wp M Γ t (Sem.finPost M Γ R) (fun e _ s' => R (.error e) s') p s := by
  refine Sem.wp_mono M Γ t (fun fin p' s' h' => ?_) (fun _ _ _ h' => h') p s (h Γ p hin g1 g2)
  obtain ⟨f, rfl, hf⟩ := h'
  exact hf
theorem g_ends {prog : Program} {w : World} {t : Sem Fin} {s : Shared} {R : Result → Shared → Prop} (hreg : s.asleep)
    (h : wpG (model prog w) callerA t (fun fin s' => ∃ f, fin = .done f ∧ (R (.ok f) s' ∧ leftWithCleanup s'.gens = false)) (fun e s' => R (.error e) s' ∧ leftWithCleanup s'.gens = false) s) :
    ∃ n r s' s'', runN (denote table) prog w n s ⟨t, .builtin "claim.caller" {}, default, []⟩ = .halted (outcomeOf r) s' ∧
      schedN (denote table) prog w n (.single s ⟨t, .builtin "claim.caller" {}, default, []⟩) = .halted (outcomeOf r) s' ∧ s'.forget = s''.forget ∧ R r s'' := by
  obtain ⟨n, r, s₁, s₂, hs, hn, hfo, hR⟩ := wp_halts_full (M := model prog w) (R := R) hreg (g_done (R := fun r s' => R r s' ∧ leftWithCleanup s'.gens = false) caller_in (by decide +kernel) (fun _ h => by cases h) h default)
  exact ⟨n, r, s₂, s₁, hn, hs, hfo, hR⟩
/-- from a contract in wpG to the call of the claim -/
theorem g_from {c : ClaimW} {tree : List Value → Sem Fin} {w : World} {s : Shared} {free : Addr → Prop} {gens : Prop} {kept : Heap → Prop} (hz : s.asleep) (hgens : s.gens = #[])
    (hspec : ∀ args, c.pre args = true → WData.layableAll args = true → ∀ ord : List DictEntry → List DictEntry, (∀ l, (ord l).Perm l) →
      ∃ vs s₁, layAllW c.records (classAt s.heap) w.params ord args s = some (vs, s₁) ∧
        wpG (model c.prog w) callerA (tree vs) (fun fin s' => ∃ f, fin = .done f ∧ (c.Ends s args vs s₁ (.ok f) s' ∧ s'.os = s.os ∧ AllBare s'.gens ∧ kept s'.heap)) (fun e s' => c.Ends s args vs s₁ (.error e) s' ∧ s'.os = s.os ∧ AllBare s'.gens ∧ kept s'.heap) s₁) :
    c.CallFrom (fun vs => ⟨tree vs, .builtin "claim.caller" {}, default, []⟩) w free gens kept s := by
  intro args hpre hlay ord hord
  obtain ⟨vs, s₁, hl, hcode⟩ := hspec args hpre hlay ord hord
  have hal := layAllW_rest _ _ _ hl
  have hend := gMono hcode (Q' := fun fin s' => ∃ f, fin = .done f ∧ ((c.Ends s args vs s₁ (.ok f) s' ∧ s'.os = s.os ∧ kept s'.heap) ∧ leftWithCleanup s'.gens = false)) (E' := fun e s' => (c.Ends s args vs s₁ (.error e) s' ∧ s'.os = s.os ∧ kept s'.heap) ∧ leftWithCleanup s'.gens = false)
    (fun fin s' ⟨f, e, q⟩ => ⟨f, e, ⟨q.1, q.2.1, q.2.2.2⟩, leftWithCleanup_false_of_bare q.2.2.1⟩) (fun e s' q => ⟨⟨q.1, q.2.1, q.2.2.2⟩, leftWithCleanup_false_of_bare q.2.2.1⟩)
  obtain ⟨k, r, s', s'', hrun, hsched, hfo, hE, hos, hkp⟩ := g_ends (R := fun r s' => c.Ends s args vs s₁ r s' ∧ s'.os = s.os ∧ kept s'.heap) (Shared.asleep_of_life hal.2.2.2 hz) hend
  obtain ⟨eh, _, _, eo, _⟩ := Shared.forget_eq hfo
  have hE := hE.congr eh
  rw [← eo] at hos
  rw [← eh] at hkp
  have hlife : s'.heap.life = s.heap.life := (runN_life _ _ _ hrun).trans hal.2.2.2
  refine ⟨vs, s₁, hl, k, _, s', hsched, ?_, (fun _ i x hx => by rw [hgens] at hx; simp at hx), hkp, by rw [hlife], Shared.rest_eq hos⟩
  rcases hE with ⟨v, rfl, d1, d2, d3, d4, d5⟩ | ⟨e, ob, cls, rfl, d1, d2, d3, d4, d5⟩
  · exact .inl ⟨v, rfl, d1, d2, d3, fun b o y _ => d4 b o y, d5⟩
  · exact .inr ⟨e, ob, cls, rfl, d1, d2, d3, d4, fun b o y _ => d5 b o y⟩
/-- what the law is to do, in wpG -/
abbrev WalkG (q : Program) (loose : List Str) (XP : (Str → Option Value) → Heap → Prop) (YP : World → Heap → Prop) (r : RowW) (d : DefRec) (kwd : List (Str × Expr)) : Prop :=
  ∀ (w : World) (s₀ s₁ : Shared) (mg mb : Str → Option Value), Ground q loose r.records XP w s₀ mg mb s₁.heap → YP w s₁.heap → ∀ (a : Addr) (o : Obj) (pm cd doc dV kV : Value), s₁.heap.get? a = some o →
    o.data = .func { docDef d.name d.params d.body d.scope pm cd doc with defaults := dV, kwdefaults := kV } → s₁.heap.CodeRec cd d.name → Dflts mg s₁.heap d.params kwd dV kV → mg d.name = some (.ref a) → s₁.gens = #[] →
    ∀ (args : List WData) (vals : List Value) (as : List Addr), r.claim.pre args = true → WData.layableAll args = true → ReadsAllW r.records (classAt s₀.heap) s₁.heap vals args as → WellAll w.params s₁.heap vals args → (∀ a ∈ as, (a == sysModules) = false) →
      wpG (model r.prog w) callerA (PySem.call (.ref a) vals) (fun v s' => GoodWG r.claim (classAt s₀.heap) (ExcName.means s₀.heap) args s₁ (.ok (.ret v)) s')
        (fun e s' => GoodWG r.claim (classAt s₀.heap) (ExcName.means s₀.heap) args s₁ (.error e) s') s₁
theorem PySem.W.holds_open {r : OpenRow} {q : Program} {loose : List Str} {Xt : Shared → Bool} {XP : (Str → Option Value) → Heap → Prop} {α : Type} {Yf : Shared → α} {Ya : World → α} {YP : World → Heap → Prop} {d : DefRec} {kwd : List (Str × Expr)} {N : Nat}
    (left : LeftO r.prog q loose Xt Yf Ya N) (hY : ∀ w s, Yf s = Ya w → YP w s.heap) (hYk : ∀ w h h', YP w h → (∀ b o, h.get? b = some o → h'.get? b = some o) → YP w h')
    (hX : ∀ s, Xt s = true → XP (s.heap.nsMap mainGlobals) s.heap) (hXk : ∀ mg h h', XP mg h → (∀ b o, h.get? b = some o → h'.get? b = some o) → XP mg h')
    (hdef : defOf q r.name = some (d, kwd)) (hp : r.prog.theDef r.name = some (d.params, d.body, d.scope)) (hk : kwWritten? d.params.kwonlyargs d.params.kw_defaults = some kwd) (hRf : ∀ s, Xt s = true → RecFacts r.records s.heap) (hwr : (!r.writes || r.records.isEmpty) = true)
    (k1 : r.wellSaid = true) (ok : (chainsOk q && opensWell r.prog && (frees r.toRowW && r.within.isEmpty)) = true) (hb : r.prog.bare) (hw : r.toRowW.promised)
    (call : WalkG q loose XP YP r.toRowW d kwd) : r.Holds := by
  refine ⟨k1, hw, ?_⟩
  obtain ⟨hco, hfr⟩ := Bool.and_eq_true_iff.mp ok
  obtain ⟨hch, o1⟩ := Bool.and_eq_true_iff.mp hco
  obtain ⟨k5, k6⟩ := Bool.and_eq_true_iff.mp hfr
  obtain ⟨hsame, hu, ha, hap, hm⟩ := frees_parts k5
  have hB := left.behind (XP := fun mg h => XP mg h ∧ RecFacts r.records h) (fun s hs => ⟨hX s hs, hRf s hs⟩) hch
  refine ⟨⟨hb, o1, by show r.makers.map _ = []; rw [hm]; rfl⟩, hw.witness, fun w => ⟨(hB w).1, fun s' hs' => ?_⟩⟩
  obtain ⟨s₀, hf, hg0, s, hT, hz, hgs, hg, G1, y⟩ := (hB w).2 s' hs'
  have G0 : Ground q loose [] XP w s (s.heap.nsMap mainGlobals) (s.heap.nsMap builtinsNs) s.heap := ⟨G1.T, G1.B, G1.D, G1.TE, G1.TD, G1.W, G1.X.1, G1.cls, G1.has, G1.apart, G1.once, G1.K⟩
  have RF := G1.X.2
  have hgens : s.gens = #[] := Array.eq_empty_of_size_eq_zero (beq_iff_eq.mp hgs)
  have G : Ground q loose r.records XP w s _ _ s.heap := RF.ground G0
  refine ⟨s₀, hf, hg0, s, hT, fun n hn => ?_, RF.1, RF.2.1, g_from (c := r.toRowW.claim) hz hgens fun args hpre hlay ord hord => ?_⟩
  · obtain rfl : n = r.name := by split at hn <;> simp_all
    exact pinned_of_view hg G0 hdef hp hk
  · obtain ⟨⟨vs, s₁⟩, hl⟩ := Option.isSome_iff_exists.mp (layAllW_isSome (P := w.params) (ord := ord) G.has args r.toRowW.args s (pre_splitW hpre).1)
    have keeps := layAllW_keeps _ _ _ hl
    have hal := layAllW_rest _ _ _ hl
    obtain ⟨as, hrd, hin, hold⟩ := reads_layAllW hord _ _ _ hl hlay s₁.heap (fun _ _ e => e)
    have L : Laid r.records w s s₁ args vs as := ⟨⟨ord, hord, hl⟩, hrd, hin, hold, keeps, hal.1.trans hgens, hal.2.2.1⟩
    have G₁ := G.keeps hXk keeps
    obtain ⟨a, o, pm, cd, doc, dV, kV, h1, h2, h3, h4, h5⟩ := G₁.fn hdef
    have h := call w s s₁ _ _ G₁ (hYk _ _ _ (hY w s y) keeps) a o pm cd doc dV kV h2 h3 h4 h5 (defOf_name hdef ▸ h1) L.gens args vs as hpre hlay L.reads L.well (L.low G.low)
    have hi := ident_freeW hu ha hap
    have hwi : r.toRowW.claim.within = [] := List.isEmpty_iff.mp k6
    refine ⟨vs, s₁, hl, gB (wpAny_nsGet G₁.T.g (by
      rw [h1]
      exact gBind (gMono h (fun v s' g => gPure ⟨_, rfl, have z := g.laid (c := r.toRowW.claim) hsame hwi hi L; ⟨z.1, z.2.1, z.2.2, fun q => ⟨namesKept_of hT hg _ keeps g.2.1.old, noTable hwr q⟩⟩⟩)
        fun e s' g => have z := g.laid (c := r.toRowW.claim) hsame hwi hi L; ⟨z.1, z.2.1, z.2.2, fun q => ⟨namesKept_of hT hg _ keeps g.2.1.old, noTable hwr q⟩⟩)))⟩

end
section
section
local macro_rules | `(tactic| o_head $_) => `(tactic| assumption)
set_option maxRecDepth 100000 in
set_option maxHeartbeats 8000000 in
theorem hd (h : PySem.Challenge.rw_nm0155_01.row.Holds) : PySem.Challenge.rw_nm0155_01.row.Holds := by k_head
end

end
example : PySem.Challenge.rw_nm0155_01 = PySem.Challenge.rw_nm0155_01 ∧ hd.heap_1 = hd.heap_1 := by k_fill; exact ⟨rfl, rfl⟩
section
/-! the state: a fixed base, namespaces, objects of the call's own -/
abbrev Vars := List (Str × Option Value)
abbrev Sh := Obj → Prop
def aList (its : List Value) : Sh := fun o => ∃ n, o = { cls := .type "list", data := .seq its.toArray n }
def aTup (its : List Value) : Sh := fun o => ∃ n, o = { cls := .type "tuple", data := .seq its.toArray n }
def aCell (v : Option Value) : Sh := fun o => o.data = .cell v
def anObj (o' : Obj) : Sh := fun o => o = o'

structure Held (h : Heap) (L : Addr) (l : Vars) : Prop where
  keys : (l.map (·.1)).Nodup
  ns : ∃ m, h.Ns L m ∧ ∀ p ∈ l, m p.1 = p.2

theorem Held.mono {h h' : Heap} {L : Addr} {l : Vars} (H : Held h L l) (k : h'.get? L = h.get? L) : Held h' L l := by
  obtain ⟨m, ⟨o, es, ep, ho, r⟩, hm⟩ := H.ns
  exact ⟨H.keys, m, ⟨o, es, ep, k.trans ho, r⟩, hm⟩
theorem Held.slots {h h' : Heap} {L : Addr} {l : Vars} (H : Held h L l) (k : ∀ o, h.get? L = some o → (∀ vs, o.data ≠ .fields vs) → ∃ sl, h'.get? L = some { o with slots := sl }) : Held h' L l := by
  obtain ⟨m, ⟨o, es, ep, ho, hd, r⟩, hm⟩ := H.ns
  obtain ⟨sl, hs⟩ := k o ho (fun vs q => by rw [hd] at q; cases q)
  exact ⟨H.keys, m, ⟨_, es, ep, hs, hd, r⟩, hm⟩
theorem Held.keeps {h h' : Heap} {L : Addr} {l : Vars} (H : Held h L l) (k : ∀ o, h.get? L = some o → h'.get? L = some o) : Held h' L l :=
  H.slots fun o e _ => ⟨o.slots, k o e⟩

structure St (b : Heap) (ns : List (Addr × Vars)) (nw : List (Addr × Sh)) (h : Heap) : Prop where
  keep : ∀ a o, b.get? a = some o → h.get? a = some o
  held : ∀ p ∈ ns, Held h p.1 p.2 ∧ b.get? p.1 = none
  objs : ∀ p ∈ nw, (∃ o, h.get? p.1 = some o ∧ p.2 o) ∧ b.get? p.1 = none
  nd : (ns.map (·.1) ++ nw.map (·.1)).Nodup

section
variable {b h h' : Heap} {ns : List (Addr × Vars)} {nw nw' : List (Addr × Sh)} {a L : Addr} {o : Obj} {x y : Sh} {l l' : Vars} {its : List Value} {v : Option Value}

theorem St.obj (S : St b ns nw h) (m : (a, anObj o) ∈ nw) : h.get? a = some o := by
  obtain ⟨⟨o', e, rfl⟩, _⟩ := S.objs _ m
  exact e
theorem St.isList (S : St b ns nw h) (m : (a, aList its) ∈ nw) : h.IsList a its.toArray := by
  obtain ⟨⟨o', e, n, rfl⟩, _⟩ := S.objs _ m
  exact ⟨_, e, rfl, n, rfl⟩
theorem St.isTup (S : St b ns nw h) (m : (a, aTup its) ∈ nw) : IsTup h a its.toArray := by
  obtain ⟨⟨o', e, n, rfl⟩, _⟩ := S.objs _ m
  exact ⟨_, e, rfl, n, rfl⟩
theorem St.listObj (S : St b ns nw h) (m : (a, aList its) ∈ nw) : ∃ n, h.get? a = some { cls := .type "list", data := .seq its.toArray n } := by
  obtain ⟨⟨o', e, n, rfl⟩, _⟩ := S.objs _ m
  exact ⟨n, e⟩
theorem St.isCell (S : St b ns nw h) (m : (a, aCell v) ∈ nw) : h.IsCell a v := by
  obtain ⟨⟨o', e, h1⟩, _⟩ := S.objs _ m
  exact ⟨o', e, h1⟩
theorem St.ltNs (S : St b ns nw h) {p : Addr × Vars} (m : p ∈ ns) : p.1 < h.objs.size := by
  obtain ⟨mm, ⟨oL, _, _, hL, _⟩, _⟩ := (S.held p m).1.ns
  exact Heap.lt_size hL
theorem St.ltNw (S : St b ns nw h) {p : Addr × Sh} (m : p ∈ nw) : p.1 < h.objs.size := by
  obtain ⟨⟨o, e, _⟩, _⟩ := S.objs p m
  exact Heap.lt_size e
theorem St.none_of_ge (S : St b ns nw h) (hn : h.objs.size ≤ a) : b.get? a = none := by
  cases q : b.get? a with
  | none => rfl
  | some o => exact absurd (Heap.lt_size (S.keep _ _ q)) (Nat.not_lt.mpr hn)
theorem St.lt (S : St b ns nw h) {x : Addr} (m : x ∈ ns.map (·.1) ++ nw.map (·.1)) : x < h.objs.size := by
  rcases List.mem_append.mp m with m | m
  · obtain ⟨p, hp, rfl⟩ := List.mem_map.mp m; exact S.ltNs hp
  · obtain ⟨p, hp, rfl⟩ := List.mem_map.mp m; exact S.ltNw hp

theorem St.sub (S : St b ns nw h) (k : List.Sublist nw' nw) : St b ns nw' h :=
  ⟨S.keep, S.held, fun p hp => S.objs p (k.subset hp), S.nd.sublist (List.Sublist.append (List.Sublist.refl _) (k.map _))⟩
theorem St.perm (S : St b ns nw h) (k : List.Perm nw' nw) : St b ns nw' h :=
  ⟨S.keep, S.held, fun p hp => S.objs p (k.subset hp), (List.Perm.append_left _ (k.map _)).nodup_iff.mpr S.nd⟩
theorem St.pop {x : Addr × Vars} (S : St b (x :: ns) nw h) : St b ns nw h :=
  ⟨S.keep, fun p hp => S.held p (List.mem_cons_of_mem _ hp), S.objs, by have := S.nd; rw [List.map_cons, List.cons_append] at this; exact (List.nodup_cons.mp this).2⟩

theorem St.ext (S : St b ns nw h) (k : ∀ a o, h.get? a = some o → h'.get? a = some o) : St b ns nw h' :=
  ⟨fun a o e => k a o (S.keep a o e), fun p hp => ⟨(S.held p hp).1.keeps fun o e => k _ o e, (S.held p hp).2⟩, fun p hp => ⟨let ⟨o, e, r⟩ := (S.objs p hp).1; ⟨o, k _ _ e, r⟩, (S.objs p hp).2⟩, S.nd⟩

theorem St.push (S : St b ns nw h) (k : ∀ a o, h.get? a = some o → h'.get? a = some o) (ha : ∃ o, h'.get? a = some o ∧ x o) (hn : h.objs.size ≤ a) : St b ns ((a, x) :: nw) h' := by
  have S' := S.ext k
  refine ⟨S'.keep, S'.held, fun p hp => ?_, ?_⟩
  · rcases List.mem_cons.mp hp with rfl | hp
    · exact ⟨ha, S.none_of_ge hn⟩
    · exact S'.objs p hp
  · rw [List.map_cons]
    refine List.perm_middle.nodup_iff.mpr (List.nodup_cons.mpr ⟨fun m => ?_, S.nd⟩)
    exact absurd (S.lt m) (Nat.not_lt.mpr hn)
theorem St.alloc (S : St b ns nw h) (hx : x o) (hf : o.isFreed = false := by rfl) : St b ns ((h.objs.size, x) :: nw) (h.push o) :=
  S.push (fun _ _ e => Heap.get?_push_of_some _ e) ⟨o, Heap.get?_push_size _ hf, hx⟩ (Nat.le_refl _)
/-- a new namespace -/
theorem St.pushNs (S : St b ns nw h) (k : ∀ a o, h.get? a = some o → h'.get? a = some o) (ha : Held h' L l) (hn : h.objs.size ≤ L) : St b ((L, l) :: ns) nw h' := by
  have S' := S.ext k
  refine ⟨S'.keep, fun p hp => ?_, S'.objs, ?_⟩
  · rcases List.mem_cons.mp hp with rfl | hp
    · exact ⟨ha, S.none_of_ge hn⟩
    · exact S'.held p hp
  · rw [List.map_cons, List.cons_append]
    exact List.nodup_cons.mpr ⟨fun m => absurd (S.lt m) (Nat.not_lt.mpr hn), S.nd⟩

/-- an object of the call's own is turned -/
inductive PutO (a : Addr) (x y : Sh) : List (Addr × Sh) → List (Addr × Sh) → Prop
  | head {r} : PutO a x y ((a, x) :: r) ((a, y) :: r)
  | tail {p r r'} : PutO a x y r r' → PutO a x y (p :: r) (p :: r')
theorem PutO.map (P : PutO a x y nw nw') : nw'.map (·.1) = nw.map (·.1) := by
  induction P with
  | head => rfl
  | tail _ ih => simp [ih]
theorem PutO.mem (P : PutO a x y nw nw') : (a, x) ∈ nw := by
  induction P with
  | head => exact .head _
  | tail _ ih => exact .tail _ ih
theorem PutO.cases (P : PutO a x y nw nw') (nd : (nw.map (·.1)).Nodup) : ∀ p ∈ nw', p = (a, y) ∨ (p ∈ nw ∧ p.1 ≠ a) := by
  induction P with
  | head =>
    intro p hp
    rw [List.map_cons, List.nodup_cons] at nd
    rcases List.mem_cons.mp hp with rfl | hp
    · exact .inl rfl
    · exact .inr ⟨List.mem_cons_of_mem _ hp, fun e => nd.1 (List.mem_map.mpr ⟨p, hp, e⟩)⟩
  | @tail q r r' P ih =>
    intro p hp
    rw [List.map_cons, List.nodup_cons] at nd
    rcases List.mem_cons.mp hp with rfl | hp
    · refine .inr ⟨.head _, fun e => nd.1 ?_⟩
      rw [e]; exact List.mem_map.mpr ⟨_, P.mem, rfl⟩
    · rcases ih nd.2 p hp with e | ⟨m, n⟩
      · exact .inl e
      · exact .inr ⟨.tail _ m, n⟩
theorem St.upd (S : St b ns nw h) (P : PutO a x y nw nw') (hs : ∀ c, c ≠ a → h'.get? c = h.get? c) (ho : ∃ o, h'.get? a = some o ∧ y o) : St b ns nw' h' := by
  have hm := S.objs _ P.mem
  have nd2 : (nw.map (·.1)).Nodup := (List.nodup_append.mp S.nd).2.1
  refine ⟨fun c oc e => (hs c fun z => ?_).trans (S.keep c oc e), fun p hp => ⟨(S.held p hp).1.mono (hs _ fun z => ?_), (S.held p hp).2⟩, fun p hp => ?_, by rw [P.map]; exact S.nd⟩
  · subst z; rw [hm.2] at e; cases e
  · exact (List.nodup_append.mp S.nd).2.2 p.1 (List.mem_map_of_mem hp) a (List.mem_map.mpr ⟨_, P.mem, rfl⟩) z
  · rcases P.cases nd2 p hp with rfl | ⟨m, n⟩
    · exact ⟨ho, hm.2⟩
    · exact ⟨let ⟨o, e, r⟩ := (S.objs p m).1; ⟨o, (hs _ n).trans e, r⟩, (S.objs p m).2⟩

/-- a name is stored -/
inductive PutV (x : Str) (v : Option Value) : Vars → Vars → Prop
  | head {o r} : PutV x v ((x, o) :: r) ((x, v) :: r)
  | tail {p r r'} : PutV x v r r' → PutV x v (p :: r) (p :: r')
theorem PutV.map {x : Str} {v : Option Value} (P : PutV x v l l') : l'.map (·.1) = l.map (·.1) := by
  induction P with
  | head => rfl
  | tail _ ih => simp [ih]
theorem PutV.mem {x : Str} {v : Option Value} (P : PutV x v l l') : x ∈ l.map (·.1) := by
  induction P with
  | head => exact .head _
  | tail _ ih => exact .tail _ ih
theorem PutV.cases {x : Str} {v : Option Value} (P : PutV x v l l') (nd : (l.map (·.1)).Nodup) : ∀ p ∈ l', p = (x, v) ∨ (p ∈ l ∧ p.1 ≠ x) := by
  induction P with
  | head =>
    intro p hp
    rw [List.map_cons, List.nodup_cons] at nd
    rcases List.mem_cons.mp hp with rfl | hp
    · exact .inl rfl
    · exact .inr ⟨List.mem_cons_of_mem _ hp, fun e => nd.1 (List.mem_map.mpr ⟨p, hp, e⟩)⟩
  | @tail q r r' P ih =>
    intro p hp
    rw [List.map_cons, List.nodup_cons] at nd
    rcases List.mem_cons.mp hp with rfl | hp
    · refine .inr ⟨.head _, fun e => nd.1 ?_⟩
      rw [e]; exact P.mem
    · rcases ih nd.2 p hp with e | ⟨m, n⟩
      · exact .inl e
      · exact .inr ⟨.tail _ m, n⟩
theorem St.nsAt (S : St b ((L, l) :: ns) nw h) (hs : ∀ c, c ≠ L → h'.get? c = h.get? c) (H : Held h' L l') : St b ((L, l') :: ns) nw h' := by
  have hL := (S.held _ (.head _)).2
  have nd := S.nd
  rw [List.map_cons, List.cons_append, List.nodup_cons] at nd
  refine ⟨fun c oc e => (hs c fun z => ?_).trans (S.keep c oc e), fun p hp => ?_, fun p hp => ⟨let ⟨o, e, r⟩ := (S.objs p hp).1; ⟨o, (hs _ fun z => ?_).trans e, r⟩, (S.objs p hp).2⟩, S.nd⟩
  · subst z; rw [hL] at e; cases e
  · rcases List.mem_cons.mp hp with rfl | hp
    · exact ⟨H, hL⟩
    · refine ⟨(S.held p (.tail _ hp)).1.mono (hs _ fun z => ?_), (S.held p (.tail _ hp)).2⟩
      exact nd.1 (List.mem_append_left _ (List.mem_map.mpr ⟨p, hp, z⟩))
  · exact nd.1 (List.mem_append_right _ (List.mem_map.mpr ⟨p, hp, z⟩))
theorem St.put {x : Str} {v : Value} {m : Str → Option Value} (S : St b ((L, l) :: ns) nw h) (P : PutV x (some v) l l') (hl : ∀ p ∈ l, m p.1 = p.2) (hs : Heap.SameBut L h h') (hn : h'.Ns L (fun y => if y = x then some v else m y)) : St b ((L, l') :: ns) nw h' := by
  have k := (S.held _ (.head _)).1.keys
  refine S.nsAt hs.2 ⟨by rw [P.map]; exact k, _, hn, fun p hp => ?_⟩
  rcases P.cases k p hp with rfl | ⟨h1, h2⟩
  · simp
  · show (if p.1 = x then some v else m p.1) = p.2
    rw [if_neg h2]; exact hl p h1
end
/-- a post under a name of its own -/
structure Abs {α : Type} (Q q : α → Shared → Prop) : Prop where
  out : ∀ {v s}, Q v s → q v s
theorem q_cut {M : Model} {A : Around} {α : Type} {t : Sem α} {Q : α → Shared → Prop} {E : Value → Shared → Prop} {s : Shared} (h : ∀ q, Abs Q q → wpAny M A t q E s) : wpAny M A t Q E s := h Q ⟨fun h => h⟩

end
section
example : PySem.Challenge.rw_nm0155_01 = PySem.Challenge.rw_nm0155_01 ∧ hd.heap_1 = hd.heap_1 := by k_fill; exact ⟨rfl, rfl⟩

abbrev GL : List (Str × Value) := [
  (Str.ofString "_law_next", .ref 685), (Str.ofString "_law_heard", .ref 692), (Str.ofString "_law_lists_right", .ref 697), (Str.ofString "_law_exports_right", .ref 704),
  (Str.ofString "_law_instance_right", .ref 709), (Str.ofString "_law_made_right", .ref 716), (Str.ofString "_law_host_right", .ref 721), (Str.ofString "_law_fits", .ref 728), (Str.ofString "_law_do_fit", .ref 733),
  (Str.ofString "Misused", .ref 63), (Str.ofString "I32", .int (-1) 260), (Str.ofString "I64", .int (-2) 263), (Str.ofString "FUNCREF", .int (-16) 266),
  (Str.ofString "FUNCTION", .int 0 271), (Str.ofString "TABLE", .int 1 273), (Str.ofString "MEMORY", .int 2 275), (Str.ofString "HEAP_NAMES", .ref 66), (Str.ofString "Sizes", .ref 84),
  (Str.ofString "is_ref", .ref 95), (Str.ofString "bits_of", .ref 102), (Str.ofString "does_fit", .ref 121), (Str.ofString "do_fit", .ref 126), (Str.ofString "of_sort", .ref 133),
  (Str.ofString "Memory", .ref 234), (Str.ofString "Table", .ref 325), (Str.ofString "HostFunc", .ref 360), (Str.ofString "Instance", .ref 423), (Str.ofString "Store", .ref 557), (Str.ofString "Module", .ref 674)]
abbrev BL : List (Str × Value) := [
  (Str.ofString "range", .type "range"), (Str.ofString "len", .builtin "len"), (Str.ofString "list", .type "list"), (Str.ofString "isinstance", .builtin "isinstance"), (Str.ofString "int", .type "int"),
  (Str.ofString "bool", .type "bool"), (Str.ofString "repr", .builtin "repr"), (Str.ofString "max", .builtin "max"), (Str.ofString "tuple", .type "tuple"), (Str.ofString "all", .builtin "all"),
  (Str.ofString "zip", .type "zip"), (Str.ofString "bytearray", .type "bytearray"), (Str.ofString "Exception", .type "Exception")]

theorem gl_ok {w : World} {b : Heap} {mg : Str → Option Value} (X : (hd.heap_1 w.params).In b) (G : b.Ns mainGlobals mg) : ∀ p ∈ GL, mg p.1 = some p.2 := by
  unfold GL
  repeat (first | exact List.forall_mem_nil _ | refine List.forall_mem_cons.mpr ⟨mg_of X G (by k_is), ?_⟩)
theorem bl_none {w : World} {b : Heap} {mg : Str → Option Value} (X : (hd.heap_1 w.params).In b) (G : b.Ns mainGlobals mg) : ∀ p ∈ BL, mg p.1 = none := by
  unfold BL
  repeat (first | exact List.forall_mem_nil _ | refine List.forall_mem_cons.mpr ⟨mg_none_of X G (by k_is), ?_⟩)
theorem bl_ok {mb : Str → Option Value} (h : ∀ x : Str, x ≠ "__name__" → mb x = bootBuiltins x) : ∀ p ∈ BL, mb p.1 = some p.2 := by
  unfold BL
  repeat (first | exact List.forall_mem_nil _ | (refine List.forall_mem_cons.mpr ⟨Eq.trans (h _ (by decide)) ?_, ?_⟩; (first | boot_fast | kernel_rfl)))

abbrev tabs4 : List (Addr × Addr) := [(720, 718), (715, 711), (703, 699), (696, 694)]

/-- what is known of the base -/
structure Bs (w : World) (b : Heap) : Prop where
  X : (hd.heap_1 w.params).In b
  lim : b.NoLimit
  gl : ∃ mg mb, b.Ns mainGlobals mg ∧ b.Ns builtinsNs mb ∧ (∀ p ∈ GL, mg p.1 = some p.2) ∧ (∀ p ∈ BL, mg p.1 = none ∧ mb p.1 = some p.2) ∧
    ∃ bm ob, mg "__builtins__" = some (.ref bm) ∧ bm ≠ builtinsNs ∧ b.get? bm = some ob ∧ ob.cls = .type "module" ∧ ob.dict = some builtinsNs ∧ ob.data = .plain
  cd : CodeAll tabs4 b

/-- what is known of the call's surroundings: none handled, n more frames fit, the frames' namespaces are among Ls -/
structure Ar (A : Around) (n : Nat) (Ls : List Addr) : Prop where
  hd : A.handled = none
  dep : A.depth + n < recursionLimit
  uni : A.units + 40 * n + 400 < cLine
  frs : ∃ envs, A.frames = some envs ∧ ∀ env ∈ envs, ∃ L, env.frame = some L ∧ L ∈ Ls ∧ env.scope.kind = .function

theorem Ar.room {A : Around} {n : Nat} {Ls : List Addr} (a : Ar A n Ls) : A.depth < recursionLimit := Nat.lt_of_le_of_lt (Nat.le_add_right _ _) a.dep
theorem Ar.units {A : Around} {n : Nat} {Ls : List Addr} (a : Ar A n Ls) : A.units < cLine := by have := a.uni; omega
theorem Ar.units1 {A : Around} {n : Nat} {Ls : List Addr} (a : Ar A n Ls) : A.in1.units + 300 < cLine := by have := a.uni; simp only [Around.in1_units]; omega
theorem Ar.less {A : Around} {n m : Nat} {Ls : List Addr} (a : Ar A n Ls) (h : m ≤ n) : Ar A m Ls := ⟨a.hd, by have := a.dep; omega, by have := a.uni; omega, a.frs⟩
theorem Ar.more {A : Around} {n : Nat} {L : Addr} {Ls : List Addr} (a : Ar A n Ls) : Ar A n (L :: Ls) :=
  ⟨a.hd, a.dep, a.uni, let ⟨es, h, k⟩ := a.frs; ⟨es, h, fun e he => let ⟨L, h1, h2, h3⟩ := k e he; ⟨L, h1, .tail _ h2, h3⟩⟩⟩
theorem Ar.deeper {A : Around} {n : Nat} {L : Addr} {Ls : List Addr} {env : Env} (a : Ar A (n + 1) Ls) (hf : env.frame = some L) (hk : env.scope.kind = .function) : Ar (A.deeper env) n (L :: Ls) := by
  obtain ⟨es, h, k⟩ := a.frs
  refine ⟨a.hd, ?_, ?_, env :: es, ?_, fun e he => ?_⟩
  · have := a.dep; show A.depth + 1 + n < _; omega
  · have := a.uni; show A.units + 3 + 40 * n + 400 < _; omega
  · exact Around.frames_deeper h
  · rcases List.mem_cons.mp he with rfl | he
    · exact ⟨L, hf, .head _, hk⟩
    · obtain ⟨L, h1, h2, h3⟩ := k e he; exact ⟨L, h1, .tail _ h2, h3⟩

/-- scopes -/
def scopeOk (names : List (Str × NameKind)) : Bool := decide ((names.map (·.1)).Nodup) && names.all fun p => !(p.1 == ("__debug__" : Str))
def ScOk (names : List (Str × NameKind)) : Prop := scopeOk names = true
theorem ScOk.look {names : List (Str × NameKind)} (h : ScOk names) {x : Str} {k : NameKind} (m : (x, k) ∈ names) : names.lookup x = some k := by
  have nd := of_decide_eq_true (Bool.and_eq_true_iff.mp h).1
  clear h
  induction names with
  | nil => cases m
  | cons p r ih =>
    rw [List.map_cons, List.nodup_cons] at nd
    rcases List.mem_cons.mp m with rfl | m
    · simp [List.lookup_cons]
    · have : (x == p.1) = false := by
        cases q : x == p.1 with
        | false => rfl
        | true => exact absurd (List.mem_map.mpr ⟨_, m, beq_iff_eq.mp q⟩) nd.1
      rw [show (p :: r) = ((p.1, p.2) :: r) from rfl, List.lookup_cons, this]
      exact ih m nd.2
theorem ScOk.nd {names : List (Str × NameKind)} (h : ScOk names) {x : Str} {k : NameKind} (m : (x, k) ∈ names) : (x == ("__debug__" : Str)) = false := by
  have := List.all_eq_true.mp (Bool.and_eq_true_iff.mp h).2 _ m
  simpa using this

section
variable {M : Model} {w : World} {A : Around} {E : Value → Shared → Prop} {s : Shared} {b : Heap} {ns : List (Addr × Vars)} {nw nw' : List (Addr × Sh)} {env : Env} {l l' : Vars} {x : Str} {pos : Pos} {v : Value} {c : Addr} {o : Obj}

theorem nm_local {Q : Value → Shared → Prop} (S : St b ((env.locals, l) :: ns) nw s.heap) (hs : ScOk env.scope.names) (hk : (x, NameKind.local) ∈ env.scope.names) (hv : (x, some v) ∈ l) (h : Q v s) (hf : env.scope.kind = .function := by rfl) :
    wpAny M A (eval (.Name x pos) env) Q E s := by
  obtain ⟨_, m, hn, hm⟩ := (S.held _ (.head _)).1
  exact wpAny_Name (wpAny_loadName_local hf (hs.look hk) hn (hm _ hv) h) (hs.nd hk)
theorem nm_cell {Q : Value → Shared → Prop} (S : St b ns nw s.heap) (hs : ScOk env.scope.names) (hk : (x, NameKind.cell) ∈ env.scope.names) (hc : env.cells.lookup x = some c) (hv : (c, aCell (some v)) ∈ nw) (h : Q v s) (hf : env.scope.kind = .function := by rfl) :
    wpAny M A (eval (.Name x pos) env) Q E s :=
  wpAny_Name (wpAny_loadName_cell hf (hs.look hk) hc (S.isCell hv) h) (hs.nd hk)
theorem nm_global {Q : Value → Shared → Prop} (Z : Bs w b) (S : St b ns nw s.heap) (hs : ScOk env.scope.names) (hk : (x, NameKind.globalImplicit) ∈ env.scope.names) (hv : (x, v) ∈ GL) (h : Q v s) (hf : env.scope.kind = .function := by rfl) (hg : env.globals = mainGlobals := by rfl) :
    wpAny M A (eval (.Name x pos) env) Q E s := by
  obtain ⟨mg, mb, hm, _, h1, _⟩ := Z.gl
  exact Name_function_global hf (hs.look hk) (loadGlobal_global (hg ▸ hm.keeps S.keep) (h1 _ hv) h) (hs.nd hk)
theorem nm_builtin {Q : Value → Shared → Prop} (Z : Bs w b) (S : St b ns nw s.heap) (hs : ScOk env.scope.names) (hk : (x, NameKind.globalImplicit) ∈ env.scope.names) (hv : (x, v) ∈ BL) (h : Q v s) (hf : env.scope.kind = .function := by rfl) (hg : env.globals = mainGlobals := by rfl) (hb : env.builtins = builtinsNs := by rfl) :
    wpAny M A (eval (.Name x pos) env) Q E s := by
  obtain ⟨mg, mb, hm, hmb, _, h2, _⟩ := Z.gl
  exact Name_function_global hf (hs.look hk) (loadGlobal_builtin (hg ▸ hm.keeps S.keep) (h2 _ hv).1 (hb ▸ hmb.keeps S.keep) (h2 _ hv).2 h) (hs.nd hk)

theorem nm_free {Q : Value → Shared → Prop} (S : St b ns nw s.heap) (hs : ScOk env.scope.names) (hk : (x, NameKind.free) ∈ env.scope.names) (hc : env.cells.lookup x = some c) (hv : (c, aCell (some v)) ∈ nw) (h : Q v s) (hf : env.scope.kind = .function := by rfl) (hn : (x == ("__classdict__" : Str)) = false := by decide) :
    wpAny M A (eval (.Name x pos) env) Q E s :=
  wpAny_Name (wpAny_loadName_free hf (hs.look hk) hc (S.isCell hv) h hn) (hs.nd hk)
theorem st_cell {Q : Unit → Shared → Prop} {v₀ : Option Value} (S : St b ns nw s.heap) (hs : ScOk env.scope.names) (hk : (x, NameKind.cell) ∈ env.scope.names) (hc : env.cells.lookup x = some c) (P : PutO c (aCell v₀) (aCell (some v)) nw nw')
    (h : ∀ h', St b ns nw' h' → Q () { s with heap := h' }) (hf : env.scope.kind = .function := by rfl) : wpAny M A (storeName env x v) Q E s :=
  wpAny_storeName_cell hf (hs.look hk) hc (S.isCell P.mem) fun h' hv hs' => h h' (S.upd P hs'.2 hv)
theorem st_local {Q : Unit → Shared → Prop} (S : St b ((env.locals, l) :: ns) nw s.heap) (hs : ScOk env.scope.names) (hk : (x, NameKind.local) ∈ env.scope.names) (P : PutV x (some v) l l')
    (h : ∀ h', St b ((env.locals, l') :: ns) nw h' → Q () { s with heap := h', toks := s.toks + 1 }) (hf : env.scope.kind = .function := by rfl) : wpAny M A (storeName env x v) Q E s := by
  obtain ⟨_, m, hn, hm⟩ := (S.held _ (.head _)).1
  exact wpAny_storeName_local (hs.look hk) hn (fun h' hn' hs' => h h' (S.put P hm hs' hn')) (by rw [hf]; rfl)
end

end
section
example : PySem.Challenge.rw_nm0155_01 = PySem.Challenge.rw_nm0155_01 ∧ hd.heap_1 = hd.heap_1 := by k_fill; exact ⟨rfl, rfl⟩

/-- a frame is left: its namespace goes -/
def Leave (b : Heap) (ns : List (Addr × Vars)) (Q : Value → Shared → Prop) (v : Value) (s' : Shared) : Prop :=
  ∃ x nw', St b (x :: ns) nw' s'.heap ∧ (St b ns nw' s'.heap → Q v s')
theorem Leave.intro {b : Heap} {ns : List (Addr × Vars)} {Q : Value → Shared → Prop} {v : Value} {s' : Shared} {x : Addr × Vars} {nw' : List (Addr × Sh)} (S : St b (x :: ns) nw' s'.heap) (h : St b ns nw' s'.heap → Q v s') : Leave b ns Q v s' := ⟨x, nw', S, h⟩
/-- an exception leaves a frame -/
def Lv (prog : Program) (w : World) (A : Around) (env : Env) (E : Value → Shared → Prop) : Value → Shared → Prop :=
  fun e s' => wpAny (model prog w) A (leaving env e) (fun _ s'' => E e s'') (fun e' s'' => E e' s'') s'
def retOf : Flow → Value
  | .ret v => v
  | _ => .none

def localKeys (names : List (Str × NameKind)) : List Str := (names.filter fun p => p.2 == .local).map (·.1)
theorem localKeys.nd {names : List (Str × NameKind)} (h : ScOk names) : (localKeys names).Nodup :=
  (of_decide_eq_true (Bool.and_eq_true_iff.mp h).1).sublist ((List.filter_sublist).map _)

def cellEntries : List (Str × Addr) → Vars → List (Addr × Sh)
  | c :: cs, p :: ps => (c.2, aCell p.2) :: cellEntries cs ps
  | _, _ => []
theorem cellEntries_mem : ∀ {cs : List (Str × Addr)} {c0 : Vars} {q : Addr × Sh}, cs.map (·.1) = c0.map (·.1) → q ∈ cellEntries cs c0 → ∃ c ∈ cs, ∃ p ∈ c0, c.1 = p.1 ∧ q = (c.2, aCell p.2)
  | [], _, _, _, h => by cases h
  | _ :: _, [], _, e, _ => by cases e
  | c :: cs, p :: ps, q, e, h => by
    simp only [List.map_cons, List.cons.injEq] at e
    rcases List.mem_cons.mp h with rfl | h
    · exact ⟨c, .head _, p, .head _, e.1, rfl⟩
    · obtain ⟨c', hc, p', hp, r⟩ := cellEntries_mem e.2 h
      exact ⟨c', .tail _ hc, p', .tail _ hp, r⟩
theorem cellEntries_map : ∀ {cs : List (Str × Addr)} {c0 : Vars}, cs.map (·.1) = c0.map (·.1) → (cellEntries cs c0).map (·.1) = cs.map (·.2)
  | [], _, _ => by cases ‹Vars› <;> rfl
  | _ :: _, [], e => by cases e
  | c :: cs, p :: ps, e => by
    simp only [List.map_cons, List.cons.injEq] at e
    simp only [cellEntries, List.map_cons, cellEntries_map e.2]

section
variable {prog : Program} {w : World} {A : Around} {E : Value → Shared → Prop} {s : Shared} {b : Heap} {ns : List (Addr × Vars)} {nw nw' : List (Addr × Sh)} {n : Nat} {R : Result → Shared → Prop}

theorem call_def {name qual : Str} {params : Arguments} {body : List Stmt} {scope : Scope} {cl : List (Str × Addr)} {dV kV doc pm cdv ct oc : Value} {an od : Option Addr} {osl : Array (Option Value)} {f : Addr} {pos : List Value} {kw : List (Str × Value)}
    (l0 : Vars) (binds : List (Str × Value)) (Z : Bs w b) (S : St b ns nw s.heap) (a : Ar A (n + 1) (ns.map (·.1)))
    (ho : (hd.heap_1 w.params).lookup f = some ⟨oc, od, .func (fnX name qual params body scope cl dV kV doc pm an cdv ct), osl⟩) (hcd : codeIn (hd.heap_1 w.params) cdv qual = true)
    (hbind : BindsTo s (fnX name qual params body scope cl dV kV doc pm an cdv ct) ⟨pos, kw⟩ binds) (hsc : ScOk scope.names) (hcell : ∀ x ∈ scope.names, x.2 ≠ .cell)
    (hkeys : l0.map (·.1) = localKeys scope.names) (hvals : ∀ p ∈ l0, binds.reverse.lookup p.1 = p.2) (hloc : ∀ y ∈ binds, (y.1, NameKind.local) ∈ scope.names)
    (hco : scope.isCoroutine = false) (hgen : scope.isGenerator = false) (hk : scope.kind = .function)
    (h : ∀ L h₁ tk, St b ((L, l0) :: ns) nw h₁ → Ar (A.deeper (envX qual scope L f cdv cl)) n (L :: ns.map (·.1)) →
      wpAny (model prog w) (A.deeper (envX qual scope L f cdv cl)) (execs body (envX qual scope L f cdv cl)) (fun fl s' => Leave b ns (fun v s' => R (.ok (.ret v)) s') (retOf fl) s') (Lv prog w (A.deeper (envX qual scope L f cdv cl)) (envX qual scope L f cdv cl) fun e s' => R (.error e) s') { s with heap := h₁, toks := tk }) :
    codeAny (model prog w) A (.call (.ref f) ⟨pos, kw⟩) R s := by
  have X := Z.X.keeps S.keep
  refine codeAny_call_def (fd := fnX name qual params body scope cl dV kV doc pm an cdv ct) (body := body) (binds := binds) a.room (X _ _ ho) rfl (Z.lim.keeps S.keep) (codeRec_of X hcd) rfl hbind hcell (fun y hy => hsc.look (hloc y hy)) (fun h₁ hns hk₁ => ?_) hco hgen hk
  have S₁ : St b ((s.heap.objs.size, l0) :: ns) nw h₁ := S.pushNs hk₁ ⟨by rw [hkeys]; exact localKeys.nd hsc, _, hns, hvals⟩ (Nat.le_refl _)
  refine wpAny_mono (h s.heap.objs.size h₁ _ S₁ (a.deeper rfl hk)) (fun fl s' q => ?_) fun _ _ q => q
  obtain ⟨x, nw', S', k⟩ := q
  have := k S'.pop
  cases fl <;> exact this

theorem call_defC {name qual : Str} {params : Arguments} {body : List Stmt} {scope : Scope} {dV kV doc pm cdv ct oc : Value} {an od : Option Addr} {osl : Array (Option Value)} {f : Addr} {pos : List Value} {kw : List (Str × Value)}
    (l0 c0 : Vars) (binds : List (Str × Value)) (Z : Bs w b) (S : St b ns nw s.heap) (a : Ar A (n + 1) (ns.map (·.1)))
    (ho : (hd.heap_1 w.params).lookup f = some ⟨oc, od, .func (fnX name qual params body scope [] dV kV doc pm an cdv ct), osl⟩) (hcd : codeIn (hd.heap_1 w.params) cdv qual = true)
    (hbind : BindsTo s (fnX name qual params body scope [] dV kV doc pm an cdv ct) ⟨pos, kw⟩ binds) (hsc : ScOk scope.names)
    (hkind : (binds.all fun y => scope.names.lookup y.1 == some .local || scope.names.lookup y.1 == some .cell) = true)
    (hkeys : l0.map (·.1) = localKeys scope.names) (hvals : ∀ p ∈ l0, bindL (fun z => scope.names.lookup z) binds (fun _ => none) p.1 = p.2)
    (hck : (cellsFrom 0 scope.names []).map (·.1) = c0.map (·.1)) (hcn : (c0.map (·.1)).Nodup) (hcv : ∀ p ∈ c0, bindC (fun z => scope.names.lookup z) binds (fun _ => none) p.1 = p.2)
    (hco : scope.isCoroutine = false) (hgen : scope.isGenerator = false) (hk : scope.kind = .function)
    (h : ∀ L h₁ tk (cs : List (Str × Addr)), cs.map (·.1) = c0.map (·.1) → St b ((L, l0) :: ns) (cellEntries cs c0 ++ nw) h₁ → Ar (A.deeper (envX qual scope L f cdv cs)) n (L :: ns.map (·.1)) →
      wpAny (model prog w) (A.deeper (envX qual scope L f cdv cs)) (execs body (envX qual scope L f cdv cs)) (fun fl s' => Leave b ns (fun v s' => R (.ok (.ret v)) s') (retOf fl) s') (Lv prog w (A.deeper (envX qual scope L f cdv cs)) (envX qual scope L f cdv cs) fun e s' => R (.error e) s') { s with heap := h₁, toks := tk }) :
    codeAny (model prog w) A (.call (.ref f) ⟨pos, kw⟩) R s := by
  have X := Z.X.keeps S.keep
  refine codeAny_call_function a.room (X _ _ ho) rfl hco hgen rfl (codeRec_of X hcd) (hbind _ _ _ _ ?_)
  refine wpAny_newFunctionEnv_cells hk (kindsX hkind _) fun env' he s' x => ?_
  subst he
  refine ⟨(Z.lim.keeps S.keep).keeps x.toInCall.keep, codeAny_func ?_⟩
  obtain ⟨h₁, tk, rfl, _⟩ := x.done
  have hk₁ := x.toInCall.keep
  have S₁ : St b ((s.heap.objs.size, l0) :: ns) nw h₁ := S.pushNs hk₁ ⟨by rw [hkeys]; exact localKeys.nd hsc, _, x.toInCall.ns, hvals⟩ (Nat.le_refl _)
  have hnames : (cellsFrom (s.heap.objs.size + 1) scope.names []).map (·.1) = c0.map (·.1) := (cellsFrom_names scope.names 0 (s.heap.objs.size + 1) [] [] rfl).symm.trans hck
  have xc := x.cell
  have xa := x.apart
  have xb := x.above
  revert hnames xc xa xb
  show (cellsFrom (s.heap.objs.size + 1) scope.names []).map (·.1) = c0.map (·.1) → (∀ n c, (cellsFrom (s.heap.objs.size + 1) scope.names []).lookup n = some c → h₁.IsCell c (bindC (fun z => scope.names.lookup z) binds (fun _ => none) n)) →
    (cellsFrom (s.heap.objs.size + 1) scope.names []).Pairwise (fun x y => x.2 ≠ y.2) → (∀ n c, (n, c) ∈ cellsFrom (s.heap.objs.size + 1) scope.names [] → s.heap.objs.size < c) → _
  intro hnames xc xa xb
  have S₂ : St b ((s.heap.objs.size, l0) :: ns) (cellEntries (cellsFrom (s.heap.objs.size + 1) scope.names []) c0 ++ nw) h₁ := by
    refine ⟨S₁.keep, S₁.held, fun q hq => ?_, ?_⟩
    · rcases List.mem_append.mp hq with hq | hq
      · obtain ⟨⟨cn, c⟩, hc, p, hp, e, rfl⟩ := cellEntries_mem hnames hq
        have e' : cn = p.1 := e
        subst e'
        have hx := xc _ _ (lookup_of_mem_nodup (hnames ▸ hcn) hc)
        rw [hcv p hp] at hx
        exact ⟨hx, S.none_of_ge (Nat.le_of_lt (xb _ _ hc))⟩
      · exact S₁.objs q hq
    · rw [List.map_append, cellEntries_map hnames]
      have nd := S₁.nd
      refine List.nodup_append.mpr ⟨(List.nodup_append.mp nd).1, List.nodup_append.mpr ⟨List.pairwise_map.mpr xa, (List.nodup_append.mp nd).2.1, fun y hy z hz e => ?_⟩, fun y hy z hz e => ?_⟩
      · obtain ⟨p, hp, rfl⟩ := List.mem_map.mp hy
        have h1 := xb _ _ hp
        have h2 := S.lt (List.mem_append_right _ hz)
        rw [← e] at h2
        exact Nat.lt_asymm h1 h2
      · rcases List.mem_append.mp hz with hz | hz
        · obtain ⟨p, hp, rfl⟩ := List.mem_map.mp hz
          have h1 := xb _ _ hp
          rcases List.mem_cons.mp hy with rfl | hy
          · exact Nat.lt_irrefl _ (e ▸ h1)
          · have h2 := S.lt (List.mem_append_left _ hy)
            rw [e] at h2
            exact Nat.lt_asymm h1 h2
        · exact (List.nodup_append.mp nd).2.2 y hy z hz e
  refine wpAny_mono (h s.heap.objs.size h₁ tk _ hnames S₂ (a.deeper rfl hk)) (fun fl s' q => ?_) fun _ _ q => q
  obtain ⟨x, nw', S', k⟩ := q
  have := k S'.pop
  cases fl <;> exact this
end

end
section
section
variable {prog : Program} {w : World} {A : Around} {E : Value → Shared → Prop} {s : Shared} {b : Heap} {ns : List (Addr × Vars)} {nw nw' : List (Addr × Sh)} {n : Nat} {env : Env} {l t : Addr} {its : List Value} {v x : Value} {k : Int} {u : Tok} {pos np : Pos}

theorem mk_list {vs : List Value} {Q : Value → Shared → Prop} (S : St b ns nw s.heap) (h : ∀ a h', St b ns ((a, aList vs) :: nw) h' → Q (.ref a) { s with heap := h' }) (hsz : vs.length ≤ sizeLine) : wpAny (model prog w) A (newList vs) Q E s :=
  PySem.wpAny_newList (h _ _ (S.alloc ⟨0, rfl⟩)) hsz
theorem mk_tup {vs : List Value} {Q : Value → Shared → Prop} (S : St b ns nw s.heap) (h : ∀ a h', St b ns ((a, aTup vs) :: nw) h' → Q (.ref a) { s with heap := h' }) (hsz : vs.length ≤ sizeLine) : wpAny (model prog w) A (newTuple vs) Q E s :=
  PySem.wpAny_newTuple (h _ _ (S.alloc ⟨0, rfl⟩)) hsz

theorem get_list {Q : Value → Shared → Prop} (hl : s.heap.IsList l its.toArray) (h0 : 0 ≤ k) (h1 : k < 2 ^ 63) (hx : its[k.toNat]? = some x) (h : Q x s) {value slice : Expr}
    (hs : subscripted slice false (.ref l) (.int k u) = operate [.ref l, .int k u] (getItem (.ref l) (.int k u)) := by with_unfolding_all rfl) :
    wpAny (model prog w) A (subscriptTail value slice (.ref l) (.int k u)) Q E s :=
  tail_any hl.typeIs slot_list_getitem.lookup (getItem_listL hl h0 h1 hx h) hs
theorem set_list {Q : Unit → Shared → Prop} (S : St b ns nw s.heap) (P : PutO l (aList its) (aList (its.set k.toNat v)) nw nw') (h0 : 0 ≤ k) (h1 : k < 2 ^ 63) (h2 : k < its.length)
    (h : ∀ h', St b ns nw' h' → Q () { s with heap := h' }) : wpAny (model prog w) A (setItem (.ref l) (.int k u) v) Q E s := by
  obtain ⟨n, e⟩ := S.listObj P.mem
  refine ki_setAt e h0 h1 (by simpa using h2) (h _ (S.upd P (fun c hc => Heap.get?_update_other _ _ (Ne.symm hc)) ⟨_, Heap.get?_update_self _ e rfl, n, ?_⟩))
  simp [Obj.mapSeq]
theorem len_list {Q : Value → Shared → Prop} (hl : s.heap.IsList l its.toArray) (hk : its.length < 2 ^ 62) (h : ∀ t tk, Q (.int its.length t) { s with toks := tk }) : wpAny (model prog w) A (call (.builtin "len") [.ref l]) Q E s :=
  PySem.Calls.call_len_list hl (by simp; omega) (by simpa using h _ _)
theorem append_list {Q : Value → Shared → Prop} (S : St b ns nw s.heap) (P : PutO l (aList its) (aList (its ++ [v])) nw nw') (hsz : its.length ≤ 10000) (h : ∀ h', St b ns nw' h' → Q .none { s with heap := h' }) :
    wpAny (model prog w) A (call (.builtin "list.append") [.ref l, v]) Q E s := by
  obtain ⟨n, e⟩ := S.listObj P.mem
  refine append_at e (fun h' hs ho => h h' (S.upd P hs.2 ⟨_, ho, n + 1, ?_⟩)) (by simp [sizeLine]; omega)
  simp

/-- a call of a name of the top, some arguments -/
theorem call_global {f : Addr} {nm : Str} {e : Expr} {rest : List Expr} {Q : Value → Shared → Prop} (Z : Bs w b) (S : St b ns nw s.heap) (hs : ScOk env.scope.names) (hk : (nm, NameKind.globalImplicit) ∈ env.scope.names) (hv : (nm, .ref f) ∈ GL)
    (hkp : keepIn (hd.heap_1 w.params) (.ref f) = true) (h : wpAny (model prog w) A (spliced (backTo pos (starEach (e :: rest) env))) (fun vs s₁ => (hd.heap_1 w.params).In s₁.heap ∧ wpAny (model prog w) A (call (.ref f) vs) Q E s₁) E s)
    (he : starEach (e :: rest) env = (false, eval e env) :: starEach rest env := by rfl) (hplain : (backTo pos (starEach rest env)).any (·.1) = false := by rfl) (hf : env.scope.kind = .function := by rfl) (hg : env.globals = mainGlobals := by rfl) :
    wpAny (model prog w) A (eval (.Call (.Name nm np) (e :: rest) [] pos) env) Q E s :=
  Call_ (nm_global Z S hs hk hv (callWith_K (first := []) Z.X hkp h he hplain) hf hg)
end

end
section
/-- the state: over a base -/
structure Sx (b : Shared) (ns : List (Addr × Vars)) (nw : List (Addr × Sh)) (s : Shared) : Prop where
  st : St b.heap ns nw s.heap
  g : s.gens = b.gens
  o : s.os = b.os

/-- a frame of a function of the program -/
structure Fn (env : Env) (names : List (Str × NameKind)) (cs : List (Str × Addr)) : Prop where
  kind : env.scope.kind = .function
  nm : env.scope.names = names
  ok : ScOk names
  gl : env.globals = mainGlobals
  bt : env.builtins = builtinsNs
  cl : env.cells = cs
  it : interactive env = false

def thenF (k : Shared → Prop) (Q : Flow → Shared → Prop) : Flow → Shared → Prop
  | .next, s => k s
  | f, s => Q f s

section
variable {prog : Program} {w : World} {A : Around} {E : Value → Shared → Prop} {s : Shared} {b : Shared} {ns : List (Addr × Vars)} {nw nw' : List (Addr × Sh)} {n : Nat} {env : Env} {l t : Addr} {its : List Value} {v x : Value} {k : Int} {u : Tok} {pos np pos' : Pos} {names : List (Str × NameKind)} {cs : List (Str × Addr)} {nm : Str} {lv lv' : Vars} {c : Addr}

theorem thenF.next {k : Shared → Prop} {Q : Flow → Shared → Prop} (h : k s) : thenF k Q .next s := h
theorem thenF.ret {k : Shared → Prop} {Q : Flow → Shared → Prop} (h : Q (.ret v) s) : thenF k Q (.ret v) s := h
theorem Sx.K (Z : Bs w b.heap) (S : Sx b ns nw s) : (hd.heap_1 w.params).In s.heap := Z.X.keeps S.st.keep
theorem Sx.to (S : Sx b ns nw s) {h' : Heap} {tk : Nat} (S' : St b.heap ns' nw' h') : Sx b ns' nw' { s with heap := h', toks := tk } := ⟨S', S.g, S.o⟩
theorem Sx.tok (S : Sx b ns nw s) {tk : Nat} : Sx b ns nw { s with toks := tk } := ⟨S.st, S.g, S.o⟩
theorem Sx.ext (S : Sx b ns nw s) {h' : Heap} {tk : Nat} (k : ∀ a o, s.heap.get? a = some o → h'.get? a = some o) : Sx b ns nw { s with heap := h', toks := tk } := ⟨S.st.ext k, S.g, S.o⟩
theorem Sx.pushed (S : Sx b ns nw s) {o : Obj} : Sx b ns nw { s with heap := s.heap.push o } := S.ext fun _ _ e => Heap.get?_push_of_some _ e

/-! statements -/
theorem x_assign {value : Expr} {rest : List Stmt} {Q : Flow → Shared → Prop} (h : wpAny (model prog w) A (eval value env) (fun v s₁ => wpAny (model prog w) A (storeName env nm v) (fun _ s₂ => wpAny (model prog w) A (execs rest env) Q E s₂) E s₁) E s)
    (hs : swapsWith value (some (.Name nm pos')) pos.line env = pure false := by rfl) : wpAny (model prog w) A (execs (.Assign [.Name nm pos'] value pos :: rest) env) Q E s :=
  wpAny_execs_cons (wpAny_Assign_Name h hs)
theorem x_setitem {value o i : Expr} {rest : List Stmt} {Q : Flow → Shared → Prop} (h : wpAny (model prog w) A (eval value env) (fun v s₁ => wpAny (model prog w) A (eval o env) (fun ov s₂ => wpAny (model prog w) A (eval i env) (fun iv s₃ => wpAny (model prog w) A (setItem ov iv v) (fun _ s₄ => wpAny (model prog w) A (execs rest env) Q E s₄) E s₃) E s₂) E s₁) E s)
    (hs : swapsWith value (some (.Subscript o i pos')) pos.line env = pure false := by rfl) : wpAny (model prog w) A (execs (.Assign [.Subscript o i pos'] value pos :: rest) env) Q E s :=
  wpAny_execs_cons (wpAny_Assign_Subscript h hs)
theorem x_setattr {value o : Expr} {rest : List Stmt} {Q : Flow → Shared → Prop} (h : wpAny (model prog w) A (eval value env) (fun v s₁ => wpAny (model prog w) A (eval o env) (fun ov s₂ => wpAny (model prog w) A (setAttr ov nm v) (fun _ s₄ => wpAny (model prog w) A (execs rest env) Q E s₄) E s₂) E s₁) E s)
    (hs : swapsWith value (some (.Attribute o nm pos')) pos.line env = pure false := by rfl) : wpAny (model prog w) A (execs (.Assign [.Attribute o nm pos'] value pos :: rest) env) Q E s :=
  wpAny_execs_cons (plainObj_wpAny_Assign_Attribute h hs)
theorem x_expr {value : Expr} {rest : List Stmt} {Q : Flow → Shared → Prop} (V : Fn env names cs) (h : wpAny (model prog w) A (eval value env) (fun _ s₁ => wpAny (model prog w) A (execs rest env) Q E s₁) E s)
    (hs : swapsWith value none pos.line env = pure false := by rfl) : wpAny (model prog w) A (execs (.Expr value pos :: rest) env) Q E s :=
  wpAny_execs_cons (wpAny_Expr_any h V.it hs)
theorem x_return {value : Expr} {rest : List Stmt} {Q : Flow → Shared → Prop} (h : wpAny (model prog w) A (eval value env) (fun v s₁ => Q (.ret v) s₁) E s) : wpAny (model prog w) A (execs (.Return (some value) pos :: rest) env) Q E s :=
  wpAny_execs_cons (wpAny_Return_some h)
theorem x_if {test : Expr} {body orelse rest : List Stmt} {Q : Flow → Shared → Prop} (h : wpAny (model prog w) A (isTrue test env (eval test env)) (fun c s₁ => if c = true then wpAny (model prog w) A (execs body env) (thenF (fun s₂ => wpAny (model prog w) A (execs rest env) Q E s₂) Q) E s₁ else wpAny (model prog w) A (execs orelse env) (thenF (fun s₂ => wpAny (model prog w) A (execs rest env) Q E s₂) Q) E s₁) E s) :
    wpAny (model prog w) A (execs (.If test body orelse pos :: rest) env) Q E s := by
  refine wpAny_execs_cons (wpAny_If (wpAny_mono h (fun c s₁ q => ?_) fun _ _ q => q))
  cases c
  · rw [if_neg (by decide)] at q ⊢
    exact wpAny_mono q (fun f s q => by cases f <;> exact q) fun _ _ q => q
  · rw [if_pos rfl] at q ⊢
    exact wpAny_mono q (fun f s q => by cases f <;> exact q) fun _ _ q => q

/-! expressions -/
theorem e_local {Q : Value → Shared → Prop} (V : Fn env names cs) (S : Sx b ((env.locals, lv) :: ns) nw s) (hk : (nm, NameKind.local) ∈ names) (hv : (nm, some v) ∈ lv) (h : Q v s) : wpAny (model prog w) A (eval (.Name nm pos) env) Q E s :=
  nm_local S.st (V.nm ▸ V.ok) (V.nm ▸ hk) hv h V.kind
theorem e_cell {Q : Value → Shared → Prop} (V : Fn env names cs) (S : Sx b ns nw s) (hk : (nm, NameKind.cell) ∈ names) (hc : cs.lookup nm = some c) (hv : (c, aCell (some v)) ∈ nw) (h : Q v s) : wpAny (model prog w) A (eval (.Name nm pos) env) Q E s :=
  nm_cell S.st (V.nm ▸ V.ok) (V.nm ▸ hk) (V.cl ▸ hc) hv h V.kind
theorem e_free {Q : Value → Shared → Prop} (V : Fn env names cs) (S : Sx b ns nw s) (hk : (nm, NameKind.free) ∈ names) (hc : cs.lookup nm = some c) (hv : (c, aCell (some v)) ∈ nw) (h : Q v s) (hn : (nm == ("__classdict__" : Str)) = false := by decide) : wpAny (model prog w) A (eval (.Name nm pos) env) Q E s :=
  nm_free S.st (V.nm ▸ V.ok) (V.nm ▸ hk) (V.cl ▸ hc) hv h V.kind hn
theorem e_global {Q : Value → Shared → Prop} (Z : Bs w b.heap) (V : Fn env names cs) (S : Sx b ns nw s) (hk : (nm, NameKind.globalImplicit) ∈ names) (hv : (nm, v) ∈ GL) (h : Q v s) : wpAny (model prog w) A (eval (.Name nm pos) env) Q E s :=
  nm_global Z S.st (V.nm ▸ V.ok) (V.nm ▸ hk) hv h V.kind V.gl
theorem e_builtin {Q : Value → Shared → Prop} (Z : Bs w b.heap) (V : Fn env names cs) (S : Sx b ns nw s) (hk : (nm, NameKind.globalImplicit) ∈ names) (hv : (nm, v) ∈ BL) (h : Q v s) : wpAny (model prog w) A (eval (.Name nm pos) env) Q E s :=
  nm_builtin Z S.st (V.nm ▸ V.ok) (V.nm ▸ hk) hv h V.kind V.gl V.bt
theorem e_int {Q : Value → Shared → Prop} {kk : Nat} (S : Sx b ns nw s) (h : ∀ t s', Sx b ns nw s' → Q (.int k t) s') : wpAny (model prog w) A (eval (.Constant (.int k) kk pos) env) Q E s :=
  wpAny_Constant_int (h _ _ S.tok)
theorem e_str {Q : Value → Shared → Prop} {kk : Nat} {x : Str} (S : Sx b ns nw s) (h : ∀ t s', Sx b ns nw s' → Q (.str x t) s') : wpAny (model prog w) A (eval (.Constant (.str x) kk pos) env) Q E s :=
  Constant_str (h _ _ S.tok)
theorem e_bytes {Q : Value → Shared → Prop} {kk : Nat} {x : List UInt8} (S : Sx b ns nw s) (h : ∀ t s', Sx b ns nw s' → Q (.bytes x.toArray t) s') : wpAny (model prog w) A (eval (.Constant (.bytes x) kk pos) env) Q E s :=
  Constant_bytes (h _ _ S.tok)
theorem st_loc {Q : Unit → Shared → Prop} (V : Fn env names cs) (S : Sx b ((env.locals, lv) :: ns) nw s) (hk : (nm, NameKind.local) ∈ names) (P : PutV nm (some v) lv lv') (h : ∀ s', Sx b ((env.locals, lv') :: ns) nw s' → Q () s') : wpAny (model prog w) A (storeName env nm v) Q E s :=
  st_local S.st (V.nm ▸ V.ok) (V.nm ▸ hk) P (fun _ S' => h _ ⟨S', S.g, S.o⟩) V.kind
theorem st_cel {Q : Unit → Shared → Prop} {v₀ : Option Value} (V : Fn env names cs) (S : Sx b ns nw s) (hk : (nm, NameKind.cell) ∈ names) (hc : cs.lookup nm = some c) (P : PutO c (aCell v₀) (aCell (some v)) nw nw') (h : ∀ s', Sx b ns nw' s' → Q () s') : wpAny (model prog w) A (storeName env nm v) Q E s :=
  st_cell S.st (V.nm ▸ V.ok) (V.nm ▸ hk) (V.cl ▸ hc) P (fun _ S' => h _ ⟨S', S.g, S.o⟩) V.kind

theorem i_add {x y : Int} {t u : Tok} {Q : Value → Shared → Prop} (S : Sx b ns nw s) (h : ∀ t s', Sx b ns nw s' → Q (.int (x + y) t) s') : wpAny (model prog w) A (binaryOp .Add (.int x t) (.int y u)) Q E s := PyProof.Rows.add_int (h _ _ S.tok)
theorem i_sub {x y : Int} {t u : Tok} {Q : Value → Shared → Prop} (S : Sx b ns nw s) (h : ∀ t s', Sx b ns nw s' → Q (.int (x - y) t) s') : wpAny (model prog w) A (binaryOp .Sub (.int x t) (.int y u)) Q E s := PyProof.Rows.sub_int (h _ _ S.tok)
theorem mul_ok {x y : Int} (h : Builtin.Int.intBits x ≤ 2) : IntMulOk x y := by
  unfold IntMulOk
  intro q
  have := (Bool.and_eq_true_iff.mp (Bool.and_eq_true_iff.mp q).1).1
  have := of_decide_eq_true this
  have h2 : (2:Nat) ≤ PySem.shortFactorBits := by decide
  omega
theorem i_mul {x y : Int} {t u : Tok} {Q : Value → Shared → Prop} (S : Sx b ns nw s) (hx : Builtin.Int.intBits x ≤ 2) (h : ∀ t s', Sx b ns nw s' → Q (.int (x * y) t) s') : wpAny (model prog w) A (binaryOp .Mult (.int x t) (.int y u)) Q E s := PyProof.Rows.mul_int (h _ _ S.tok) (mul_ok hx)
theorem i_mod {x y : Int} {t u : Tok} {Q : Value → Shared → Prop} (S : Sx b ns nw s) (hy : 0 < y) (h : ∀ t s', Sx b ns nw s' → Q (.int (x % y) t) s') : wpAny (model prog w) A (binaryOp .Mod (.int x t) (.int y u)) Q E s := by
  refine PyProof.Rows.mod_int' (by omega) ?_
  have : x.fmod y = x % y := Int.fmod_eq_emod_of_nonneg x (by omega)
  rw [this]; exact h _ _ S.tok
theorem i_neg {x : Int} {t : Tok} {Q : Value → Shared → Prop} (S : Sx b ns nw s) (h : ∀ t s', Sx b ns nw s' → Q (.int (-x) t) s') : wpAny (model prog w) A (unaryOp .USub (.int x t)) Q E s := neg_int (h _ _ S.tok)
theorem i_lsh {x y : Int} {t u : Tok} {Q : Value → Shared → Prop} (S : Sx b ns nw s) (h0 : 0 ≤ y) (h1 : y ≤ 1000000) (h2 : x.natAbs < 2 ^ 64) (h : ∀ t s', Sx b ns nw s' → Q (.int (x * 2 ^ y.toNat) t) s') : wpAny (model prog w) A (binaryOp .LShift (.int x t) (.int y u)) Q E s := lshift_int_small h0 h1 h2 (h _ _ S.tok)
theorem i_pow {x y : Int} {t u : Tok} {Q : Value → Shared → Prop} (S : Sx b ns nw s) (h0 : 0 ≤ y) (h1 : y ≤ 1000000) (h2 : x.natAbs < 2 ^ 64) (h : ∀ t s', Sx b ns nw s' → Q (.int (x ^ y.toNat) t) s') : wpAny (model prog w) A (binaryOp .Pow (.int x t) (.int y u)) Q E s := pow_int_small h0 h1 h2 (h _ _ S.tok)

theorem n_list {vs : List Value} {Q : Value → Shared → Prop} (S : Sx b ns nw s) (h : ∀ a s', Sx b ns ((a, aList vs) :: nw) s' → Q (.ref a) s') (hsz : vs.length ≤ sizeLine := by decide) : wpAny (model prog w) A (newList vs) Q E s :=
  mk_list S.st (fun a _ S' => h a _ ⟨S', S.g, S.o⟩) hsz
theorem n_tup {vs : List Value} {Q : Value → Shared → Prop} (S : Sx b ns nw s) (h : ∀ a s', Sx b ns ((a, aTup vs) :: nw) s' → Q (.ref a) s') (hsz : vs.length ≤ sizeLine := by decide) : wpAny (model prog w) A (newTuple vs) Q E s :=
  mk_tup S.st (fun a _ S' => h a _ ⟨S', S.g, S.o⟩) hsz
theorem g_list {Q : Value → Shared → Prop} (S : Sx b ns nw s) (hm : (l, aList its) ∈ nw) (h0 : 0 ≤ k) (h1 : k < 2 ^ 63) (hx : its[k.toNat]? = some x) (h : Q x s) {value slice : Expr}
    (hs : subscripted slice false (.ref l) (.int k u) = operate [.ref l, .int k u] (getItem (.ref l) (.int k u)) := by with_unfolding_all rfl) :
    wpAny (model prog w) A (subscriptTail value slice (.ref l) (.int k u)) Q E s := get_list (S.st.isList hm) h0 h1 hx h hs
theorem u_list {Q : Unit → Shared → Prop} (S : Sx b ns nw s) (P : PutO l (aList its) (aList (its.set k.toNat v)) nw nw') (h0 : 0 ≤ k) (h1 : k < 2 ^ 63) (h2 : k < its.length)
    (h : ∀ s', Sx b ns nw' s' → Q () s') : wpAny (model prog w) A (setItem (.ref l) (.int k u) v) Q E s :=
  set_list S.st P h0 h1 h2 fun _ S' => h _ ⟨S', S.g, S.o⟩
theorem c_len {Q : Value → Shared → Prop} (S : Sx b ns nw s) (hm : (l, aList its) ∈ nw) (hk : its.length < 2 ^ 62) (h : ∀ t s', Sx b ns nw s' → Q (.int its.length t) s') : wpAny (model prog w) A (call (.builtin "len") [.ref l]) Q E s :=
  len_list (S.st.isList hm) hk fun _ _ => h _ _ S.tok
theorem c_append {Q : Value → Shared → Prop} (S : Sx b ns nw s) (P : PutO l (aList its) (aList (its ++ [v])) nw nw') (hsz : its.length ≤ 10000) (h : ∀ s', Sx b ns nw' s' → Q .none s') : wpAny (model prog w) A (call (.builtin "list.append") [.ref l, v]) Q E s :=
  append_list S.st P hsz fun _ S' => h _ ⟨S', S.g, S.o⟩

theorem call_gl {f : Addr} {nm : Str} {e : Expr} {rest : List Expr} {Q : Value → Shared → Prop} (Z : Bs w b.heap) (V : Fn env names cs) (S : Sx b ns nw s) (hk : (nm, NameKind.globalImplicit) ∈ names) (hv : (nm, .ref f) ∈ GL)
    (hkp : keepIn (hd.heap_1 w.params) (.ref f) = true) (h : wpAny (model prog w) A (spliced (backTo pos (starEach (e :: rest) env))) (fun vs s₁ => (hd.heap_1 w.params).In s₁.heap ∧ wpAny (model prog w) A (call (.ref f) vs) Q E s₁) E s)
    (he : starEach (e :: rest) env = (false, eval e env) :: starEach rest env := by rfl) (hplain : (backTo pos (starEach rest env)).any (·.1) = false := by rfl) :
    wpAny (model prog w) A (eval (.Call (.Name nm np) (e :: rest) [] pos) env) Q E s :=
  Call_ (e_global Z V S hk hv (callWith_K (first := []) Z.X hkp h he hplain))
theorem call_bi {f : String} {nm : Str} {e : Expr} {rest : List Expr} {Q : Value → Shared → Prop} (Z : Bs w b.heap) (V : Fn env names cs) (S : Sx b ns nw s) (hk : (nm, NameKind.globalImplicit) ∈ names) (hv : (nm, .builtin f) ∈ BL)
    (h : wpAny (model prog w) A (spliced (backTo pos (starEach (e :: rest) env))) (fun vs s₁ => wpAny (model prog w) A (call (.builtin f) vs) Q E s₁) E s)
    (he : starEach (e :: rest) env = (false, eval e env) :: starEach rest env := by rfl) (hplain : (backTo pos (starEach rest env)).any (·.1) = false := by rfl) :
    wpAny (model prog w) A (eval (.Call (.Name nm np) (e :: rest) [] pos) env) Q E s :=
  Call_ (e_builtin Z V S hk hv (PyProof.Rows.callWith_builtin1 h he hplain))
theorem call_ty {f : String} {nm : Str} {e : Expr} {rest : List Expr} {Q : Value → Shared → Prop} (Z : Bs w b.heap) (V : Fn env names cs) (S : Sx b ns nw s) (hk : (nm, NameKind.globalImplicit) ∈ names) (hv : (nm, .type f) ∈ BL)
    (h : wpAny (model prog w) A (spliced (backTo pos (starEach (e :: rest) env))) (fun vs s₁ => wpAny (model prog w) A (call (.type f) vs) Q E s₁) E s)
    (he : starEach (e :: rest) env = (false, eval e env) :: starEach rest env := by rfl) (hplain : (backTo pos (starEach rest env)).any (·.1) = false := by rfl) :
    wpAny (model prog w) A (eval (.Call (.Name nm np) (e :: rest) [] pos) env) Q E s :=
  Call_ (e_builtin Z V S hk hv (PyProof.Rows.callWith_type1 h he hplain))
theorem ite_t {c : Bool} {P R : Prop} (h : P) (hc : c = true) : if c = true then P else R := by rw [if_pos hc]; exact h
theorem ite_f {c : Bool} {P R : Prop} (h : R) (hc : c = false) : if c = true then P else R := by rw [if_neg (by rw [hc]; decide)]; exact h
theorem ite_of {c : Bool} {P R : Prop} (ht : c = true → P) (hf : c = false → R) : if c = true then P else R := by
  cases c
  · rw [if_neg (by decide)]; exact hf rfl
  · rw [if_pos rfl]; exact ht rfl
end

end
section
/-- the frame on top -/
def Tp (A : Around) (env : Env) : Prop := (∃ outer, A.frames = some (env :: outer)) ∧ env.frame = some env.locals
theorem Ar.tp {A : Around} {n : Nat} {Ls : List Addr} {env : Env} (a : Ar A n Ls) (hf : env.frame = some env.locals) : Tp (A.deeper env) env := let ⟨es, h, _⟩ := a.frs; ⟨⟨es, Around.frames_deeper h⟩, hf⟩
/-- a frame is left: its namespace goes -/
def LeaveX (b : Shared) (ns : List (Addr × Vars)) (Q : Value → Shared → Prop) (v : Value) (s' : Shared) : Prop :=
  ∃ x nw', Sx b (x :: ns) nw' s' ∧ (Sx b ns nw' s' → Q v s')

section
variable {prog : Program} {w : World} {A : Around} {E : Value → Shared → Prop} {s : Shared} {b : Shared} {ns : List (Addr × Vars)} {nw nw' : List (Addr × Sh)} {n : Nat} {env : Env} {names : List (Str × NameKind)}

theorem LeaveX.intro {Q : Value → Shared → Prop} {v : Value} {s' : Shared} {x : Addr × Vars} {nw' : List (Addr × Sh)} (S : Sx b (x :: ns) nw' s') (h : Sx b ns nw' s' → Q v s') : LeaveX b ns Q v s' := ⟨x, nw', S, h⟩
theorem LeaveX.ret {Q : Value → Shared → Prop} {v : Value} {s' : Shared} {x : Addr × Vars} {nw' : List (Addr × Sh)} (S : Sx b (x :: ns) nw' s') (h : Sx b ns nw' s' → Q v s') : (fun fl s' => LeaveX b ns Q (retOf fl) s') (.ret v) s' := ⟨x, nw', S, h⟩
theorem Sx.pop {x : Addr × Vars} (S : Sx b (x :: ns) nw s) : Sx b ns nw s := ⟨S.st.pop, S.g, S.o⟩

/-- the frame's environment, its exceptions -/
theorem call_fnR {name qual : Str} {params : Arguments} {body : List Stmt} {scope : Scope} {cl : List (Str × Addr)} {dV kV doc pm cdv ct oc : Value} {an od : Option Addr} {osl : Array (Option Value)} {f : Addr} {pos : List Value} {kw : List (Str × Value)} {R : Result → Shared → Prop}
    (l0 : Vars) (binds : List (Str × Value)) (Z : Bs w b.heap) (S : Sx b ns nw s) (a : Ar A (n + 1) (ns.map (·.1)))
    (ho : (hd.heap_1 w.params).lookup f = some ⟨oc, od, .func (fnX name qual params body scope cl dV kV doc pm an cdv ct), osl⟩) (hcd : codeIn (hd.heap_1 w.params) cdv qual = true)
    (hbind : BindsTo s (fnX name qual params body scope cl dV kV doc pm an cdv ct) ⟨pos, kw⟩ binds) (hsc : ScOk scope.names) (hcell : ∀ x ∈ scope.names, x.2 ≠ .cell)
    (hkeys : l0.map (·.1) = localKeys scope.names) (hvals : ∀ p ∈ l0, binds.reverse.lookup p.1 = p.2) (hloc : ∀ y ∈ binds, (y.1, NameKind.local) ∈ scope.names)
    (hco : scope.isCoroutine = false) (hgen : scope.isGenerator = false) (hk : scope.kind = .function)
    (h : ∀ A' env s', Fn env scope.names cl → Tp A' env → Ar A' n (env.locals :: ns.map (·.1)) → Sx b ((env.locals, l0) :: ns) nw s' →
      wpAny (model prog w) A' (execs body env) (fun fl s' => LeaveX b ns (fun v s' => R (.ok (.ret v)) s') (retOf fl) s') (Lv prog w A' env fun e s' => R (.error e) s') s') :
    codeAny (model prog w) A (.call (.ref f) ⟨pos, kw⟩) R s := by
  refine call_def l0 binds Z S.st a ho hcd hbind hsc hcell hkeys hvals hloc hco hgen hk fun L h₁ tk S₁ a₁ => ?_
  refine wpAny_mono (h _ (envX qual scope L f cdv cl) { s with heap := h₁, toks := tk } ⟨hk, rfl, hsc, rfl, rfl, rfl, by unfold interactive envX; rw [hk]; rfl⟩ (a.tp rfl) a₁ ⟨S₁, S.g, S.o⟩) (fun fl s' q => ?_) fun _ _ q => q
  obtain ⟨x, nw', S', k⟩ := q
  exact ⟨x, nw', S'.st, fun S'' => k ⟨S'', S'.g, S'.o⟩⟩
theorem call_fn {name qual : Str} {params : Arguments} {body : List Stmt} {scope : Scope} {cl : List (Str × Addr)} {dV kV doc pm cdv ct oc : Value} {an od : Option Addr} {osl : Array (Option Value)} {f : Addr} {pos : List Value} {kw : List (Str × Value)} {Q : Value → Shared → Prop}
    (l0 : Vars) (binds : List (Str × Value)) (Z : Bs w b.heap) (S : Sx b ns nw s) (a : Ar A (n + 1) (ns.map (·.1)))
    (ho : (hd.heap_1 w.params).lookup f = some ⟨oc, od, .func (fnX name qual params body scope cl dV kV doc pm an cdv ct), osl⟩) (hcd : codeIn (hd.heap_1 w.params) cdv qual = true)
    (hbind : BindsTo s (fnX name qual params body scope cl dV kV doc pm an cdv ct) ⟨pos, kw⟩ binds) (hsc : ScOk scope.names) (hcell : ∀ x ∈ scope.names, x.2 ≠ .cell)
    (hkeys : l0.map (·.1) = localKeys scope.names) (hvals : ∀ p ∈ l0, binds.reverse.lookup p.1 = p.2) (hloc : ∀ y ∈ binds, (y.1, NameKind.local) ∈ scope.names)
    (hco : scope.isCoroutine = false) (hgen : scope.isGenerator = false) (hk : scope.kind = .function)
    (h : ∀ A' env s', Fn env scope.names cl → Tp A' env → Ar A' n (env.locals :: ns.map (·.1)) → Sx b ((env.locals, l0) :: ns) nw s' →
      wpAny (model prog w) A' (execs body env) (fun fl s' => LeaveX b ns Q (retOf fl) s') (Lv prog w A' env E) s') :
    wpAny (model prog w) A (call (.ref f) pos kw) Q E s :=
  wpAny_call (call_fnR l0 binds Z S a ho hcd hbind hsc hcell hkeys hvals hloc hco hgen hk h)
theorem call_fnCR {name qual : Str} {params : Arguments} {body : List Stmt} {scope : Scope} {dV kV doc pm cdv ct oc : Value} {an od : Option Addr} {osl : Array (Option Value)} {f : Addr} {pos : List Value} {kw : List (Str × Value)} {R : Result → Shared → Prop}
    (l0 c0 : Vars) (binds : List (Str × Value)) (Z : Bs w b.heap) (S : Sx b ns nw s) (a : Ar A (n + 1) (ns.map (·.1)))
    (ho : (hd.heap_1 w.params).lookup f = some ⟨oc, od, .func (fnX name qual params body scope [] dV kV doc pm an cdv ct), osl⟩) (hcd : codeIn (hd.heap_1 w.params) cdv qual = true)
    (hbind : BindsTo s (fnX name qual params body scope [] dV kV doc pm an cdv ct) ⟨pos, kw⟩ binds) (hsc : ScOk scope.names)
    (hkind : (binds.all fun y => scope.names.lookup y.1 == some .local || scope.names.lookup y.1 == some .cell) = true)
    (hkeys : l0.map (·.1) = localKeys scope.names) (hvals : ∀ p ∈ l0, bindL (fun z => scope.names.lookup z) binds (fun _ => none) p.1 = p.2)
    (hck : (cellsFrom 0 scope.names []).map (·.1) = c0.map (·.1)) (hcn : (c0.map (·.1)).Nodup) (hcv : ∀ p ∈ c0, bindC (fun z => scope.names.lookup z) binds (fun _ => none) p.1 = p.2)
    (hco : scope.isCoroutine = false) (hgen : scope.isGenerator = false) (hk : scope.kind = .function)
    (h : ∀ A' env s' (cs : List (Str × Addr)), cs.map (·.1) = c0.map (·.1) → env.code = cdv → env.qual = qual ++ Str.ofString ".<locals>." → Fn env scope.names cs → Tp A' env → Ar A' n (env.locals :: ns.map (·.1)) → Sx b ((env.locals, l0) :: ns) (cellEntries cs c0 ++ nw) s' →
      wpAny (model prog w) A' (execs body env) (fun fl s' => LeaveX b ns (fun v s' => R (.ok (.ret v)) s') (retOf fl) s') (Lv prog w A' env fun e s' => R (.error e) s') s') :
    codeAny (model prog w) A (.call (.ref f) ⟨pos, kw⟩) R s := by
  refine call_defC l0 c0 binds Z S.st a ho hcd hbind hsc hkind hkeys hvals hck hcn hcv hco hgen hk fun L h₁ tk cs hcs S₁ a₁ => ?_
  refine wpAny_mono (h _ (envX qual scope L f cdv cs) { s with heap := h₁, toks := tk } cs hcs rfl rfl ⟨hk, rfl, hsc, rfl, rfl, rfl, by unfold interactive envX; rw [hk]; rfl⟩ (a.tp rfl) a₁ ⟨S₁, S.g, S.o⟩) (fun fl s' q => ?_) fun _ _ q => q
  obtain ⟨x, nw', S', k⟩ := q
  exact ⟨x, nw', S'.st, fun S'' => k ⟨S'', S'.g, S'.o⟩⟩
theorem call_fnC {name qual : Str} {params : Arguments} {body : List Stmt} {scope : Scope} {dV kV doc pm cdv ct oc : Value} {an od : Option Addr} {osl : Array (Option Value)} {f : Addr} {pos : List Value} {kw : List (Str × Value)} {Q : Value → Shared → Prop}
    (l0 c0 : Vars) (binds : List (Str × Value)) (Z : Bs w b.heap) (S : Sx b ns nw s) (a : Ar A (n + 1) (ns.map (·.1)))
    (ho : (hd.heap_1 w.params).lookup f = some ⟨oc, od, .func (fnX name qual params body scope [] dV kV doc pm an cdv ct), osl⟩) (hcd : codeIn (hd.heap_1 w.params) cdv qual = true)
    (hbind : BindsTo s (fnX name qual params body scope [] dV kV doc pm an cdv ct) ⟨pos, kw⟩ binds) (hsc : ScOk scope.names)
    (hkind : (binds.all fun y => scope.names.lookup y.1 == some .local || scope.names.lookup y.1 == some .cell) = true)
    (hkeys : l0.map (·.1) = localKeys scope.names) (hvals : ∀ p ∈ l0, bindL (fun z => scope.names.lookup z) binds (fun _ => none) p.1 = p.2)
    (hck : (cellsFrom 0 scope.names []).map (·.1) = c0.map (·.1)) (hcn : (c0.map (·.1)).Nodup) (hcv : ∀ p ∈ c0, bindC (fun z => scope.names.lookup z) binds (fun _ => none) p.1 = p.2)
    (hco : scope.isCoroutine = false) (hgen : scope.isGenerator = false) (hk : scope.kind = .function)
    (h : ∀ A' env s' (cs : List (Str × Addr)), cs.map (·.1) = c0.map (·.1) → env.code = cdv → env.qual = qual ++ Str.ofString ".<locals>." → Fn env scope.names cs → Tp A' env → Ar A' n (env.locals :: ns.map (·.1)) → Sx b ((env.locals, l0) :: ns) (cellEntries cs c0 ++ nw) s' →
      wpAny (model prog w) A' (execs body env) (fun fl s' => LeaveX b ns Q (retOf fl) s') (Lv prog w A' env E) s') :
    wpAny (model prog w) A (call (.ref f) pos kw) Q E s :=
  wpAny_call (call_fnCR l0 c0 binds Z S a ho hcd hbind hsc hkind hkeys hvals hck hcn hcv hco hgen hk h)
end

abbrev GF : List (Str × Value) := [((Str.ofString "_law_next"), .ref 685), ((Str.ofString "_law_heard"), .ref 692), ((Str.ofString "_law_lists_right"), .ref 697), ((Str.ofString "_law_exports_right"), .ref 704), ((Str.ofString "_law_instance_right"), .ref 709), ((Str.ofString "_law_made_right"), .ref 716), ((Str.ofString "_law_host_right"), .ref 721), ((Str.ofString "_law_fits"), .ref 728), ((Str.ofString "_law_do_fit"), .ref 733), ((Str.ofString "Misused"), .ref 63), ((Str.ofString "Sizes"), .ref 84), ((Str.ofString "is_ref"), .ref 95), ((Str.ofString "bits_of"), .ref 102), ((Str.ofString "does_fit"), .ref 121), ((Str.ofString "do_fit"), .ref 126), ((Str.ofString "of_sort"), .ref 133), ((Str.ofString "Memory"), .ref 234), ((Str.ofString "Table"), .ref 325), ((Str.ofString "HostFunc"), .ref 360), ((Str.ofString "Instance"), .ref 423), ((Str.ofString "Store"), .ref 557), ((Str.ofString "Module"), .ref 674)]
theorem gf_ok {w : World} : ∀ p ∈ GF, p ∈ GL ∧ ∀ f, p.2 = .ref f → keepIn (hd.heap_1 w.params) (.ref f) = true := by
  unfold GF GL
  repeat (first | exact List.forall_mem_nil _ | (refine List.forall_mem_cons.mpr ⟨⟨?_, fun f e => (by cases e; k_is)⟩, ?_⟩; · repeat (first | exact List.mem_cons_self | refine List.mem_cons_of_mem _ ?_)))
section
variable {prog : Program} {w : World} {A : Around} {E : Value → Shared → Prop} {s : Shared} {b : Shared} {ns : List (Addr × Vars)} {nw nw' : List (Addr × Sh)} {n : Nat} {env : Env} {names : List (Str × NameKind)} {cs : List (Str × Addr)} {nm : Str} {pos np : Pos}
theorem call_g {f : Addr} {nm : Str} {e : Expr} {rest : List Expr} {Q : Value → Shared → Prop} (Z : Bs w b.heap) (V : Fn env names cs) (S : Sx b ns nw s) (hk : (nm, NameKind.globalImplicit) ∈ names) (hv : (nm, .ref f) ∈ GF)
    (h : wpAny (model prog w) A (spliced (backTo pos (starEach (e :: rest) env))) (fun vs s₁ => (hd.heap_1 w.params).In s₁.heap ∧ wpAny (model prog w) A (call (.ref f) vs) Q E s₁) E s)
    (he : starEach (e :: rest) env = (false, eval e env) :: starEach rest env) (hplain : (backTo pos (starEach rest env)).any (·.1) = false) :
    wpAny (model prog w) A (eval (.Call (.Name nm np) (e :: rest) [] pos) env) Q E s :=
  call_gl Z V S hk (gf_ok (w := w) _ hv).1 ((gf_ok _ hv).2 _ rfl) h he hplain
end

end
section
/-! instances: a dict of fields -/
inductive Ent : List DictEntry → List (Str × Value) → Prop
  | nil : Ent [] []
  | cons {es l} (hsh : Int) (t : Tok) (k : Str) (v : Value) : Ent es l → Ent (⟨hsh, .str k t, v⟩ :: es) ((k, v) :: l)
inductive PutF (x : Str) (v : Value) : List (Str × Value) → List (Str × Value) → Prop
  | nil : PutF x v [] [(x, v)]
  | head {o r} : PutF x v ((x, o) :: r) ((x, v) :: r)
  | tail {p r r'} : (p.1 == x) = false → PutF x v r r' → PutF x v (p :: r) (p :: r')
theorem Ent.find {nm : Str} {v : Value} {es : List DictEntry} {l : List (Str × Value)} (h : Ent es l) (hv : l.lookup nm = some v) : ∃ e, es.find? (·.key.isStr nm) = some e ∧ e.val = v := by
  induction h with
  | nil => cases hv
  | cons hsh t k u _ ih =>
    rw [List.lookup_cons] at hv
    rw [List.find?_cons]
    dsimp only
    rw [show (Value.str k t).isStr nm = (k == nm) from rfl]
    cases q : k == nm with
    | true =>
      have : (nm == k) = true := by rw [beq_iff_eq] at q ⊢; exact q.symm
      rw [this] at hv
      cases hv
      exact ⟨_, rfl, rfl⟩
    | false =>
      have : (nm == k) = false := by
        rw [beq_eq_false_iff_ne] at q ⊢; exact q.symm
      rw [this] at hv
      exact ih hv
theorem Ent.miss {nm : Str} {es : List DictEntry} {l : List (Str × Value)} (h : Ent es l) (hv : l.lookup nm = none) : es.find? (·.key.isStr nm) = none := by
  induction h with
  | nil => rfl
  | cons hsh t k u _ ih =>
    rw [List.lookup_cons] at hv
    rw [List.find?_cons]
    dsimp only
    rw [show (Value.str k t).isStr nm = (k == nm) from rfl]
    cases q : k == nm with
    | true =>
      have : (nm == k) = true := by rw [beq_iff_eq] at q ⊢; exact q.symm
      rw [this] at hv
      cases hv
    | false =>
      have : (nm == k) = false := by
        rw [beq_eq_false_iff_ne] at q ⊢; exact q.symm
      rw [this] at hv
      exact ih hv
theorem Ent.noRef {es : List DictEntry} {l : List (Str × Value)} (h : Ent es l) : es.any (·.refKey) = false := by
  induction h with
  | nil => rfl
  | cons hsh t k u _ ih => rw [List.any_cons, ih]; rfl
theorem Ent.get {nm : Str} {v : Value} {es : List DictEntry} {l : List (Str × Value)} (h : Ent es l) (hv : l.lookup nm = some v) : getL nm es = some (some v) := by
  obtain ⟨e, he, rfl⟩ := h.find hv
  unfold getL; rw [he]
theorem Ent.not {nm : Str} {es : List DictEntry} {l : List (Str × Value)} (h : Ent es l) (hv : l.lookup nm = none) : getL nm es = some none := by
  unfold getL; rw [h.miss hv, h.noRef]; rfl
theorem Ent.some {nm : Str} {es : List DictEntry} {l : List (Str × Value)} (h : Ent es l) : (getL nm es).isSome = true := by
  cases q : l.lookup nm with
  | none => rw [h.not q]; rfl
  | some v => rw [h.get q]; rfl
theorem Ent.put {nm : Str} {v : Value} {hsh : Int} {t : Tok} {es : List DictEntry} {l l' : List (Str × Value)} (h : Ent es l) (P : PutF nm v l l') : Ent (putL nm hsh (.str nm t) v es) l' := by
  induction P generalizing es with
  | nil => cases h; exact .cons _ _ _ _ .nil
  | head =>
    cases h with
    | cons hs' t' k u h' =>
      unfold putL
      dsimp only
      rw [if_pos (show (Value.str nm t').isStr nm = true from beq_self_eq_true nm)]
      exact .cons _ _ _ _ h'
  | @tail p r r' hne P ih =>
    cases h with
    | cons hs' t' k u h' =>
      unfold putL
      dsimp only
      rw [if_neg (show ¬ (Value.str k t').isStr nm = true from by show ¬ (k == nm) = true; rw [hne]; decide)]
      exact .cons _ _ _ _ (ih h')
theorem Ent.length {es : List DictEntry} {l : List (Str × Value)} (h : Ent es l) : es.length = l.length := by
  induction h with
  | nil => rfl
  | cons _ _ _ _ _ ih => simp [ih]
theorem PutF.len {x : Str} {v : Value} {l l' : List (Str × Value)} (P : PutF x v l l') : l'.length ≤ l.length + 1 := by
  induction P with
  | nil => simp
  | head => simp
  | tail _ _ ih => simp; omega
def aFld (l : List (Str × Value)) : Sh := fun o => ∃ es n, o = dictOf es n ∧ Ent es l
def aIns (C dx : Addr) : Sh := anObj (instObj C dx)

section
variable {prog : Program} {w : World} {A : Around} {E : Value → Shared → Prop} {s : Shared} {b : Shared} {ns : List (Addr × Vars)} {nw nw' : List (Addr × Sh)} {n : Nat} {env : Env} {names : List (Str × NameKind)} {x dx C f : Addr} {l l' : List (Str × Value)} {nm : Str} {v : Value}

theorem Sx.inst (S : Sx b ns nw s) (hx : (x, aIns C dx) ∈ nw) (hdx : (dx, aFld l) ∈ nw) : ∃ es n, InstAt s.heap x (instObj C dx) C (some (dictOf es n)) ∧ s.heap.get? dx = some (dictOf es n) ∧ Ent es l := by
  obtain ⟨⟨o, ho, es, n, rfl, he⟩, _⟩ := S.st.objs _ hdx
  exact ⟨es, n, ⟨S.st.obj hx, rfl, rfl, ho⟩, ho, he⟩

theorem a_get {Q : Value → Shared → Prop} {ex : Bool} (Z : Bs w b.heap) (S : Sx b ns nw s) (hx : (x, aIns C dx) ∈ nw) (hdx : (dx, aFld l) ∈ nw) (hv : l.lookup nm = some v)
    (hg : findIn (hd.heap_1 w.params) (.ref C) "__getattribute__" = some (some (.builtin "object.__getattribute__"))) (hdi : hasDictIn (hd.heap_1 w.params) C = true) (hf : findIn (hd.heap_1 w.params) (.ref C) nm = some none)
    (hh : handedIn v = true) (h : ∀ s', Sx b ns nw s' → Q v s') : wpAny (model prog w) A (getAttr (.ref x) nm ex) Q E s := by
  obtain ⟨es, n, I, ho, he⟩ := S.inst hx hdx
  exact get_value (S.K Z) I hg (findObj_own hdi hf rfl (he.get hv)) hh (h _ S.tok)

theorem a_set {Q : Unit → Shared → Prop} (Z : Bs w b.heap) (S : Sx b ns nw s) (hx : (x, aIns C dx) ∈ nw) (P : PutO dx (aFld l) (aFld l') nw nw') (hv : PutF nm v l l') (hlen : l.length ≤ 900)
    (hs : findIn (hd.heap_1 w.params) (.ref C) "__setattr__" = some (some (.builtin "object.__setattr__"))) (hp : plainOver (hd.heap_1 w.params) C = true) (ht : takerIn (hd.heap_1 w.params) C nm = some none)
    (hdi : hasDictIn (hd.heap_1 w.params) C = true) (h : ∀ s', Sx b ns nw' s' → Q () s') : wpAny (model prog w) A (setAttr (.ref x) nm v) Q E s := by
  obtain ⟨es, n, I, ho, he⟩ := S.inst hx P.mem
  refine set_plain (S.K Z) I hs (osa_open (S.tok.K Z) I hp ht fun bb => ?_)
  obtain ⟨cd, hc, hd'⟩ := any_some hdi
  have hup := Heap.get?_update_self (Obj.putName nm (PyData.keyHash w.params nm) (.str nm (s.toks + 1)) v) ho (by rw [putName_dict]; rfl)
  have he' : Ent (putL nm (PyData.keyHash w.params nm) (.str nm (s.toks + 1)) v es) l' := he.put hv
  rw [putName_dict] at hup
  refine wpAny_bind (wpAny_pure (wpAny_bind (wpAny_bind (wpAny_loadPart I.at_ (wpAny_bind ((looks_clsIn (S.tok.K Z) hc).here ?_))))))
  rw [hd']
  refine wpAny_pure (a := some dx) (wpAny_bind (wpAny_pure (wpAny_bind ?_)))
  unfold nsSet
  refine wpAny_bind (wpAny_bind (wpAny_askSetting (wpAny_pure (wpAny_bind (wpAny_mkText (wpAny_bind (wpAny_loadPart ho ?_)))))))
  dsimp only
  have hr : es.toArray.any (·.refKey) = false := by rw [← Array.any_toList]; exact he.noRef
  rw [aRefKeyMayBeTheName_at, hr, Bool.and_false]
  refine wpAny_updatePart ho (wpAny_bind (wpAny_lookBehind hup (pastItsLine_dict (by rw [List.size_toArray, he'.length, sizeLine_eq]; have : l'.length ≤ l.length + 1 := hv.len; omega)) (wpAny_pure ?_)))
  exact h _ ⟨S.st.upd P (fun c hc => Heap.get?_update_other _ _ (Ne.symm hc)) ⟨_, hup, _, _, rfl, he'⟩, S.g, S.o⟩

theorem Ar.under {c : Code} {Ls : List Addr} (a : Ar A (n + 2) Ls) (hw : c.weight ≤ 2) (hu : c.cUnits ≤ 40) (he : c.envs = []) : Ar (A.under c) n Ls := by
  refine ⟨a.hd, ?_, ?_, ?_⟩
  · have := a.dep; show A.depth + c.weight + n < _; omega
  · have := a.uni; show A.units + c.cUnits + 40 * n + 400 < _; omega
  · obtain ⟨es, h1, h2⟩ := a.frs
    refine ⟨es, ?_, h2⟩
    show pushEnvs c.envs A.frames = some es
    rw [he]; exact h1
theorem tc_weight (C : Addr) (vs : List Value) : (Code.builtin "type.__call__" ⟨.ref C :: vs, []⟩).weight ≤ 2 := by
  exact Nat.le_of_ble_eq_true (by kernel_rfl)
theorem tc_units (args : Args) : (Code.builtin "type.__call__" args).cUnits ≤ 40 := by
  exact Nat.le_of_ble_eq_true (by kernel_rfl)
/-- an object is made -/
theorem make {vs : List Value} {fI : Addr} {Q : Value → Shared → Prop} (Z : Bs w b.heap) (S : Sx b ns nw s) (a : Ar A (n + 2) (ns.map (·.1))) (hm : makesIn (hd.heap_1 w.params) C = true)
    (hi : findIn (hd.heap_1 w.params) (.ref C) "__init__" = some (some (.ref fI))) (hf : typeIn (hd.heap_1 w.params) (.ref fI) = some (.type "function"))
    (h : ∀ A' x dx s', Ar A' n (ns.map (·.1)) → Sx b ns ((x, aIns C dx) :: (dx, aFld []) :: nw) s' →
      codeAny (model prog w) A' (.call (.ref fI) ⟨.ref x :: vs, []⟩) (fun r s' => match r with | .ok (.ret v) => v = .none ∧ Q (.ref x) s' | .ok _ => False | .error e => E e s') s') :
    wpAny (model prog w) A (call (.ref C) vs) Q E s := by
  refine wpAny_call ?_
  obtain ⟨hh, g, d, t, os⟩ := s
  have S1 := S.st.alloc (o := emptyDict) (x := aFld []) ⟨[], _, rfl, .nil⟩
  have S2 := S1.alloc (o := instObj C hh.objs.size) (x := aIns C hh.objs.size) rfl
  rw [Heap.size_push] at S2
  refine make_core (makes_of (S.K Z) hm) (looks_findIn (S.K Z) hi) (fun self => bind_fn (S.K Z) self hf) (.inl rfl) (codeAny_mono (h _ (hh.objs.size + 1) hh.objs.size _ (a.under (tc_weight _ _) (tc_units _) ?_) ⟨S2, S.g, S.o⟩) fun r s' q => ?_)
  · rfl
  · rcases r with e | (v | _ | _ | _) <;> exact q

theorem m_fn {Q : Value × List Value → Shared → Prop} {pl : Sem Bool} (Z : Bs w b.heap) (S : Sx b ns nw s) (hx : (x, aIns C dx) ∈ nw) (hdx : (dx, aFld l) ∈ nw) (hv : l.lookup nm = none)
    (hga : findIn (hd.heap_1 w.params) (.ref C) "__getattribute__" = some (some (.builtin "object.__getattribute__"))) (hk : findIn (hd.heap_1 w.params) (.ref C) "__getattr__" = some none)
    (hf : findIn (hd.heap_1 w.params) (.ref C) nm = some (some (.ref f))) (ht : typeIn (hd.heap_1 w.params) (.ref f) = some (.type "function")) (h : Q (.ref f, [.ref x]) s) :
    wpAny (model prog w) A (getMethod (.ref x) nm pl) Q E s := by
  obtain ⟨es, n, I, ho, he⟩ := S.inst hx hdx
  exact method_fn (S.K Z) I hga hk hf ht (by show (getL nm es).map (·.isSome) = _; rw [he.not hv]; rfl) h
end

end
section
/-! Misused: made, told why -/
abbrev exObj (dict : Option Addr) (a0 tb : Value) : Obj := { cls := .ref 63, dict := dict, data := .fields #[a0, tb, .none, .none, .bool false, .none] }
abbrev misObj : Obj := excClassObj (Str.ofString "Misused") (Str.ofString "Misused") 63 62 [.ref 38] [.ref 38, .type "Exception", .type "BaseException", .type "object"] true [] [] false none none (some (.ref 54)) none (some (.str (Str.ofString "Misused") 241)) (some (.str (Str.ofString "Misused") 249)) (some (.bool true)) "Exception.__new__"
theorem mis_at {w : World} : (hd.heap_1 w.params).lookup 63 = some misObj := by k_is

section
variable {prog : Program} {w : World} {A : Around} {E : Value → Shared → Prop} {h : Heap} {g : Array GenState} {d : Drawn} {t : Nat} {os : OsState} {rest : List Value}

theorem mis_check_new {M : Model} {Q : Unit → Shared → Prop} (hC : h.get? 63 = some misObj) (hq : Q () ⟨h, g, d, t, os⟩) : wpAny M A (checkBuiltinCall "Exception.__new__" ⟨.ref 63 :: rest, []⟩) Q E ⟨h, g, d, t, os⟩ := by
  have F := PySem.F.excBase_Exception
  have hcont : ((Value.ref 63) :: [.ref 38, .type "Exception", .type "BaseException", .type "object"]).contains (.type "Exception") = true := by decide
  have hstar := F.noStar
  simp only [checkBuiltinCall, F.newKind, F.newSplit, F.newRow]
  repeat (first | refine wpAny_loadPart_at hC ?_ | (refine wpAny_isSubtype_exc hC ?_; rw [hcont]) | refine wpAny_staticBase_exc hC ?_ | refine wpAny_madeBy_exc hC ?_ | simp only [bne_self_eq_false, Bool.false_eq_true, if_false] | wp_step)
  exact hq
theorem mis_new {R : Result → Shared → Prop} (hC : h.get? 63 = some misObj)
    (hq : R (.ok (.ret (.ref (h.objs.size + 1)))) ⟨(h.push { cls := .type "tuple", data := .seq rest.toArray }).push (exObj none (.ref h.objs.size) .none), g, d, t, os⟩) (hrest : rest.length ≤ sizeLine) :
    codeAny (model prog w) A (.builtin "Exception.__new__" ⟨.ref 63 :: rest, []⟩) R ⟨h, g, d, t, os⟩ := by
  have F := PySem.F.excBase_Exception
  have hends := F.ends
  have hcB : ((Value.ref 63) :: [.ref 38, .type "Exception", .type "BaseException", .type "object"]).contains (.type "Exception") = true := by decide
  have hcA : ((Value.ref 63) :: [.ref 38, .type "Exception", .type "BaseException", .type "object"]).contains (.type "AttributeError") = false := by decide
  have hcN : ((Value.ref 63) :: [.ref 38, .type "Exception", .type "BaseException", .type "object"]).contains (.type "NameError") = false := by decide
  refine codeAny_builtinAt F.entry ?_
  unfold Builtin.«BaseException.__new__»
  refine PySem.wpAt_bind ?_
  show PySem.wpAt _ _ _ (stack >>= _) _ _ _
  refine PySem.wpAt_bind (PySem.wpAt_stack fun p below => PySem.wpAt_of_wpAny ?_)
  wp_walk
  refine PySem.wpAt_of_wpAny ?_
  rw [F.owner]
  repeat (first | with_reducible refine wpAny_madeHere_exc F.canon hC ?_ | with_reducible refine wpAny_loadPart_at hC ?_ | (with_reducible refine wpAny_isSubtype_exc hC ?_; first | rw [hcB] | rw [hcA] | rw [hcN]) | wp_step)
  show R _ _
  rw [Heap.size_push]
  exact hq

theorem mis_type_call {w : World} {Q : Fin → Shared → Prop} (X : (hd.heap_1 w.params).In h) (hrest : rest.length ≤ sizeLine)
    (hq : wpAny (model prog w) A (call (.ref 35) (.ref (h.objs.size + 1) :: rest)) (fun r s' => r = .none ∧ Q (.done (.ret (.ref (h.objs.size + 1)))) s') E ⟨(h.push { cls := .type "tuple", data := .seq rest.toArray }).push (exObj none (.ref h.objs.size) .none), g, d, t, os⟩) :
    wpAny (model prog w) A (Builtin.«type.__call__» ⟨.ref 63 :: rest, []⟩) Q E ⟨h, g, d, t, os⟩ := by
  have hC := X _ _ mis_at
  have F := PySem.F.excBase_Exception
  repeat (first | with_reducible refine wpAny_loadPart_at hC ?_ | with_reducible refine wpAny_madeBy_exc hC ?_ | wp_step)
  refine codeAny_call_builtin_code (Code.quiet_builtin _ F.quiet) (mis_check_new hC ?_)
  refine mis_new hC ?_ hrest
  show wpAny _ _ _ _ _ _
  have hk : ∀ b o, h.get? b = some o → ((h.push { cls := .type "tuple", data := .seq rest.toArray }).push (exObj none (.ref h.objs.size) .none)).get? b = some o := fun b o e => Heap.get?_push_of_some _ (Heap.get?_push_of_some _ e)
  have hC₁ := hk _ _ hC
  have hget : ((h.push { cls := .type "tuple", data := .seq rest.toArray }).push (exObj none (.ref h.objs.size) .none)).get? (h.objs.size + 1) = some (exObj none (.ref h.objs.size) .none) := by heap_get
  have hcC : ((Value.ref 63) :: [.ref 38, .type "Exception", .type "BaseException", .type "object"]).contains (.ref 63) = true := by decide
  unfold isInstance
  repeat (first | with_reducible refine wpAny_loadPart_at hget ?_ | (with_reducible refine wpAny_isSubtype_exc hC₁ ?_; rw [hcC]) | wp_step)
  show wpAny _ _ (typeLookup (.ref 63) _) _ _ _
  refine (looks_findIn (r := some (.ref 35)) (X.keeps hk) (by k_is)).at ?_
  refine wpAny_holding (wpAny_bind ((bind_fn (X.keeps hk) (f := 35) _ (by k_is)).at ?_))
  refine wpAny_bind (wpAny_mono hq (fun r s' hr => ?_) fun _ _ x => x)
  obtain ⟨rfl, hQ⟩ := hr
  wp_walk
  exact hQ

theorem mis_call {Q : Value → Shared → Prop} (X : (hd.heap_1 w.params).In h) (hrest : rest.length ≤ sizeLine)
    (hq : wpAny (model prog w) (A.under (.builtin "type.__call__" ⟨.ref 63 :: rest, []⟩)) (call (.ref 35) (.ref (h.objs.size + 1) :: rest)) (fun r s' => r = .none ∧ Q (.ref (h.objs.size + 1)) s') E ⟨(h.push { cls := .type "tuple", data := .seq rest.toArray }).push (exObj none (.ref h.objs.size) .none), g, d, t, os⟩) :
    wpAny (model prog w) A (call (.ref 63) rest) Q E ⟨h, g, d, t, os⟩ := by
  have hC := X _ _ mis_at
  have f1 := tc_lookup
  have f2 := tc_bind (.ref 63)
  have hT : (⟨h, g, d, t, os⟩ : Shared).TypeIs (.ref 63) "type" := ⟨_, hC, rfl⟩
  refine wpAny_call (codeAny_of_tree ?_)
  show wpAny _ _ (callAny (.ref 63) _) _ _ _
  repeat (any_goals (first | assumption | with_reducible refine wpAny_loadPart_at hC ?_ | wp_step))
  refine ⟨rfl, ?_⟩
  exact codeAny_call_builtin_at (Code.quiet_builtin _ (by decide +kernel)) entry_typeCall (wpAny_check_type_call_sub hC (mis_type_call X hrest hq))

theorem mis_check_init {M : Model} {e : Addr} {oe : Obj} {Q : Unit → Shared → Prop} (hC : h.get? 63 = some misObj) (he : h.get? e = some oe) (hcls : oe.cls = .ref 63) (hq : Q () ⟨h, g, d, t, os⟩) :
    wpAny M A (checkBuiltinCall "Exception.__init__" ⟨.ref e :: rest, []⟩) Q E ⟨h, g, d, t, os⟩ := by
  have F := PySem.F.excBase_Exception
  have hcB : ((Value.ref 63) :: [.ref 38, .type "Exception", .type "BaseException", .type "object"]).contains (.type "Exception") = true := by decide
  have hshort := F.noStar
  simp only [checkBuiltinCall, F.initKind, F.initSplit, F.initRow]
  repeat (first | (with_reducible refine wpAny_loadPart_at he ?_; rw [hcls]) | with_reducible refine wpAny_loadPart_at hC ?_ | (with_reducible refine wpAny_isSubtype_exc hC ?_; rw [hcB]) | wp_step)
  refine wpAny_onRaise ?_
  rw [show ∀ (a b : String) (n : Nat), Bind.check ⟨.positional, "*", "Exception", .self, [⟨"args", .varPos, false⟩]⟩ a b n (List.map (fun x => x.fst) ({ pos := Value.ref e :: rest } : Args).kw) = pure () from
    fun a b n => check_star_args _ _ _ _ _ _]
  exact wpAny_pure hq
theorem mis_base_init {e a0 : Addr} {dict : Option Addr} {Q : Value → Shared → Prop} (X : (hd.heap_1 w.params).In h) (he : h.get? e = some (exObj dict (.ref a0) .none)) (hrest : rest.length ≤ sizeLine)
    (hq : Q .none ⟨(h.push { cls := .type "tuple", data := .seq rest.toArray }).update e (Obj.mapFields (·.setIfInBounds 0 (.ref h.objs.size))), g, d, t, os⟩) :
    wpAny (model prog w) A (call (.builtin "Exception.__init__") (.ref e :: rest)) Q E ⟨h, g, d, t, os⟩ := by
  have F := PySem.F.excBase_Exception
  refine wpAny_call (codeAny_call_builtin F.init.plain F.initEntry (mis_check_init (X _ _ mis_at) he rfl ?_))
  wp_walk
  exact hq
end

end
section
section
variable {prog : Program} {w : World} {A : Around} {E : Value → Shared → Prop} {s : Shared} {b : Shared} {ns : List (Addr × Vars)} {nw nw' : List (Addr × Sh)} {n : Nat} {x : Str} {t : Tok} {e dx : Addr}

theorem exc_method {pl : Sem Bool} {Q : Value × List Value → Shared → Prop} (Z : Bs w b.heap) (S : Sx b ns nw s) (h : ∀ s', Sx b ns nw s' → Q (.builtin "Exception.__init__", []) s') : wpAny (model prog w) A (getMethod (.type "Exception") (Str.ofString "__init__") pl) Q E s := by
  have X := S.K Z
  have hstub : opaqueClassAbove (.type "Exception") = pure none := by
    unfold opaqueClassAbove; dsimp only; rw [show Manifest.isStub "Exception" = false from by kernel_rfl]; rfl
  have hg : findIn (hd.heap_1 w.params) (.type "type") "__getattribute__" = some (some (.builtin "type.__getattribute__")) := by k_is
  have L0 : Looks (model prog w) s.heap (typeOf (.type "Exception")) (.type "type") := Looks.of_pure (by kernel_rfl)
  unfold getMethod specialOf
  refine wpAny_bind (wpAny_bind (L0.here ((looks_findIn X hg).here ?_)))
  dsimp only
  rw [if_pos canon_tga]
  refine wpAny_bind (wpAny_mono (Q := fun v => Q (v, [])) (E := E) ?_ (fun _ _ z => wpAny_pure z) fun _ _ z => z)
  exact cls_open X (Looks.of_pure hstub) L0 hg (looks_hook X (r := none) (by rfl)) (by k_is) (by k_is : findCls (hd.heap_1 w.params) (.type "Exception") (.type "type") "__init__" = some (.val (.builtin "Exception.__init__")))
    (wpAny_pure (by show wpAny _ _ (handedOut _) _ _ _; rw [handedOut_of (by decide +kernel)]; exact wpAny_pure (h _ S.tok)))

def aExc (dict : Option Addr) (tb : Value) : Sh := fun o => ∃ a0 : Addr, o = exObj dict (.ref a0) tb
theorem mis_refuse (self : Value) : refuseLoop self "__setattr__" [.ref 63, .ref 38, .type "Exception", .type "BaseException", .type "object"] = pure () := by
  rw [refuseLoop_ref, refuseLoop_ref]
  kernel_rfl
theorem mis_cls {w : World} : ∃ cd, clsIn (hd.heap_1 w.params) 63 = some cd ∧ cd.hasDict = true ∧ cd.mro = [.ref 63, .ref 38, .type "Exception", .type "BaseException", .type "object"] := by
  unfold clsIn
  rw [mis_at]
  exact ⟨_, rfl, rfl, rfl⟩

theorem mis_set {v : Value} {Q : Unit → Shared → Prop} (Z : Bs w b.heap) (S : Sx b ns ((e, aExc none .none) :: nw) s) (h : ∀ dx s', Sx b ns ((e, aExc (some dx) .none) :: (dx, aFld [((Str.ofString "why"), v)]) :: nw) s' → Q () s') :
    wpAny (model prog w) A (setAttr (.ref e) (Str.ofString "why") v) Q E s := by
  have X := S.K Z
  obtain ⟨⟨o, he, a0, rfl⟩, _⟩ := S.st.objs _ (.head _)
  have I : InstAt s.heap e (exObj none (.ref a0) .none) 63 none := ⟨he, rfl, rfl, trivial⟩
  have SF := PySem.F.store_object
  obtain ⟨cd, hc, hd', hmro⟩ := mis_cls (w := w)
  refine set_plain X I (by k_is) ?_
  have X' := (S.tok (tk := s.toks + 1)).K Z
  have I' : InstAt ({ s with toks := s.toks + 1 } : Shared).heap e (exObj none (.ref a0) .none) 63 none := I
  have sub : Looks (model prog w) ({ s with toks := s.toks + 1 } : Shared).heap (isInstance (.ref e) (.type "object")) true := I'.type.andThen (looks_mroIn X' (by k_is))
  refine codeAny_call_builtin SF.slot.plain SF.entry (@check_slot (model prog w) _ _ _ "object.__setattr__" "object" "__setattr__" (.ref e) _ [] _ SF.kind SF.split sub (SF.args (.ref e) _ v) ?_)
  have hm : Looks (model prog w) ({ s with toks := s.toks + 1 } : Shared).heap (mroOf (.ref 63)) cd.mro := (looks_clsIn X' hc).andThen .now
  rw [osa_eq, refuse_eq]
  refine wpAny_bind (wpAny_bind (I'.type.here (wpAny_bind (hm.here ?_))))
  rw [hmro, mis_refuse]
  refine wpAny_pure (wpAny_bind (I'.type.here (wpAny_bind ((looks_findIn (r := none) X' (by k_is)).here (wpAny_bind (wpAny_pure ?_))))))
  have hE : (s.heap.push emptyDict).get? e = some (exObj none (.ref a0) .none) := Heap.get?_push_of_some _ he
  have hD : (s.heap.push emptyDict).get? s.heap.objs.size = some emptyDict := Heap.get?_push_size _ rfl
  have hne : s.heap.objs.size ≠ e := Nat.ne_of_gt (Heap.lt_size he)
  have hE1 := Heap.get?_update_self (fun o => { cls := o.cls, dict := some s.heap.objs.size, data := o.data, slots := o.slots }) hE rfl
  have hD1 : ((s.heap.push emptyDict).update e (fun o => { cls := o.cls, dict := some s.heap.objs.size, data := o.data, slots := o.slots })).get? s.heap.objs.size = some emptyDict := (Heap.get?_update_other _ _ (Ne.symm hne)).trans hD
  have hD2 := Heap.get?_update_self (Obj.putName (Str.ofString "why") (PyData.keyHash w.params (Str.ofString "why")) (.str (Str.ofString "why") (s.toks + 1)) v) hD1 (by rw [show emptyDict = dictOf [] 0 from rfl, putName_dict]; rfl)
  rw [show emptyDict = dictOf [] 0 from rfl, putName_dict] at hD2
  refine wpAny_bind (wpAny_pure (wpAny_bind (wpAny_bind (wpAny_loadPart I'.at_ (wpAny_bind ((looks_clsIn X' hc).here ?_))))))
  rw [hd']
  refine wpAny_bind (wpAny_alloc (wpAny_bind (wpAny_update hE ?_)))
  refine wpAny_pure (a := some _) (wpAny_bind (wpAny_pure (wpAny_bind ?_)))
  unfold nsSet
  refine wpAny_bind (wpAny_bind (wpAny_askSetting (wpAny_pure (wpAny_bind (wpAny_mkText (wpAny_bind (wpAny_loadPart hD1 ?_)))))))
  dsimp only
  rw [aRefKeyMayBeTheName_at, show (!(#[] : Array DictEntry).any (·.key.isStr (Str.ofString "why")) && (#[] : Array DictEntry).any (·.refKey)) = false from by simp]
  refine wpAny_updatePart hD1 (wpAny_bind (wpAny_lookBehind hD2 (pastItsLine_dict (by rw [List.size_toArray, sizeLine_eq]; show (1 : Nat) ≤ _; decide)) (wpAny_pure ?_)))
  have S1 : Sx b ns ((e, aExc (some s.heap.objs.size) .none) :: (s.heap.objs.size, aFld [((Str.ofString "why"), v)]) :: nw) { s with heap := ((s.heap.push emptyDict).update e (fun o => { cls := o.cls, dict := some s.heap.objs.size, data := o.data, slots := o.slots })).update s.heap.objs.size (Obj.putName (Str.ofString "why") (PyData.keyHash w.params (Str.ofString "why")) (.str (Str.ofString "why") (s.toks + 1)) v), toks := s.toks + 1 + 1 } := by
    have P1 := (S.st.alloc (o := emptyDict) (x := aFld []) ⟨[], _, rfl, .nil⟩)
    have P2 := P1.upd (a := e) (x := aExc none .none) (y := aExc (some s.heap.objs.size) .none) (.tail .head) (h' := (s.heap.push emptyDict).update e (fun o => { cls := o.cls, dict := some s.heap.objs.size, data := o.data, slots := o.slots })) (fun c hc => Heap.get?_update_other _ _ (Ne.symm hc)) ⟨_, hE1, a0, rfl⟩
    have P3 := P2.upd (a := s.heap.objs.size) (x := aFld []) (y := aFld [((Str.ofString "why"), v)]) .head (h' := ((s.heap.push emptyDict).update e (fun o => { cls := o.cls, dict := some s.heap.objs.size, data := o.data, slots := o.slots })).update s.heap.objs.size (Obj.putName (Str.ofString "why") (PyData.keyHash w.params (Str.ofString "why")) (.str (Str.ofString "why") (s.toks + 1)) v)) (fun c hc => Heap.get?_update_other _ _ (Ne.symm hc)) ⟨_, hD2, _, _, rfl, .cons _ _ _ _ .nil⟩
    exact ⟨P3.perm (List.Perm.swap ..), S.g, S.o⟩
  exact h _ _ S1
end

end
section
section
variable {prog : Program} {w : World} {A : Around} {E : Value → Shared → Prop} {s : Shared} {b : Shared} {ns : List (Addr × Vars)} {nw nw' : List (Addr × Sh)} {n : Nat} {x : Str} {t : Tok} {e dx : Addr} {env : Env}

theorem mis_raise {ex : Sem Value} {Q : Flow → Shared → Prop} (Z : Bs w b.heap) (hh : A.handled = none)
    (h : wpAny (model prog w) A ex (fun v s₁ => ∃ e dict nw', v = .ref e ∧ Sx b ns ((e, aExc dict .none) :: nw') s₁ ∧ E (.ref e) s₁) E s) : wpAny (model prog w) A (raiseStmt env (some ex) none) Q E s := by
  have hcB : ((Value.ref 63) :: [.ref 38, .type "Exception", .type "BaseException", .type "object"]).contains (.type "BaseException") = true := by decide
  unfold raiseStmt
  refine wpAny_bind (wpAny_mono h (fun v s₁ h₁ => ?_) fun _ _ x => x)
  obtain ⟨e, dict, nw', rfl, S1, hE⟩ := h₁
  obtain ⟨⟨o, he, a0, rfl⟩, _⟩ := S1.st.objs _ (.head _)
  have hC := (S1.K Z) _ _ mis_at
  obtain ⟨hp, g, d, tk, os⟩ := s₁
  repeat (first | with_reducible refine wpAny_loadPart_at he ?_ | with_reducible refine wpAny_loadPart_at hC ?_ | (with_reducible refine wpAny_isSubtype_exc hC ?_; rw [hcB]) | wp_step)
  exact wpAny_raiseNew_none hh hE

theorem x_raise {ex : Expr} {pos : Pos} {rest : List Stmt} {Q : Flow → Shared → Prop} (Z : Bs w b.heap) (_S : Sx b ns nw s) (hh : A.handled = none)
    (h : wpAny (model prog w) A (eval ex env) (fun v s₁ => ∃ e dict nw', v = .ref e ∧ Sx b ns ((e, aExc dict .none) :: nw') s₁ ∧ E (.ref e) s₁) E s) : wpAny (model prog w) A (execs (.Raise (some ex) none pos :: rest) env) Q E s := by
  refine wpAny_execs_cons ?_
  rw [arm_exec_Raise]
  first
    | exact wpAny_bind (wpAny_standAt (mis_raise Z hh (wpAny_bind (wpAny_mono h (fun v s₁ h₁ => wpAny_bind (wpAny_standAt (wpAny_pure h₁))) fun _ _ x => x))))
    | (simp only [evalOpt, Option.map]; exact wpAny_bind (wpAny_standAt (mis_raise Z hh (wpAny_bind (wpAny_mono h (fun v s₁ h₁ => wpAny_bind (wpAny_standAt (wpAny_pure h₁))) fun _ _ x => x)))))
    | (show wpAny _ A (do standAt pos; raiseStmt env (some (do let v ← eval ex env; standAt pos; pure v)) none) _ E s; exact wpAny_bind (wpAny_standAt (mis_raise Z hh (wpAny_bind (wpAny_mono h (fun v s₁ h₁ => wpAny_bind (wpAny_standAt (wpAny_pure h₁))) fun _ _ x => x)))))
end

end
section
def aTb (fl : Value) : Sh := fun o => ∃ ts, o.cls = .type "traceback" ∧ o.data = .fields ts ∧ ts[3]? = some fl

section
variable {M : Model} {prog : Program} {w : World} {A : Around} {E : Value → Shared → Prop} {s : Shared} {b : Shared} {ns : List (Addr × Vars)} {nw nw' : List (Addr × Sh)} {n : Nat} {x : Str} {t : Tok} {e dx T : Addr} {env : Env} {names : List (Str × NameKind)} {cs : List (Str × Addr)} {dict : Option Addr} {fl : Value}

theorem St.funFrames {bh h : Heap} (S : St bh ns nw h) : ∀ {l : List Env}, (∀ env ∈ l, ∃ L, env.frame = some L ∧ L ∈ ns.map (·.1) ∧ env.scope.kind = .function) → h.FunFrames bh l
  | [], _ => trivial
  | env :: r, k => by
    obtain ⟨L, hf, hm, hk⟩ := k env (.head _)
    obtain ⟨p, hp, rfl⟩ := List.mem_map.mp hm
    obtain ⟨⟨_, m, ⟨o, es, ep, ho, hd, _⟩, _⟩, hn⟩ := S.held p hp
    exact ⟨by rw [hk]; decide, ⟨p.1, o, hf, hn, ho, fun vs q => by rw [hd] at q; cases q⟩, St.funFrames S fun e he => k e (.tail _ he)⟩

theorem St.slotsOnly {bh h h' : Heap} {fs : List Addr} (S : St bh ns nw h) (hfs : ∀ f ∈ fs, f ∈ ns.map (·.1)) (x : Heap.SlotsOnly fs h h') : St bh ns nw h' := by
  refine ⟨fun a o q => (x.2.1 a fun hm => ?_).trans (S.keep a o q), fun p hp => ⟨(S.held p hp).1.slots fun o q _ => x.2.2 _ o q, (S.held p hp).2⟩, fun p hp => ⟨let ⟨o, ho, r⟩ := (S.objs p hp).1; ⟨o, (x.2.1 p.1 fun hm => ?_).trans ho, r⟩, (S.objs p hp).2⟩, S.nd⟩
  · obtain ⟨p, hp, rfl⟩ := List.mem_map.mp (hfs a hm)
    rw [(S.held p hp).2] at q; cases q
  · exact (List.nodup_append.mp S.nd).2.2 p.1 (hfs _ hm) p.1 (List.mem_map_of_mem hp) rfl

theorem fr_in {outer : List Env} (a : Ar A n (ns.map (·.1))) (hfr : A.frames = some (env :: outer)) : ∀ v ∈ (env :: outer), ∃ L, v.frame = some L ∧ L ∈ ns.map (·.1) ∧ v.scope.kind = .function := by
  obtain ⟨es, h1, h2⟩ := a.frs
  rw [hfr] at h1
  cases h1
  exact h2

theorem x_entry {outer : List Env} {head : Value} {hadNext : Bool} {tb : Value} {Q : Unit → Shared → Prop} (hVf : env.frame = some env.locals) (hfi : ∀ v ∈ (env :: outer), ∃ L, v.frame = some L ∧ L ∈ ns.map (·.1) ∧ v.scope.kind = .function) (hfr : A.frames = some (env :: outer))
    (S : Sx b ns ((e, aExc dict tb) :: nw) s) (h : ∀ T s', Sx b ns ((e, aExc dict (.ref T)) :: (T, aTb (rawInt env.locals)) :: nw) s' → Q () s') :
    wpAny M A (do let a ← frameOf env; let pl ← entryPlaceOf env.locals hadNext; let b ← EntryCells.newEntry head a .none (rawInt env.locals) .none pl; setField (.ref e) 1 b) Q E s := by
  refine wpAny_bind (wpAny_frameOf_fun hfr (S.st.funFrames hfi) hVf fun h₁ hs₁ => ?_)
  have S1 : St b.heap ns ((e, aExc dict tb) :: nw) h₁ := S.st.slotsOnly (fun f hf => by
    obtain ⟨v, hv, he⟩ := List.mem_filterMap.mp hf
    obtain ⟨L, h1, h2, _⟩ := hfi v hv
    rw [h1] at he; cases he; exact h2) hs₁
  refine wpAny_bind (wpAny_entryPlaceOf fun pl hpl => ?_)
  unfold EntryCells.newEntry newFields
  refine wpAny_bind (wpAny_newObj_type ?_ (hpl.sizeOk5 _ _ _ _ _))
  have S2 := S1.alloc (o := { cls := .type "traceback", dict := none, data := .fields ([head, .ref env.locals, .none, rawInt env.locals, .none] ++ (if pl.isEmpty then List.replicate 6 Value.none else pl)).toArray }) (x := aTb (rawInt env.locals)) ⟨_, rfl, rfl, by first | rfl | simp⟩
  obtain ⟨⟨o, he₂, a0, rfl⟩, _⟩ := S2.objs _ (.tail _ (.head _))
  refine wpAny_setField he₂ rfl (by simp) (h _ _ ⟨(S2.upd (a := e) (x := aExc dict tb) (y := aExc dict (.ref h₁.objs.size)) (.tail .head) (fun c hc => Heap.get?_update_other _ _ (Ne.symm hc)) ⟨_, Heap.get?_update_self _ he₂ rfl, a0, rfl⟩).perm (List.Perm.swap ..), S.g, S.o⟩)

theorem note_first {Q : Unit → Shared → Prop} (V : Fn env names cs) (a : Ar A n (ns.map (·.1))) (tp : Tp A env) (S : Sx b ns ((e, aExc dict .none) :: nw) s) (h : ∀ T s', Sx b ns ((e, aExc dict (.ref T)) :: (T, aTb (rawInt env.locals)) :: nw) s' → Q () s') :
    wpAny M A (noteFrame (.ref e) env) Q E s := by
  obtain ⟨⟨outer, hfr⟩, hVf⟩ := tp
  obtain ⟨⟨o, he, a0, rfl⟩, _⟩ := S.st.objs _ (.head _)
  unfold noteFrame
  simp only [hVf]
  refine wpAny_bind (wpAny_field he rfl (x := .none) rfl ?_)
  rw [if_neg (by decide)]
  exact x_entry hVf (fr_in a hfr) hfr S h

theorem note_next {Q : Unit → Shared → Prop} (V : Fn env names cs) (a : Ar A n (ns.map (·.1))) (tp : Tp A env) (S : Sx b ns ((e, aExc dict (.ref T)) :: (T, aTb .none) :: nw) s) (h : ∀ T s', Sx b ns ((e, aExc dict (.ref T)) :: (T, aTb (rawInt env.locals)) :: nw) s' → Q () s') :
    wpAny M A (noteFrame (.ref e) env) Q E s := by
  obtain ⟨⟨outer, hfr⟩, hVf⟩ := tp
  obtain ⟨⟨o, he, a0, rfl⟩, _⟩ := S.st.objs _ (.head _)
  obtain ⟨⟨oT, hT, ts, hc, hd, h3⟩, _⟩ := S.st.objs _ (.tail _ (.head _))
  unfold noteFrame
  simp only [hVf]
  refine wpAny_bind (wpAny_field he rfl (x := .ref T) rfl ?_)
  rw [if_pos (show (Value.ref T != Value.none) = true from by simp)]
  refine wpAny_bind (wpAny_field hT hd h3 ?_)
  rw [if_neg (show ¬ ((Value.none == rawInt env.locals) = true) from by simp [rawInt])]
  refine wpAny_bind (wpAny_setField hT hd (Array.getElem?_eq_some_iff.mp h3).1 ?_)
  have S1 : Sx b ns ((e, aExc dict (.ref T)) :: nw) { s with heap := s.heap.update T (Obj.mapFields (·.setIfInBounds 3 Value.none)) } :=
    ⟨(S.st.upd (a := T) (x := aTb .none) (y := aTb .none) (.tail .head) (fun c hc => Heap.get?_update_other _ _ (Ne.symm hc)) ⟨_, Heap.get?_update_self _ hT (Obj.isFreed_of_fields (Obj.data_mapFields hd _)), _, (Obj.cls_mapFields _ _).trans hc, Obj.data_mapFields hd _, by
      rw [Array.getElem?_setIfInBounds_self_of_lt (Array.getElem?_eq_some_iff.mp h3).1]⟩).sub (List.Sublist.cons_cons _ (List.sublist_cons_self _ _)), S.g, S.o⟩
  exact x_entry hVf (fr_in a hfr) hfr S1 h

theorem fly_none {Q : Unit → Shared → Prop} (S : Sx b ns ((e, aExc dict (.ref T)) :: (T, aTb fl) :: nw) s) (h : ∀ s', Sx b ns ((e, aExc dict (.ref T)) :: (T, aTb .none) :: nw) s' → Q () s') :
    wpAny M A (setFlight (.ref e) none) Q E s := by
  obtain ⟨⟨o, he, a0, rfl⟩, _⟩ := S.st.objs _ (.head _)
  obtain ⟨⟨oT, hT, ts, hc, hd, h3⟩, _⟩ := S.st.objs _ (.tail _ (.head _))
  unfold setFlight
  refine wpAny_bind (wpAny_field he rfl (x := .ref T) rfl ?_)
  rw [if_pos (show (Value.ref T != Value.none) = true from by simp)]
  refine wpAny_setField hT hd (Array.getElem?_eq_some_iff.mp h3).1 (h _ ⟨S.st.upd (a := T) (x := aTb fl) (y := aTb .none) (.tail .head) (fun c hc => Heap.get?_update_other _ _ (Ne.symm hc)) ⟨_, Heap.get?_update_self _ hT (Obj.isFreed_of_fields (Obj.data_mapFields hd _)), _, (Obj.cls_mapFields _ _).trans hc, Obj.data_mapFields hd _, by
      rw [Array.getElem?_setIfInBounds_self_of_lt (Array.getElem?_eq_some_iff.mp h3).1]; rfl⟩, S.g, S.o⟩)

/-- how a refusal flies -/
def Fly (b : Shared) (ns : List (Addr × Vars)) (nw : List (Addr × Sh)) (x : Str) (ex : Value) (s : Shared) : Prop :=
  ∃ e dx T t, ex = .ref e ∧ Sx b ns ((e, aExc (some dx) (.ref T)) :: (T, aTb .none) :: (dx, aFld [((Str.ofString "why"), .str x t)]) :: nw) s

theorem leave_first {v : Addr × Vars} (V : Fn env names cs) (a : Ar A n ((v :: ns).map (·.1))) (tp : Tp A env) (S : Sx b (v :: ns) ((e, aExc (some dx) .none) :: (dx, aFld [((Str.ofString "why"), .str x t)]) :: nw) s)
    (h : ∀ ex s', Fly b ns nw x ex s' → E ex s') : Lv prog w A env E (.ref e) s := by
  show wpAny _ _ (leaving env (.ref e)) _ _ _
  unfold leaving
  refine wpAny_bind (note_first V a tp S fun T s' S' => fly_none S' fun s' S' => h _ _ ⟨_, _, _, _, rfl, S'.pop⟩)
theorem leave_next {v : Addr × Vars} {ex : Value} (V : Fn env names cs) (a : Ar A n ((v :: ns).map (·.1))) (tp : Tp A env) (f : Fly b (v :: ns) nw x ex s)
    (h : ∀ ex s', Fly b ns nw x ex s' → E ex s') : Lv prog w A env E ex s := by
  obtain ⟨e, dx, T, t, rfl, S⟩ := f
  show wpAny _ _ (leaving env (.ref e)) _ _ _
  unfold leaving
  refine wpAny_bind (note_next V a tp S fun T s' S' => fly_none S' fun s' S' => h _ _ ⟨_, _, _, _, rfl, S'.pop⟩)
end

end
section
def aLam (qual : Str) (params : Arguments) (body : Expr) (scope : Scope) (clos : List (Str × Addr)) (c : Addr) : Sh := fun o => ∃ pm ctv, o = kla_obj "<lambda>" qual params body scope clos pm c ctv
def aCode (qual : Str) : Sh := fun o => ∃ vs t, o.data = .fields vs ∧ vs[1]? = some (.str qual t)

section
variable {prog : Program} {w : World} {A : Around} {E : Value → Shared → Prop} {s : Shared} {b : Shared} {ns : List (Addr × Vars)} {nw nw' : List (Addr × Sh)} {n : Nat} {env : Env} {names : List (Str × NameKind)} {cs clos : List (Str × Addr)} {c P f : Addr} {ps : Array Value} {params : Arguments} {body : Expr} {scope : Scope} {pos : Pos}

theorem lam_miss {Q : Value → Shared → Prop} (Z : Bs w b.heap) (V : Fn env names cs) (S : Sx b ns nw s) (hcode : env.code = .ref c) (C : CodeHd b.heap c P) (hP : (P, anObj (tabObj ps)) ∈ nw) (ht : TriplesOk ps.toList) (hnf : codeAmong pos ps.toList = none)
    (hcl : closureFor scope env = pure clos) (hdef : defaultsOf params env = ([], []))
    (h : ∀ c' f s', (∀ nw', PutO P (anObj (tabObj ps)) (anObj (tabObj (ps ++ #[rawInt pos.line, rawInt pos.col, .ref c']))) nw nw' → Sx b ns ((f, aLam (env.qual ++ Str.ofString "<lambda>") params body scope clos c') :: (c', aCode (env.qual ++ Str.ofString "<lambda>")) :: nw') s') → Q (.ref f) s') :
    wpAny (model prog w) A (eval (.Lambda params body scope pos) env) Q E s := by
  obtain ⟨mg, mb, hg, hb, _, _, bm, ob, h1, h2, h3, h4, h5, h6⟩ := Z.gl
  have hgs := hg.keeps S.st.keep
  have hPs := S.st.obj hP
  have hPn : b.heap.get? P = none := (S.st.objs _ hP).2
  have hgP : mainGlobals ≠ P := fun q => by
    obtain ⟨o, es, ep, e, hd, _⟩ := hgs
    rw [q, hPs] at e; cases e; cases hd
  have hbP : bm ≠ P := fun q => by rw [q, hPn] at h3; cases h3
  have hbG : bm ≠ mainGlobals := fun q => by
    obtain ⟨o, es, ep, e, hd, _⟩ := hg
    rw [q, e] at h3; cases h3; rw [hd] at h6; cases h6
  refine kla_eval hdef (kla_makeFunction (mg := mg) hcl V.gl hgs hcode (C.keeps S.st.keep) hPs ht hnf hgP ⟨bm, ob, h1, h2, hbG, hbP, S.st.keep _ _ h3, h4, h5, h6⟩ fun c' ctv h' tk hx hge hlt hrec htb => h c' h'.objs.size _ fun nw' PT => ?_)
  obtain ⟨c₂, oc, vs, t, e2, hoc, hd, hv⟩ := hrec
  cases e2
  have S1 : St b.heap ns nw' h' := by
    have nd2 : (nw.map (·.1)).Nodup := (List.nodup_append.mp S.st.nd).2.1
    refine ⟨fun a o q => hx _ _ (fun z => by subst z; rw [hPn] at q; cases q) (S.st.keep a o q), fun p hp => ⟨(S.st.held p hp).1.keeps fun o q => hx _ _ (fun z => ?_) q, (S.st.held p hp).2⟩, fun p hp => ?_, by rw [PT.map]; exact S.st.nd⟩
    · exact (List.nodup_append.mp S.st.nd).2.2 p.1 (List.mem_map_of_mem hp) P (List.mem_map.mpr ⟨_, PT.mem, rfl⟩) z
    · rcases PT.cases nd2 p hp with rfl | ⟨m, nn⟩
      · exact ⟨⟨_, htb, rfl⟩, hPn⟩
      · exact ⟨let ⟨o, e, r⟩ := (S.st.objs p m).1; ⟨o, hx _ _ nn e, r⟩, (S.st.objs p m).2⟩
  have hnc : ∀ x ∈ ns.map (·.1) ++ nw'.map (·.1), x ≠ c' := fun x hm z => by
    rw [PT.map] at hm
    exact absurd (S.st.lt hm) (Nat.not_lt.mpr (z ▸ hge))
  have S2 : St b.heap ns ((c', aCode (env.qual ++ Str.ofString "<lambda>")) :: nw') h' := by
    refine ⟨S1.keep, S1.held, fun p hp => ?_, ?_⟩
    · rcases List.mem_cons.mp hp with rfl | hp
      · exact ⟨⟨oc, hoc, vs, t, hd, hv⟩, S.st.none_of_ge hge⟩
      · exact S1.objs p hp
    · rw [List.map_cons]
      exact List.perm_middle.nodup_iff.mpr (List.nodup_cons.mpr ⟨fun m => hnc _ m rfl, S1.nd⟩)
  exact ⟨S2.alloc ⟨_, _, rfl⟩, S.g, S.o⟩

theorem lam_hit {c' : Addr} {Q : Value → Shared → Prop} (Z : Bs w b.heap) (V : Fn env names cs) (S : Sx b ns nw s) (hcode : env.code = .ref c) (C : CodeHd b.heap c P) (hP : (P, anObj (tabObj ps)) ∈ nw) (ht : TriplesOk ps.toList) (hf : codeAmong pos ps.toList = some (.ref c'))
    (hcl : closureFor scope env = pure clos) (hdef : defaultsOf params env = ([], []))
    (h : ∀ f s', Sx b ns ((f, aLam (env.qual ++ Str.ofString "<lambda>") params body scope clos c') :: nw) s' → Q (.ref f) s') :
    wpAny (model prog w) A (eval (.Lambda params body scope pos) env) Q E s := by
  obtain ⟨mg, mb, hg, hb, _, _, bm, ob, h1, h2, h3, h4, h5, h6⟩ := Z.gl
  have hgs := hg.keeps S.st.keep
  have hPs := S.st.obj hP
  have hPn : b.heap.get? P = none := (S.st.objs _ hP).2
  have hbP : bm ≠ P := fun q => by rw [q, hPn] at h3; cases h3
  have hbG : bm ≠ mainGlobals := fun q => by
    obtain ⟨o, es, ep, e, hd, _⟩ := hg
    rw [q, e] at h3; cases h3; rw [hd] at h6; cases h6
  refine kla_eval hdef (kla_makeFunctionHit (mg := mg) hcl V.gl hgs hcode (C.keeps S.st.keep) hPs ht hf ⟨bm, ob, h1, h2, hbG, hbP, S.st.keep _ _ h3, h4, h5, h6⟩ fun ctv h' tk hk hsz => h _ _ ⟨(S.st.ext hk).alloc ⟨_, _, rfl⟩, S.g, S.o⟩)

theorem lam_call {qual : Str} {args : List Value} {Q : Value → Shared → Prop} (l0 : Vars) (binds : List (Str × Value)) (Z : Bs w b.heap) (S : Sx b ns nw s) (a : Ar A (n + 1) (ns.map (·.1))) (hf : (f, aLam qual params body scope clos c) ∈ nw) (hc : (c, aCode qual) ∈ nw)
    (hbind : ∀ pm ctv, bindArgs (kla_fn "<lambda>" qual params body scope clos pm (.ref c) ctv) ⟨args, []⟩ = pure binds) (hsc : ScOk scope.names) (hcell : ∀ x ∈ scope.names, x.2 ≠ .cell)
    (hkeys : l0.map (·.1) = localKeys scope.names) (hvals : ∀ p ∈ l0, binds.reverse.lookup p.1 = p.2) (hloc : ∀ y ∈ binds, (y.1, NameKind.local) ∈ scope.names)
    (hco : scope.isCoroutine = false) (hgen : scope.isGenerator = false) (hk : scope.kind = .function)
    (h : ∀ A' env s', Fn env scope.names clos → Tp A' env → Ar A' n (env.locals :: ns.map (·.1)) → Sx b ((env.locals, l0) :: ns) nw s' →
      wpAny (model prog w) A' (eval body env) (fun v s' => LeaveX b ns Q v s') (Lv prog w A' env E) s') : wpAny (model prog w) A (call (.ref f) args) Q E s := by
  obtain ⟨⟨o, ho, pm, ctv, rfl⟩, _⟩ := S.st.objs _ hf
  obtain ⟨⟨oc, hoc, vs, t, hd, hv⟩, _⟩ := S.st.objs _ hc
  refine wpAny_call (kla_callFunE a.room ho rfl hco hgen rfl ⟨c, oc, vs, t, rfl, hoc, hd, hv⟩ ?_)
  rw [hbind]
  refine wpAny_pure (wpAny_newFunctionEnv hcell (fun y hy => hsc.look (hloc y hy)) (fun h₁ hns hsb => ⟨((Z.lim.keeps S.st.keep)).fresh _ hsb, ?_⟩) hk)
  show codeAny _ _ (.expr body (envX qual scope s.heap.objs.size f (.ref c) clos)) _ _
  have hk₁ : ∀ b o, s.heap.get? b = some o → h₁.get? b = some o := fun b o e => hsb.extBut b o (Nat.ne_of_lt (Heap.lt_size e)) (Heap.get?_push_of_some _ e)
  have S1 : Sx b ((s.heap.objs.size, l0) :: ns) nw { s with heap := h₁, toks := s.toks + binds.length } := ⟨S.st.pushNs hk₁ ⟨by rw [hkeys]; exact localKeys.nd hsc, _, hns, hvals⟩ (Nat.le_refl _), S.g, S.o⟩
  refine kla_codeExpr (wpAny_mono (h _ (envX qual scope s.heap.objs.size f (.ref c) clos) _ ⟨hk, rfl, hsc, rfl, rfl, rfl, by unfold interactive envX; rw [hk]; rfl⟩ (a.tp rfl) (a.deeper rfl hk) S1) (fun v s' q => ?_) fun _ _ y => y)
  obtain ⟨x, nw', S', k⟩ := q
  exact k S'.pop
end

end
section
def aRI (a : Int) (n i : Nat) : Sh := anObj { cls := .type "range_iterator", data := .fields #[rawInt (a + (i : Int) * 1), rawInt ((n : Int) - (i : Int)), rawInt 1] }
def aRg (a c : Int) : Sh := fun o => ∃ t u v, o = { cls := .type "range", data := .fields #[.int a t, .int c u, .int 1 v] }
def aLI (l : Addr) (i : Nat) : Sh := fun o => o.cls = .type "list_iterator" ∧ o.data = .fields #[.ref l, .int i 0]
def aTI (l : Addr) (i : Nat) : Sh := fun o => o.cls = .type "tuple_iterator" ∧ o.data = .fields #[.ref l, .int i 0]

structure WkX (prog : Program) (w : World) (A : Around) (b : Shared) (I : Addr) (n : Nat) (P : Nat → Value → Prop) (X : Nat → Sh) (need : List (Addr × Sh) → Prop) : Prop where
  item : ∀ i ns nw s (Q : Option Value → Shared → Prop) E, i < n → need nw → Sx b ns ((I, X i) :: nw) s → (∀ v s', P i v → Sx b ns ((I, X (i + 1)) :: nw) s' → Q (some v) s') → wpAny (model prog w) A (pyNext (.ref I)) Q E s
  done : ∀ ns nw s (Q : Option Value → Shared → Prop) E, need nw → Sx b ns ((I, X n) :: nw) s → (∀ s', Sx b ns nw s' → Q none s') → wpAny (model prog w) A (pyNext (.ref I)) Q E s
  self : ∀ ns nw s (Q : Value → Shared → Prop) E, need nw → Sx b ns ((I, X 0) :: nw) s → Q (.ref I) s → wpAny (model prog w) A (pyIter (.ref I)) Q E s

def LoopF (b : Shared) (I : Addr) (X : Sh) (J : List (Addr × Vars) → List (Addr × Sh) → Prop) (Q : Flow → Shared → Prop) : Flow → Shared → Prop
  | .next, s => ∃ ns nw, J ns nw ∧ Sx b ns ((I, X) :: nw) s
  | .cont, s => ∃ ns nw, J ns nw ∧ Sx b ns ((I, X) :: nw) s
  | .brk, s => Q .next s
  | .ret v, s => Q (.ret v) s
section
variable {prog : Program} {w : World} {A : Around} {E : Value → Shared → Prop} {s : Shared} {b : Shared} {ns : List (Addr × Vars)} {nw nw' : List (Addr × Sh)} {n : Nat} {env : Env} {its : List Value} {l I : Addr} {x y : Sh} {a c : Int}

theorem LoopF.next {J : List (Addr × Vars) → List (Addr × Sh) → Prop} {Q : Flow → Shared → Prop} (h : J ns nw) (S : Sx b ns ((I, x) :: nw) s) : LoopF b I x J Q .next s := ⟨_, _, h, S⟩
theorem LoopF.ret {v : Value} {J : List (Addr × Vars) → List (Addr × Sh) → Prop} {Q : Flow → Shared → Prop} (h : Q (.ret v) s) : LoopF b I x J Q (.ret v) s := h

theorem Sx.head1 {h' : Heap} {tk : Nat} (S : Sx b ns ((I, x) :: nw) s) (ho : ∃ o, h'.get? I = some o ∧ y o) (hk : ∀ (b : Addr) (o : Obj), ¬ b ∈ [I] → s.heap.get? b = some o → h'.get? b = some o) : Sx b ns ((I, y) :: nw) { s with heap := h', toks := tk } := by
  have hI := (S.st.objs _ (.head _)).2
  have nd := S.st.nd
  rw [List.map_cons] at nd
  have nd' := (List.perm_middle.nodup_iff.mp nd)
  rw [List.nodup_cons] at nd'
  have ne : ∀ c ∈ ns.map (·.1) ++ nw.map (·.1), ¬ c ∈ [I] := fun c hc hm => nd'.1 (by rw [List.mem_singleton] at hm; exact hm ▸ hc)
  refine ⟨⟨fun c o e => hk c o (fun hm => by rw [List.mem_singleton] at hm; subst hm; rw [hI] at e; cases e) (S.st.keep c o e), fun p hp => ⟨(S.st.held p hp).1.keeps fun o e => hk _ o (ne _ (List.mem_append_left _ (List.mem_map_of_mem hp))) e, (S.st.held p hp).2⟩, fun p hp => ?_, S.st.nd⟩, S.g, S.o⟩
  rcases List.mem_cons.mp hp with rfl | hp
  · exact ⟨ho, hI⟩
  · obtain ⟨⟨o, e, r⟩, q⟩ := S.st.objs p (.tail _ hp)
    exact ⟨⟨o, hk _ o (ne _ (List.mem_append_right _ (List.mem_map_of_mem hp))) e, r⟩, q⟩
theorem Sx.head0 {h' : Heap} {tk : Nat} (S : Sx b ns ((I, x) :: nw) s) (hk : ∀ (b : Addr) (o : Obj), ¬ b ∈ [I] → s.heap.get? b = some o → h'.get? b = some o) : Sx b ns nw { s with heap := h', toks := tk } := by
  have hI := (S.st.objs _ (.head _)).2
  have nd := S.st.nd
  rw [List.map_cons] at nd
  have nd' := (List.perm_middle.nodup_iff.mp nd)
  rw [List.nodup_cons] at nd'
  have ne : ∀ c ∈ ns.map (·.1) ++ nw.map (·.1), ¬ c ∈ [I] := fun c hc hm => nd'.1 (by rw [List.mem_singleton] at hm; exact hm ▸ hc)
  refine ⟨⟨fun c o e => hk c o (fun hm => by rw [List.mem_singleton] at hm; subst hm; rw [hI] at e; cases e) (S.st.keep c o e), fun p hp => ⟨(S.st.held p hp).1.keeps fun o e => hk _ o (ne _ (List.mem_append_left _ (List.mem_map_of_mem hp))) e, (S.st.held p hp).2⟩, fun p hp => ?_, nd'.2⟩, S.g, S.o⟩
  obtain ⟨⟨o, e, r⟩, q⟩ := S.st.objs p (.tail _ hp)
  exact ⟨⟨o, hk _ o (ne _ (List.mem_append_right _ (List.mem_map_of_mem hp))) e, r⟩, q⟩
theorem Sx.ne_head (S : Sx b ns ((I, x) :: nw) s) {l : Addr} {y : Sh} (h : (l, y) ∈ nw) : l ≠ I := fun e => by
  have nd := (List.nodup_append.mp S.st.nd).2.1
  rw [List.map_cons, List.nodup_cons] at nd
  exact nd.1 (List.mem_map.mpr ⟨_, h, e⟩)

theorem wk_range (hA : A.handled = none) (I : Addr) (a : Int) (n : Nat) : WkX prog w A b I n (fun i v => ∃ t, v = .int (a + (i : Int)) t) (aRI a n) (fun _ => True) where
  item i ns nw s Q E hi _ S h := by
    refine (Walks.range (prog := prog) (w := w) hA I a 1 n).item i s Q E hi (S.st.obj (.head _)) fun v h' tk hp hst hk => ?_
    obtain ⟨t, rfl⟩ := hp
    exact h _ _ ⟨t, by simp⟩ (S.head1 ⟨_, hst, rfl⟩ hk)
  done ns nw s Q E _ S h := (Walks.range (prog := prog) (w := w) hA I a 1 n).done s Q E (S.st.obj (.head _)) fun h' tk hk => h _ (S.head0 hk)
  self ns nw s Q E _ S h := (Walks.range (prog := prog) (w := w) hA I a 1 n).self 0 s Q E (S.st.obj (.head _)) h
theorem wk_list (hA : A.handled = none) (I l : Addr) (its : List Value) : WkX prog w A b I its.length (fun i v => its[i]? = some v) (aLI l) (fun nw => (l, aList its) ∈ nw) where
  item i ns nw s Q E hi hl S h := by
    obtain ⟨⟨o, ho, hc, hd⟩, _⟩ := S.st.objs _ (.head _)
    refine (Walks.list (prog := prog) (w := w) hA I l (S.ne_head hl) its.toArray).item i s Q E (by simpa using hi) ⟨⟨o, ho, hc, hd⟩, S.st.isList (.tail _ hl)⟩ fun v h' tk hp hst hk => ?_
    obtain ⟨⟨o', ho', r⟩, _⟩ := hst
    exact h _ _ (by simpa using hp) (S.head1 ⟨o', ho', r⟩ hk)
  done ns nw s Q E hl S h := by
    obtain ⟨⟨o, ho, hc, hd⟩, _⟩ := S.st.objs _ (.head _)
    refine (Walks.list (prog := prog) (w := w) hA I l (S.ne_head hl) its.toArray).done s Q E ⟨⟨o, ho, hc, by simpa using hd⟩, S.st.isList (.tail _ hl)⟩ fun h' tk hk => h _ (S.head0 hk)
  self ns nw s Q E hl S h := by
    obtain ⟨⟨o, ho, hc, hd⟩, _⟩ := S.st.objs _ (.head _)
    exact (Walks.list (prog := prog) (w := w) hA I l (S.ne_head hl) its.toArray).self 0 s Q E ⟨⟨o, ho, hc, hd⟩, S.st.isList (.tail _ hl)⟩ h
theorem wk_tup (hA : A.handled = none) (I l : Addr) (its : List Value) : WkX prog w A b I its.length (fun i v => its[i]? = some v) (aTI l) (fun nw => (l, aTup its) ∈ nw) where
  item i ns nw s Q E hi hl S h := by
    obtain ⟨⟨o, ho, hc, hd⟩, _⟩ := S.st.objs _ (.head _)
    refine (Walks.tuple (prog := prog) (w := w) hA I l (S.ne_head hl) its.toArray).item i s Q E (by simpa using hi) ⟨⟨o, ho, hc, hd⟩, S.st.isTup (.tail _ hl)⟩ fun v h' tk hp hst hk => ?_
    obtain ⟨⟨o', ho', r⟩, _⟩ := hst
    exact h _ _ (by simpa using hp) (S.head1 ⟨o', ho', r⟩ hk)
  done ns nw s Q E hl S h := by
    obtain ⟨⟨o, ho, hc, hd⟩, _⟩ := S.st.objs _ (.head _)
    refine (Walks.tuple (prog := prog) (w := w) hA I l (S.ne_head hl) its.toArray).done s Q E ⟨⟨o, ho, hc, by simpa using hd⟩, S.st.isTup (.tail _ hl)⟩ fun h' tk hk => h _ (S.head0 hk)
  self ns nw s Q E hl S h := by
    obtain ⟨⟨o, ho, hc, hd⟩, _⟩ := S.st.objs _ (.head _)
    exact (Walks.tuple (prog := prog) (w := w) hA I l (S.ne_head hl) its.toArray).self 0 s Q E ⟨⟨o, ho, hc, hd⟩, S.st.isTup (.tail _ hl)⟩ h

theorem x_loop {P : Nat → Value → Prop} {X : Nat → Sh} {need : List (Addr × Sh) → Prop} {target : Expr} {body : List Stmt} {Q : Flow → Shared → Prop} (W : WkX prog w A b I n P X need) (J : Nat → List (Addr × Vars) → List (Addr × Sh) → Prop) (hn : ∀ i ns nw, J i ns nw → need nw)
    (S : Sx b ns ((I, X 0) :: nw) s) (h0 : J 0 ns nw)
    (step : ∀ i ns nw s v E', i < n → J i ns nw → P i v → Sx b ns ((I, X (i + 1)) :: nw) s → wpAny (model prog w) A (assign target env v) (fun _ s₂ => wpAny (model prog w) A (execs body env) (LoopF b I (X (i + 1)) (J (i + 1)) Q) E' s₂) E' s)
    (done : ∀ ns nw s, J n ns nw → Sx b ns nw s → Q .next s) (hl : ∀ v, letOwnedTupleGo target (.ref I) v = pure ()) :
    codeAny (model prog w) A (.forLoop target (.ref I) body [] env) (fun r s' => match r with | .ok f => Q f s' | .error e => cameBackBy (model prog w) A env E e s') s := by
  refine codeAny_forLoop (fun k s => ∃ i ns nw, k + i = n ∧ J i ns nw ∧ Sx b ns ((I, X i) :: nw) s) (fun k s hI => ?_) n ⟨0, ns, nw, rfl, h0, S⟩ hl
  obtain ⟨i, ns, nw, hk, hJ, S⟩ := hI
  by_cases hi : i < n
  · refine W.item i ns nw s _ _ hi (hn _ _ _ hJ) S fun v s' hv S' => ?_
    refine wpAny_mono (step i ns nw s' v _ hi hJ hv S') (fun _ s₂ q => wpAny_mono q (fun f s₃ q => ?_) fun _ _ q => q) fun _ _ q => q
    cases f with
    | next => obtain ⟨ns', nw', hJ', S''⟩ := q; exact ⟨n - (i + 1), by omega, i + 1, ns', nw', by omega, hJ', S''⟩
    | cont => obtain ⟨ns', nw', hJ', S''⟩ := q; exact ⟨n - (i + 1), by omega, i + 1, ns', nw', by omega, hJ', S''⟩
    | brk => exact q
    | ret v => exact q
  · have e : i = n := by omega
    subst e
    exact W.done ns nw s _ _ (hn _ _ _ hJ) S fun s' S' => wpAny_execs_nil (done _ _ _ hJ S')

theorem x_for {target iter : Expr} {body rest : List Stmt} {pos : Pos} {Q : Flow → Shared → Prop}
    (h : wpAny (model prog w) A (eval iter env) (fun x s₁ => wpAny (model prog w) A (pyIter x) (fun it s₂ =>
      codeAny (model prog w) A (.forLoop target it body [] env) (fun r s' => match r with | .ok f => thenF (fun s₂ => wpAny (model prog w) A (execs rest env) Q E s₂) Q f s' | .error e => cameBackBy (model prog w) A env E e s') s₂) E s₁) E s)
    (hs : ∀ x, foldedSetIterable iter env x = pure x) : wpAny (model prog w) A (execs (.For target iter body [] pos :: rest) env) Q E s := by
  refine wpAny_execs_cons (wpAny_mono (wpAny_For h hs) (fun f s q => ?_) fun _ _ q => q)
  cases f <;> exact q

theorem c_range1 {n : Int} {t : Tok} {Q : Value → Shared → Prop} (S : Sx b ns nw s) (h : ∀ r s', Sx b ns ((r, aRg 0 n) :: nw) s' → Q (.ref r) s') : wpAny (model prog w) A (call (.type "range") [.int n t]) Q E s :=
  call_range_1 (h _ _ ⟨S.st.alloc ⟨_, _, _, rfl⟩, S.g, S.o⟩)
theorem c_range2 {n : Int} {t u : Tok} {Q : Value → Shared → Prop} (S : Sx b ns nw s) (h : ∀ r s', Sx b ns ((r, aRg a n) :: nw) s' → Q (.ref r) s') : wpAny (model prog w) A (call (.type "range") [.int a t, .int n u]) Q E s :=
  call_range_2 (h _ _ ⟨S.st.alloc ⟨_, _, _, rfl⟩, S.g, S.o⟩)
theorem p_range {r : Addr} {m : Nat} {Q : Value → Shared → Prop} (S : Sx b ns ((r, aRg a c) :: nw) s) (hm : c - a = m) (ha : -1000 ≤ a) (hc : c ≤ 1000) (h : ∀ I s', Sx b ns ((I, aRI a m 0) :: nw) s' → Q (.ref I) s') : wpAny (model prog w) A (pyIter (.ref r)) Q E s := by
  obtain ⟨⟨o, ho, t, u, v, rfl⟩, _⟩ := S.st.objs _ (.head _)
  refine wpAny_pyIter_range ho (small_one (by omega) (by omega) (by omega) (by omega)) (h _ _ ⟨(S.st.sub (List.sublist_cons_self _ _)).alloc ?_, S.g, S.o⟩)
  show _ = _
  rw [rangeSize_one]
  split
  · simp [hm]
  · have : (m : Int) = 0 := by omega
    simp [this]
theorem p_list {Q : Value → Shared → Prop} (S : Sx b ns nw s) (hl : (l, aList its) ∈ nw) (h : ∀ I s', Sx b ns ((I, aLI l 0) :: nw) s' → Q (.ref I) s') : wpAny (model prog w) A (pyIter (.ref l)) Q E s :=
  wpAny_pyIter_list (S.st.isList hl) (h _ _ ⟨S.st.alloc ⟨rfl, rfl⟩, S.g, S.o⟩)
theorem p_tup {Q : Value → Shared → Prop} (S : Sx b ns nw s) (hl : (l, aTup its) ∈ nw) (h : ∀ I s', Sx b ns ((I, aTI l 0) :: nw) s' → Q (.ref I) s') : wpAny (model prog w) A (pyIter (.ref l)) Q E s :=
  wpAny_pyIter_tuple (S.st.isTup hl) (h _ _ ⟨S.st.alloc ⟨rfl, rfl⟩, S.g, S.o⟩)
end

end
section
def relN (outer names : List (Str × NameKind)) : List (Str × NameKind) := names.map fun (n, k) => if (k == NameKind.free && outer.lookup n == some .cell) then (n, NameKind.cell) else (n, k)
section
variable {prog : Program} {w : World} {A : Around} {E : Value → Shared → Prop} {s : Shared} {b : Shared} {ns : List (Addr × Vars)} {nw nw' : List (Addr × Sh)} {n : Nat} {env : Env} {its : List Value} {l I : Addr} {x y : Sh} {a c : Int} {names names' : List (Str × NameKind)} {cs cl : List (Str × Addr)} {scope : Scope}

theorem clos_of (V : Fn env names cs) (h : closureFor scope { env with cells := cs } = pure cl) : closureFor scope env = pure cl := by
  have e : ({ env with cells := cs } : Env) = env := by rw [← V.cl]
  rw [← e]; exact h
theorem rel_names (V : Fn env names cs) : (relabel scope env).names = relN names scope.names := by
  unfold relabel relN Env.kindOf
  simp only [V.kind, V.nm, show (ScopeKind.function == ScopeKind.function) = true from rfl, Bool.and_true]

theorem Sx.popBut {C : Addr} {lv : Vars} {h' : Heap} (S : Sx b ((C, lv) :: ns) nw s) (hs : ∀ c, c ≠ C → h'.get? c = s.heap.get? c) : Sx b ns nw { s with heap := h' } := by
  have hL := (S.st.held _ (.head _)).2
  have nd := S.st.nd
  rw [List.map_cons, List.cons_append, List.nodup_cons] at nd
  refine ⟨⟨fun c oc e => (hs c fun z => ?_).trans (S.st.keep c oc e), fun p hp => ⟨(S.st.held p (.tail _ hp)).1.mono (hs _ fun z => ?_), (S.st.held p (.tail _ hp)).2⟩, fun p hp => ⟨let ⟨o, e, r⟩ := (S.st.objs p hp).1; ⟨o, (hs _ fun z => ?_).trans e, r⟩, (S.st.objs p hp).2⟩, nd.2⟩, S.g, S.o⟩
  · subst z; rw [hL] at e; cases e
  · exact nd.1 (List.mem_append_left _ (List.mem_map.mpr ⟨p, hp, z⟩))
  · exact nd.1 (List.mem_append_right _ (List.mem_map.mpr ⟨p, hp, z⟩))
/-- a list comprehension over one source: the block -/
theorem comp_blockU {elt target iter : Expr} {ifs : List Expr} {pos : Pos} {P : Nat → Value → Prop} {X : Nat → Sh} {need : List (Addr × Sh) → Prop} {Q : Value → Shared → Prop} {use : Option (Value → Sem Unit)} (l0 : Vars) (V : Fn env names cs) (W : WkX prog w A b I n P X need)
    (hN : relN names scope.names = names') (hok : ScOk names') (hok0 : ScOk scope.names) (hkind : scope.kind = .function) (hcell : ∀ y ∈ scope.names, y.2 ≠ .cell) (hkeys : l0.map (·.1) = localKeys scope.names) (hvals : ∀ p ∈ l0, p.2 = none)
    (J : Nat → List Value → List (Addr × Sh) → Prop) (hn : ∀ i ys nw, J i ys nw → need nw) (hneed : ∀ p nw, need nw → need (p :: nw)) (hlen : ∀ i ys nw, J i ys nw → ys.length ≤ 1000)
    (S : Sx b ns ((I, X 0) :: nw) s) (h0 : J 0 [] nw)
    (step : ∀ i ys nw s v E' C lv cenv D, i < n → J i ys nw → P i v → cenv.locals = C → Fn cenv names' cl → lv.map (·.1) = localKeys scope.names → Sx b ((C, lv) :: ns) ((I, X (i + 1)) :: (D, aList ys) :: nw) s →
      ∀ q, Abs (fun y s₄ => ∃ lv' nw', lv'.map (·.1) = localKeys scope.names ∧ J (i + 1) (ys ++ [y]) nw' ∧ Sx b ((C, lv') :: ns) ((I, X (i + 1)) :: (D, aList ys) :: nw') s₄) q → wpAny (model prog w) A (assign target cenv v) (fun _ s₂ => wpAny (model prog w) A (forIn ifs true fun c r => if r = true then do let ok ← isTrue c cenv (eval c cenv); pure (ForInStep.yield ok) else pure (ForInStep.yield r)) (fun ok s₃ =>
        if ok = true then wpAny (model prog w) A (eval elt cenv) q E' s₃
        else ∃ lv' nw', lv'.map (·.1) = localKeys scope.names ∧ J (i + 1) ys nw' ∧ Sx b ((C, lv') :: ns) ((I, X (i + 1)) :: (D, aList ys) :: nw') s₃) E' s₂) E' s)
    (done : ∀ ys nw s D C lv, C ∉ ns.map (·.1) → J n ys nw → Sx b ((C, lv) :: ns) ((D, aList ys) :: nw) s → compPost (model prog w) A E use Q (.ref D) C (.ok .next) s) (hl : ∀ v, letOwnedTupleGo target (.ref I) v = pure ()) :
    wpAny (model prog w) A (newList []) (fun acc s₃ => wpAny (model prog w) A (newFunctionEnv scope env.globals cl [] env.qual none .none (some env)) (fun cenv s₄ =>
      codeAny (model prog w) A (.compStart (.ListComp elt [⟨target, iter, ifs, 0⟩] scope pos) 0 (.ref I) acc { cenv with scope := relabel scope env }) (compPost (model prog w) A E use Q acc cenv.locals) s₄) E s₃) E s := by
  refine n_list S (fun D s₁ S₁ => ?_) (by simp [sizeLine_eq])
  refine wpAny_newFunctionEnv hcell (by intro y hy; simp at hy) (fun h₁ hns₁ hsb₁ => ?_) hkind
  have hk₁ : ∀ b o, s₁.heap.get? b = some o → h₁.get? b = some o := fun b o e => hsb₁.extBut b o (Nat.ne_of_lt (Heap.lt_size e)) (Heap.get?_push_of_some _ e)
  have S₂ : Sx b ((s₁.heap.objs.size, l0) :: ns) ((D, aList []) :: (I, X 0) :: nw) { s₁ with heap := h₁, toks := s₁.toks + ([] : List (Str × Value)).length } :=
    ⟨S₁.st.pushNs hk₁ ⟨by rw [hkeys]; exact localKeys.nd hok0, _, hns₁, fun p hp => (hvals p hp).symm⟩ (Nat.le_refl _), S₁.g, S₁.o⟩
  have S₃ : Sx b ((s₁.heap.objs.size, l0) :: ns) ((I, X 0) :: (D, aList []) :: nw) { s₁ with heap := h₁, toks := s₁.toks + ([] : List (Str × Value)).length } := ⟨S₂.st.perm (List.Perm.swap ..), S₂.g, S₂.o⟩
  have hne : D ≠ s₁.heap.objs.size := fun e => by
    have := (List.nodup_append.mp S₃.st.nd).2.2 _ (List.mem_map_of_mem (List.mem_cons_self)) D (List.mem_map.mpr ⟨_, List.mem_cons_of_mem _ List.mem_cons_self, rfl⟩)
    exact this e.symm
  generalize hs₃ : ({ s₁ with heap := h₁, toks := s₁.toks + ([] : List (Str × Value)).length } : Shared) = s₃ at S₃ ⊢
  generalize s₁.heap.objs.size = C at S₃ hne ⊢
  clear S₂ hns₁ hsb₁ hk₁ S₁ hs₃
  have VC : Fn (compEnvC scope cl C env) names' cl := ⟨hkind, (rel_names V).trans hN, hok, V.gl, V.bt, rfl, by unfold interactive compEnvC relabel; rw [hkind]; rfl⟩
  have loop : codeAny (model prog w) A (.compLoop (.ListComp elt [⟨target, iter, ifs, 0⟩] scope pos) 0 (.ref I) (.ref D) (compEnvC scope cl C env)) (compPost (model prog w) A E use Q (.ref D) C) s₃ := by
    refine codeAny_compLoop_tests (fun k s => ∃ i ys nw lv, k + i = n ∧ J i ys nw ∧ lv.map (·.1) = localKeys scope.names ∧ Sx b ((C, lv) :: ns) ((I, X i) :: (D, aList ys) :: nw) s) (fun k s hI => ?_) n ⟨0, [], nw, l0, rfl, h0, hkeys, S₃⟩ hl
    obtain ⟨i, ys, nw, lv, hk, hJ, hlv, S⟩ := hI
    by_cases hi : i < n
    · refine W.item i _ _ s _ _ hi (hneed _ _ (hn _ _ _ hJ)) S fun v s' hv S' => ?_
      refine wpAny_mono (step i ys nw s' v _ C lv (compEnvC scope cl C env) D hi hJ hv rfl VC hlv S' _ ⟨fun h => h⟩) (fun _ s₂ q => wpAny_mono q (fun ok s₃ q => ?_) fun _ _ q => q) fun _ _ q => q
      cases ok with
      | false =>
        rw [if_neg (by decide)] at q ⊢
        obtain ⟨lv', nw', e', hJ', S''⟩ := q
        exact ⟨n - (i + 1), by omega, i + 1, ys, nw', lv', by omega, hJ', e', S''⟩
      | true =>
        rw [if_pos rfl] at q ⊢
        refine wpAny_mono q (fun y s₄ q => ?_) fun _ _ q => q
        obtain ⟨lv', nw', e', hJ', S''⟩ := q
        have := hlen i ys nw hJ
        refine c_append S'' (.tail .head) (by omega) fun s₅ S₅ => ⟨n - (i + 1), by omega, i + 1, ys ++ [y], nw', lv', by omega, hJ', e', S₅⟩
    · have e : i = n := by omega
      subst e
      refine W.done _ _ s _ _ (hneed _ _ (hn _ _ _ hJ)) S fun s' S' => ?_
      exact done ys nw s' D C lv (fun hm => by have nd := S'.st.nd; rw [List.map_cons, List.cons_append, List.nodup_cons] at nd; exact nd.1 (List.mem_append_left _ hm)) hJ S'
  exact codeAny_compStart_list loop (W.self _ _ s₃ _ _ (hneed _ _ (hn _ _ _ h0)) S₃ loop)

theorem comp_block {elt target iter : Expr} {ifs : List Expr} {pos : Pos} {P : Nat → Value → Prop} {X : Nat → Sh} {need : List (Addr × Sh) → Prop} {Q : Value → Shared → Prop} (l0 : Vars) (V : Fn env names cs) (W : WkX prog w A b I n P X need)
    (hN : relN names scope.names = names') (hok : ScOk names') (hok0 : ScOk scope.names) (hkind : scope.kind = .function) (hcell : ∀ y ∈ scope.names, y.2 ≠ .cell) (hkeys : l0.map (·.1) = localKeys scope.names) (hvals : ∀ p ∈ l0, p.2 = none)
    (J : Nat → List Value → List (Addr × Sh) → Prop) (hn : ∀ i ys nw, J i ys nw → need nw) (hneed : ∀ p nw, need nw → need (p :: nw)) (hlen : ∀ i ys nw, J i ys nw → ys.length ≤ 1000)
    (S : Sx b ns ((I, X 0) :: nw) s) (h0 : J 0 [] nw)
    (step : ∀ i ys nw s v E' C lv cenv D, i < n → J i ys nw → P i v → cenv.locals = C → Fn cenv names' cl → lv.map (·.1) = localKeys scope.names → Sx b ((C, lv) :: ns) ((I, X (i + 1)) :: (D, aList ys) :: nw) s →
      ∀ q, Abs (fun y s₄ => ∃ lv' nw', lv'.map (·.1) = localKeys scope.names ∧ J (i + 1) (ys ++ [y]) nw' ∧ Sx b ((C, lv') :: ns) ((I, X (i + 1)) :: (D, aList ys) :: nw') s₄) q → wpAny (model prog w) A (assign target cenv v) (fun _ s₂ => wpAny (model prog w) A (forIn ifs true fun c r => if r = true then do let ok ← isTrue c cenv (eval c cenv); pure (ForInStep.yield ok) else pure (ForInStep.yield r)) (fun ok s₃ =>
        if ok = true then wpAny (model prog w) A (eval elt cenv) q E' s₃
        else ∃ lv' nw', lv'.map (·.1) = localKeys scope.names ∧ J (i + 1) ys nw' ∧ Sx b ((C, lv') :: ns) ((I, X (i + 1)) :: (D, aList ys) :: nw') s₃) E' s₂) E' s)
    (done : ∀ ys nw s D, J n ys nw → Sx b ns ((D, aList ys) :: nw) s → Q (.ref D) s) (hl : ∀ v, letOwnedTupleGo target (.ref I) v = pure ()) :
    wpAny (model prog w) A (newList []) (fun acc s₃ => wpAny (model prog w) A (newFunctionEnv scope env.globals cl [] env.qual none .none (some env)) (fun cenv s₄ =>
      codeAny (model prog w) A (.compStart (.ListComp elt [⟨target, iter, ifs, 0⟩] scope pos) 0 (.ref I) acc { cenv with scope := relabel scope env }) (compPost (model prog w) A E none Q acc cenv.locals) s₄) E s₃) E s := by
  refine comp_blockU (use := none) l0 V W hN hok hok0 hkind hcell hkeys hvals J hn hneed hlen S h0 step (fun ys nw s D C lv hC hJ S' => ?_) hl
  obtain ⟨_, m, hm, _⟩ := (S'.st.held _ (.head _)).1
  exact ⟨m, hm, fun h' hs' => done ys nw _ D hJ (S'.popBut hs'.2)⟩

theorem Sx.swapNs {p q : Addr × Vars} (S : Sx b (p :: q :: ns) nw s) : Sx b (q :: p :: ns) nw s :=
  ⟨⟨S.st.keep, fun r hr => S.st.held r ((List.Perm.swap ..).subset hr), S.st.objs, (List.Perm.nodup_iff (List.Perm.append_right _ (List.Perm.swap ..))).mpr S.st.nd⟩, S.g, S.o⟩
 
/-- NAME = [ELT for ..]: the name is stored ahead of the loop's own variables' end -/
theorem x_assign_comp {elt target iter : Expr} {ifs : List Expr} {nm : Str} {pos pos' spos : Pos} {rest : List Stmt} {Q : Flow → Shared → Prop} (hsw : swapsWith (.ListComp elt [⟨target, iter, ifs, 0⟩] scope pos) (some (.Name nm pos')) spos.line env = pure true) (hok0 : ScOk scope.names) (hkind : scope.kind = .function) (hclos : closureFor scope env = pure cl)
    (h : wpAny (model prog w) A (eval iter env) (fun xv s₁ => wpAny (model prog w) A (pyIter xv) (fun it s₂ => wpAny (model prog w) A (newList []) (fun acc s₃ => wpAny (model prog w) A (newFunctionEnv scope env.globals cl [] env.qual none .none (some env)) (fun cenv s₄ =>
      codeAny (model prog w) A (.compStart (.ListComp elt [⟨target, iter, ifs, 0⟩] scope pos) 0 it acc { cenv with scope := relabel scope env }) (compPost (model prog w) A E (some (assign (.Name nm pos') env)) (fun _ s' => wpAny (model prog w) A (execs rest env) Q E s') acc cenv.locals) s₄) E s₃) E s₂) E s₁) E s)
    (hs : ∀ x, foldedSetIterable iter env x = pure x) : wpAny (model prog w) A (execs (.Assign [.Name nm pos'] (.ListComp elt [⟨target, iter, ifs, 0⟩] scope pos) spos :: rest) env) Q E s := by
  refine wpAny_execs_cons ?_
  rw [exec_Assign_Name_used _ _ _ _ hsw]
  refine wpAny_bind (wpAny_standAt (wpAny_bind ?_))
  show wpAny _ A (do let _ ← comprehension (.ListComp elt [⟨target, iter, ifs, 0⟩] scope pos) scope env _ (newList []) false (eval iter env) (some (assign (.Name nm pos') env))) _ _ s
  exact wpAny_bind (wpAny_mono (wpAny_comprehension_free (use := some (assign (.Name nm pos') env)) (Q := fun _ s' => wpAny (model prog w) A (execs rest env) Q E s') rfl hs hclos hkind (fun x hx hl => by obtain ⟨n, k⟩ := x; cases hl; exact hok0.look hx) h)
    (fun _ s' hq => wpAny_pure (wpAny_pure hq)) fun _ _ e => e)

theorem comp_blockS {elt target iter : Expr} {ifs : List Expr} {pos pos' : Pos} {nm : Str} {lvN : Addr → Vars} {P : Nat → Value → Prop} {X : Nat → Sh} {need : List (Addr × Sh) → Prop} {Q : Value → Shared → Prop} (l0 : Vars) (V : Fn env names cs) (W : WkX prog w A b I n P X need) (hnm : (nm, NameKind.local) ∈ names) {lv0 : Vars} (hput : ∀ D, PutV nm (some (.ref D)) lv0 (lvN D))
    (hN : relN names scope.names = names') (hok : ScOk names') (hok0 : ScOk scope.names) (hkind : scope.kind = .function) (hcell : ∀ y ∈ scope.names, y.2 ≠ .cell) (hkeys : l0.map (·.1) = localKeys scope.names) (hvals : ∀ p ∈ l0, p.2 = none)
    (J : Nat → List Value → List (Addr × Sh) → Prop) (hn : ∀ i ys nw, J i ys nw → need nw) (hneed : ∀ p nw, need nw → need (p :: nw)) (hlen : ∀ i ys nw, J i ys nw → ys.length ≤ 1000)
    (S : Sx b ((env.locals, lv0) :: ns) ((I, X 0) :: nw) s) (h0 : J 0 [] nw)
    (step : ∀ i ys nw s v E' C lv cenv D, i < n → J i ys nw → P i v → cenv.locals = C → Fn cenv names' cl → lv.map (·.1) = localKeys scope.names → Sx b ((C, lv) :: (env.locals, lv0) :: ns) ((I, X (i + 1)) :: (D, aList ys) :: nw) s →
      ∀ q, Abs (fun y s₄ => ∃ lv' nw', lv'.map (·.1) = localKeys scope.names ∧ J (i + 1) (ys ++ [y]) nw' ∧ Sx b ((C, lv') :: (env.locals, lv0) :: ns) ((I, X (i + 1)) :: (D, aList ys) :: nw') s₄) q → wpAny (model prog w) A (assign target cenv v) (fun _ s₂ => wpAny (model prog w) A (forIn ifs true fun c r => if r = true then do let ok ← isTrue c cenv (eval c cenv); pure (ForInStep.yield ok) else pure (ForInStep.yield r)) (fun ok s₃ =>
        if ok = true then wpAny (model prog w) A (eval elt cenv) q E' s₃
        else ∃ lv' nw', lv'.map (·.1) = localKeys scope.names ∧ J (i + 1) ys nw' ∧ Sx b ((C, lv') :: (env.locals, lv0) :: ns) ((I, X (i + 1)) :: (D, aList ys) :: nw') s₃) E' s₂) E' s)
    (done : ∀ ys nw s D, J n ys nw → Sx b ((env.locals, lvN D) :: ns) ((D, aList ys) :: nw) s → Q .none s) (hl : ∀ v, letOwnedTupleGo target (.ref I) v = pure ()) :
    wpAny (model prog w) A (newList []) (fun acc s₃ => wpAny (model prog w) A (newFunctionEnv scope env.globals cl [] env.qual none .none (some env)) (fun cenv s₄ =>
      codeAny (model prog w) A (.compStart (.ListComp elt [⟨target, iter, ifs, 0⟩] scope pos) 0 (.ref I) acc { cenv with scope := relabel scope env }) (compPost (model prog w) A E (some (assign (.Name nm pos') env)) Q acc cenv.locals) s₄) E s₃) E s := by
  refine comp_blockU (use := some (assign (.Name nm pos') env)) l0 V W hN hok hok0 hkind hcell hkeys hvals J hn hneed hlen S h0 step (fun ys nw s D C lv hC hJ S' => ?_) hl
  refine wpAny_assign_Name (st_loc V S'.swapNs hnm (hput D) fun s' S2 => ?_)
  have S3 := S2.swapNs
  obtain ⟨_, m, hm, _⟩ := (S3.st.held _ (.head _)).1
  exact ⟨m, hm, fun h' hs' => done ys nw _ D hJ (S3.popBut hs'.2)⟩

theorem e_comp {elt target iter : Expr} {ifs : List Expr} {pos : Pos} {Q : Value → Shared → Prop} (hok0 : ScOk scope.names) (hkind : scope.kind = .function) (hclos : closureFor scope env = pure cl)
    (h : wpAny (model prog w) A (eval iter env) (fun xv s₁ => wpAny (model prog w) A (pyIter xv) (fun it s₂ => wpAny (model prog w) A (newList []) (fun acc s₃ => wpAny (model prog w) A (newFunctionEnv scope env.globals cl [] env.qual none .none (some env)) (fun cenv s₄ =>
      codeAny (model prog w) A (.compStart (.ListComp elt [⟨target, iter, ifs, 0⟩] scope pos) 0 it acc { cenv with scope := relabel scope env }) (compPost (model prog w) A E none Q acc cenv.locals) s₄) E s₃) E s₂) E s₁) E s)
    (hs : ∀ x, foldedSetIterable iter env x = pure x) : wpAny (model prog w) A (eval (.ListComp elt [⟨target, iter, ifs, 0⟩] scope pos) env) Q E s := by
  rw [eval_ListComp]
  exact wpAny_comprehension_free (use := none) rfl hs hclos hkind (fun x hx hl => by obtain ⟨n, k⟩ := x; cases hl; exact hok0.look hx) h
theorem tests_nil {Q : Bool → Shared → Prop} (h : Q true s) : wpAny (model prog w) A (forIn ([] : List Expr) true fun c r => if r = true then do let ok ← isTrue c env (eval c env); pure (ForInStep.yield ok) else pure (ForInStep.yield r)) Q E s := wpAny_tests_nil h
theorem tests_one {c : Expr} {Q : Bool → Shared → Prop} (h : wpAny (model prog w) A (isTrue c env (eval c env)) Q E s) :
    wpAny (model prog w) A (forIn [c] true fun c r => if r = true then do let ok ← isTrue c env (eval c env); pure (ForInStep.yield ok) else pure (ForInStep.yield r)) Q E s := wpAny_tests_one h

theorem sw_comp {elt : Expr} {gens : List Comprehension} {nm : Str} {pos pos' : Pos} {line : Nat} (V : Fn env names cs) (hk : (nm, NameKind.local) ∈ names) (h1 : (pos'.line == pos.line) = true) (h2 : (scope.names.any fun x => x.1 == nm && (x.2 == .local || x.2 == .cell)) = false) :
    swapsWith (.ListComp elt gens scope pos) (some (.Name nm pos')) line env = pure true := by
  have hb : (env.blockKind == ScopeKind.function) = true := by unfold Env.blockKind; rw [V.kind]; rfl
  have hl : (env.kindOf nm == some NameKind.local) = true := by
    have : env.kindOf nm = some .local := by show env.scope.names.lookup nm = _; rw [V.nm]; exact V.ok.look hk
    rw [this]; rfl
  show (pure (env.blockKind == .function && env.kindOf nm == some .local && pos'.line == pos.line && !(scope.names.any fun x => x.1 == nm && (x.2 == .local || x.2 == .cell))) : Sem Bool) = _
  rw [hb, hl, h1, h2]; rfl
end

end
section
inductive A2 {α : Type} (R : α → α → Prop) : List α → List α → Prop
  | nil : A2 R [] []
  | cons {a b l m} : R a b → A2 R l m → A2 R (a :: l) (b :: m)
theorem A2.len {α : Type} {R : α → α → Prop} {l m : List α} (h : A2 R l m) : l.length = m.length := by
  induction h with
  | nil => rfl
  | cons _ _ ih => simp [ih]
theorem A2.at {α : Type} {R : α → α → Prop} {l m : List α} (h : A2 R l m) : ∀ j (h1 : j < l.length) (h2 : j < m.length), R l[j] m[j] := by
  induction h with
  | nil => intro j h1; simp at h1
  | cons r _ ih =>
    intro j h1 h2
    cases j with
    | zero => exact r
    | succ j => exact ih j (by simpa using h1) (by simpa using h2)
theorem A2.refl {α : Type} {R : α → α → Prop} (h : ∀ a, R a a) : ∀ l : List α, A2 R l l
  | [] => .nil
  | a :: l => .cons (h a) (A2.refl h l)
/-- values that compare as the same, d levels deep -/
def SmD (nw : List (Addr × Sh)) : Nat → Value → Value → Prop
  | 0, y, x => y = x ∨ (∃ n t u, y = .int n t ∧ x = .int n u) ∨ (∃ n t u, y = .str n t ∧ x = .str n u)
  | d + 1, y, x => SmD nw d y x ∨ (∃ l l2 its its2, y = .ref l ∧ x = .ref l2 ∧ (l, aList its) ∈ nw ∧ (l2, aList its2) ∈ nw ∧ A2 (SmD nw d) its its2) ∨ (∃ l l2 its its2, y = .ref l ∧ x = .ref l2 ∧ (l, aTup its) ∈ nw ∧ (l2, aTup its2) ∈ nw ∧ A2 (SmD nw d) its its2)
section
variable {prog : Program} {w : World} {A : Around} {E : Value → Shared → Prop} {s : Shared} {b : Shared} {ns : List (Addr × Vars)} {nw nw' : List (Addr × Sh)} {n d : Nat} {env : Env} {its its2 : List Value} {l l2 : Addr} {y x : Value}

theorem all_true : ∀ l : List Nat, (l.all fun _ => true) = true
  | [] => rfl
  | _ :: r => by rw [List.all_cons, all_true r]; rfl
theorem SmD.refl : ∀ {d : Nat} (v : Value), SmD nw d v v
  | 0, _ => .inl rfl
  | _ + 1, v => .inl (SmD.refl v)
theorem SmD.int : ∀ {d : Nat} {n : Int} {t u : Tok}, SmD nw d (.int n t) (.int n u)
  | 0, _, _, _ => .inr (.inl ⟨_, _, _, rfl, rfl⟩)
  | _ + 1, _, _, _ => .inl SmD.int
theorem SmD.str : ∀ {d : Nat} {n : Str} {t u : Tok}, SmD nw d (.str n t) (.str n u)
  | 0, _, _, _ => .inr (.inr ⟨_, _, _, rfl, rfl⟩)
  | _ + 1, _, _, _ => .inl SmD.str
theorem SmD.list (h1 : (l, aList its) ∈ nw) (h2 : (l2, aList its2) ∈ nw) (h : A2 (SmD nw d) its its2) : SmD nw (d + 1) (.ref l) (.ref l2) := .inr (.inl ⟨_, _, _, _, rfl, rfl, h1, h2, h⟩)
theorem SmD.tup (h1 : (l, aTup its) ∈ nw) (h2 : (l2, aTup its2) ∈ nw) (h : A2 (SmD nw d) its its2) : SmD nw (d + 1) (.ref l) (.ref l2) := .inr (.inr ⟨_, _, _, _, rfl, rfl, h1, h2, h⟩)
theorem SmD.up (h : SmD nw d y x) : SmD nw (d + 1) y x := .inl h

open PySem.SeqAt PySem.MeetsSeq in
theorem SmD.eqAt (S : Sx b ns nw s) : ∀ {d : Nat} {A : Around} {y x : Value}, SmD nw d y x → A.units + d < cLine → EqAt A s y x true
  | 0, A, y, x, h, hu => by
    rcases h with rfl | ⟨n, t, u, rfl, rfl⟩ | ⟨n, t, u, rfl, rfl⟩
    · exact EqAt.same _
    · have := (eq_isInt n u (.cons n t .nil) (.int n t) (by simp)).at A s
      simpa [isInt] using this
    · have := (eqGives_str n n t u).at A s
      simpa using this
  | d + 1, A, y, x, h, hu => by
    rcases h with h | ⟨l, l2, its, its2, rfl, rfl, h1, h2, h⟩ | ⟨l, l2, its, its2, rfl, rfl, h1, h2, h⟩
    · exact SmD.eqAt S h (by omega)
    · by_cases e : l = l2
      · subst e; exact EqAt.same _
      · refine EqAt.of_refs e ?_
        have := RcAt.lists (e := fun _ => true) (A := A) (S.st.isList h1) (S.st.isList h2) (by simpa using h.len) (by omega) (fun j j1 j2 => SmD.eqAt S (h.at j (by simpa using j1) (by simpa using j2)) (by show A.units + 1 + d < _; omega))
        rw [all_true] at this
        exact this
    · by_cases e : l = l2
      · subst e; exact EqAt.same _
      · refine EqAt.of_refs e ?_
        have := RcAt.tuples (e := fun _ => true) (A := A) (S.st.isTup h1) (S.st.isTup h2) (by omega) (fun j j1 j2 => SmD.eqAt S (h.at j (by simpa using j1) (by simpa using j2)) (by show A.units + 1 + d < _; omega))
        have hl := h.len
        rw [all_true, show (its.toArray.size == its2.toArray.size) = true from by simp [hl]] at this
        exact this

open PySem.SeqAt PySem.MeetsSeq in
theorem cmp_nel {Q : Value → Shared → Prop} {m : Nat} {Ls : List Addr} (d : Nat) (S : Sx b ns nw s) (a : Ar A m Ls) (h1 : (l, aList its) ∈ nw) (h2 : (l2, aList its2) ∈ nw) (h : A2 (SmD nw d) its its2) (hq : Q (.bool false) s) (hd : d ≤ 40 := by decide) : wpAny (model prog w) A (compareOp .NotEq (.ref l) (.ref l2)) Q E s := by
  show wpAny _ _ (richCompare .NotEq (.ref l) (.ref l2)) _ _ _
  have hu := a.uni
  have := RcNeAt.lists (e := fun _ => true) (A := A) (S.st.isList h1) (S.st.isList h2) (by simpa using h.len) (by omega) (fun j j1 j2 => SmD.eqAt S (h.at j (by simpa using j1) (by simpa using j2)) (by show A.units + 1 + d < _; omega))
  rw [all_true] at this
  exact this prog w E Q hq
open PySem.SeqAt PySem.MeetsSeq in
theorem cmp_net {Q : Value → Shared → Prop} {m : Nat} {Ls : List Addr} (d : Nat) (S : Sx b ns nw s) (a : Ar A m Ls) (h1 : (l, aTup its) ∈ nw) (h2 : (l2, aTup its2) ∈ nw) (h : A2 (SmD nw d) its its2) (hq : Q (.bool false) s) (hd : d ≤ 40 := by decide) : wpAny (model prog w) A (compareOp .NotEq (.ref l) (.ref l2)) Q E s := by
  show wpAny _ _ (richCompare .NotEq (.ref l) (.ref l2)) _ _ _
  have hu := a.uni
  have hl := h.len
  have := RcNeAt.tuples (e := fun _ => true) (A := A) (S.st.isTup h1) (S.st.isTup h2) (by omega) (fun j j1 j2 => SmD.eqAt S (h.at j (by simpa using j1) (by simpa using j2)) (by show A.units + 1 + d < _; omega))
  rw [all_true, show (its.toArray.size == its2.toArray.size) = true from by simp [hl]] at this
  exact this prog w E Q hq
open PySem.SeqAt PySem.MeetsSeq in
theorem cmp_eql {Q : Value → Shared → Prop} {m : Nat} {Ls : List Addr} (d : Nat) (S : Sx b ns nw s) (a : Ar A m Ls) (h1 : (l, aList its) ∈ nw) (h2 : (l2, aList its2) ∈ nw) (h : A2 (SmD nw d) its its2) (hq : Q (.bool true) s) (hd : d ≤ 40 := by decide) : wpAny (model prog w) A (compareOp .Eq (.ref l) (.ref l2)) Q E s := by
  show wpAny _ _ (richCompare .Eq (.ref l) (.ref l2)) _ _ _
  have hu := a.uni
  have := RcAt.lists (e := fun _ => true) (A := A) (S.st.isList h1) (S.st.isList h2) (by simpa using h.len) (by omega) (fun j j1 j2 => SmD.eqAt S (h.at j (by simpa using j1) (by simpa using j2)) (by show A.units + 1 + d < _; omega))
  rw [all_true] at this
  exact this prog w E Q hq
open PySem.SeqAt PySem.MeetsSeq in
theorem cmp_eqt {Q : Value → Shared → Prop} {m : Nat} {Ls : List Addr} (d : Nat) (S : Sx b ns nw s) (a : Ar A m Ls) (h1 : (l, aTup its) ∈ nw) (h2 : (l2, aTup its2) ∈ nw) (h : A2 (SmD nw d) its its2) (hq : Q (.bool true) s) (hd : d ≤ 40 := by decide) : wpAny (model prog w) A (compareOp .Eq (.ref l) (.ref l2)) Q E s := by
  show wpAny _ _ (richCompare .Eq (.ref l) (.ref l2)) _ _ _
  have hu := a.uni
  have hl := h.len
  have := RcAt.tuples (e := fun _ => true) (A := A) (S.st.isTup h1) (S.st.isTup h2) (by omega) (fun j j1 j2 => SmD.eqAt S (h.at j (by simpa using j1) (by simpa using j2)) (by show A.units + 1 + d < _; omega))
  rw [all_true, show (its.toArray.size == its2.toArray.size) = true from by simp [hl]] at this
  exact this prog w E Q hq
/-- two of the call's own are two -/
theorem St.two {bh hh : Heap} {x y : Sh} (S : St bh ns nw hh) {i j : Nat} (hi : nw[i]? = some (l, x)) (hj : nw[j]? = some (l2, y)) (h : i ≠ j) : l ≠ l2 := fun e => by
  have nd := (List.nodup_append.mp S.nd).2.1
  subst e
  have h1 : (nw.map (·.1))[i]? = some l := by rw [List.getElem?_map, hi]; rfl
  have h2 : (nw.map (·.1))[j]? = some l := by rw [List.getElem?_map, hj]; rfl
  have hil := (List.getElem?_eq_some_iff.mp h1)
  have hjl := (List.getElem?_eq_some_iff.mp h2)
  obtain ⟨hi1, hi2⟩ := hil
  obtain ⟨hj1, hj2⟩ := hjl
  exact h ((List.getElem_inj nd).mp (hi2.trans hj2.symm))

open PySem.SeqAt PySem.MeetsSeq in
theorem cmp_ne_len {Q : Value → Shared → Prop} {m : Nat} {Ls : List Addr} (S : Sx b ns nw s) (a : Ar A m Ls) (h1 : (l, aList its) ∈ nw) (h2 : (l2, aList its2) ∈ nw) (h : its.length ≠ its2.length) (hq : Q (.bool true) s) : wpAny (model prog w) A (compareOp .NotEq (.ref l) (.ref l2)) Q E s := by
  show wpAny _ _ (richCompare .NotEq (.ref l) (.ref l2)) _ _ _
  have hu := a.uni
  exact RcNeAt.lists_lengths (A := A) (S.st.isList h1) (S.st.isList h2) (by simpa using h) (by omega) prog w E Q hq
theorem n_none_none {Q : Value → Shared → Prop} (hq : Q (.bool false) s) : wpAny (model prog w) A (compareOp .NotEq .none .none) Q E s := PySem.SeqAt.RcNeAt.none_none prog w E Q hq
inductive Ex (p : Addr × Sh) : List (Addr × Sh) → List (Addr × Sh) → Prop
  | here {r} : Ex p (p :: r) r
  | skip {q r r'} : Ex p r r' → Ex p (q :: r) (q :: r')
inductive Pk : List (Addr × Sh) → List (Addr × Sh) → Prop
  | refl (t) : Pk t t
  | take {p t s s'} : Ex p s s' → Pk t s' → Pk (p :: t) s
  | drop {q t s} : Pk t s → Pk t (q :: s)
theorem Ex.perm {p : Addr × Sh} {u v : List (Addr × Sh)} (h : Ex p u v) : List.Perm u (p :: v) := by
  induction h with
  | here => exact List.Perm.refl _
  | skip _ ih => exact (List.Perm.cons _ ih).trans (List.Perm.swap ..)
theorem Pk.perm {t u : List (Addr × Sh)} (h : Pk t u) : ∃ l, List.Perm (t ++ l) u := by
  induction h with
  | refl t => exact ⟨[], by rw [List.append_nil]⟩
  | take e _ ih => obtain ⟨l, h⟩ := ih; exact ⟨l, (List.Perm.cons _ h).trans e.perm.symm⟩
  | @drop q t s _ ih => obtain ⟨l, h⟩ := ih; exact ⟨q :: l, (List.perm_middle).trans (List.Perm.cons _ h)⟩
theorem Sx.pk (S : Sx b ns nw s) (h : Pk nw' nw) : Sx b ns nw' s := by
  obtain ⟨l, h⟩ := h.perm
  exact ⟨(S.st.perm h).sub (List.sublist_append_left _ _), S.g, S.o⟩
theorem Sx.ne2 {n1 n2 : List (Addr × Sh)} {p q : Addr} {x y : Sh} (S : Sx b ns nw s) (e1 : Ex (p, x) nw n1) (e2 : Ex (q, y) n1 n2) : p ≠ q := fun e => by
  have nd := (List.nodup_append.mp S.st.nd).2.1
  have h := (e1.perm.trans (List.Perm.cons _ e2.perm)).map (·.1)
  have nd' := h.nodup_iff.mp nd
  rw [List.map_cons, List.map_cons, List.nodup_cons] at nd'
  exact nd'.1 (by rw [e]; exact .head _)
end

end
section
section
variable {prog : Program} {w : World} {A : Around} {E : Value → Shared → Prop} {s : Shared} {b : Shared} {ns : List (Addr × Vars)} {nw nw' : List (Addr × Sh)} {n : Nat} {env : Env} {its : List Value} {t : Addr} {names : List (Str × NameKind)} {cs : List (Str × Addr)}

theorem sw_of {targets : List Expr} {value : Expr} {r : Option (List Str)} (V : Fn env names cs) (h : swappedStores targets value { env with scope := { env.scope with kind := .function, names := names } } = pure r) : swappedStores targets value env = pure r := by
  have e : ({ env with scope := { env.scope with kind := .function, names := names } } : Env) = env := by
    have h1 := V.kind
    have h2 := V.nm
    obtain ⟨⟨k, nn, g, c, m⟩, _, _, _, _, _, _, _, _⟩ := env
    simp only at h1 h2
    subst h1 h2
    rfl
  rw [← e]; exact h
theorem x_swap {elts : List Expr} {k : Nat} {tpos pos : Pos} {value : Expr} {rest : List Stmt} {ss : List Str} {Q : Flow → Shared → Prop}
    (h : wpAny (model prog w) A (eval value env) (fun v s₁ => wpAny (model prog w) A (unpackItems v ss.length none) (fun items s₂ =>
      wpAny (model prog w) A (assignInOrder (ss.reverse.map fun n => bindName env n) items.reverse) (fun _ s₃ => wpAny (model prog w) A (execs rest env) Q E s₃) E s₂) E s₁) E s)
    (hs : swapsWithSole [.Tuple elts k tpos] value pos.line env = pure false) (hw : swappedStores [.Tuple elts k tpos] value env = pure (some ss)) :
    wpAny (model prog w) A (execs (.Assign [.Tuple elts k tpos] value pos :: rest) env) Q E s :=
  wpAny_execs_cons (Assign_Tuple_swapped h hs hw)
theorem x_tup {elts : List Expr} {k : Nat} {tpos pos : Pos} {value : Expr} {rest : List Stmt} {Q : Flow → Shared → Prop}
    (h : wpAny (model prog w) A (eval value env) (fun v s₁ => wpAny (model prog w) A (assign (.Tuple elts k tpos) env v) (fun _ s₃ => wpAny (model prog w) A (execs rest env) Q E s₃) E s₁) E s)
    (hs : swapsWithSole [.Tuple elts k tpos] value pos.line env = pure false) (hw : swappedStores [.Tuple elts k tpos] value env = pure none) :
    wpAny (model prog w) A (execs (.Assign [.Tuple elts k tpos] value pos :: rest) env) Q E s :=
  wpAny_execs_cons (Assign_Tuple h hs hw)
theorem u_tup {Q : List Value → Shared → Prop} (S : Sx b ns nw s) (hm : (t, aTup its) ∈ nw) (hA : A.handled = none) (hn : its.length = n) (h : ∀ s', Sx b ns nw s' → Q its s') : wpAny (model prog w) A (unpackItems (.ref t) n none) Q E s := by
  have := wpAny_unpackItems_tuple (prog := prog) (w := w) (E := E) (Q := Q) hA (S.st.isTup hm) (fun h' hx => h _ (S.ext (tk := s.toks) fun a o e => hx a o (Nat.ne_of_lt (Heap.lt_size e)) e))
  rw [List.size_toArray, hn] at this
  exact this
theorem as_tup {elts : List Expr} {k : Nat} {pos : Pos} {Q : Unit → Shared → Prop} (S : Sx b ns nw s) (hm : (t, aTup its) ∈ nw) (hA : A.handled = none) (hn : (assignEach elts env).length = its.length) (hstar : (assignEach elts env).findIdx? (·.1) = none)
    (h : ∀ s', Sx b ns nw s' → wpAny (model prog w) A (assignInOrder ((assignEach elts env).map (·.2)) its) Q E s') : wpAny (model prog w) A (assign (.Tuple elts k pos) env (.ref t)) Q E s :=
  wpAny_assign_Tuple hA (S.st.isTup hm) (by simpa using hn) hstar fun h' hx => h _ (S.ext (tk := s.toks) fun a o e => hx a o (Nat.ne_of_lt (Heap.lt_size e)) e)

theorem lam_any {c P : Addr} {params : Arguments} {body : Expr} {scope : Scope} {pos : Pos} {clos : List (Str × Addr)} {rest : List (Addr × Sh)} {Q : Value → Shared → Prop} (Z : Bs w b.heap) (V : Fn env names cs) (S : Sx b ns nw s) (hcode : env.code = .ref c) (C : CodeHd b.heap c P)
    (hst : Pk ((P, anObj (tabObj #[])) :: rest) nw ∨ ∃ c, Pk ((P, anObj (tabObj (#[] ++ #[rawInt pos.line, rawInt pos.col, .ref c]))) :: (c, aCode (env.qual ++ Str.ofString "<lambda>")) :: rest) nw)
    (hcl : closureFor scope env = pure clos) (hdef : defaultsOf params env = ([], []))
    (h : ∀ c f s', Sx b ns ((f, aLam (env.qual ++ Str.ofString "<lambda>") params body scope clos c) :: (P, anObj (tabObj (#[] ++ #[rawInt pos.line, rawInt pos.col, .ref c]))) :: (c, aCode (env.qual ++ Str.ofString "<lambda>")) :: rest) s' → Q (.ref f) s') :
    wpAny (model prog w) A (eval (.Lambda params body scope pos) env) Q E s := by
  rcases hst with hst | ⟨c, hst⟩
  · exact lam_miss Z V (S.pk hst) hcode C (.head _) trivial rfl hcl hdef fun c f s' S' => h c f s' ((S' _ .head).pk (.take .here (.take (.skip .here) (.refl _))))
  · refine lam_hit (c' := c) Z V (S.pk hst) hcode C (.head _) trivial ?_ hcl hdef fun f s' S' => h c f s' S'
    show (if (((pos.line : Nat) : Int) == ((pos.line : Nat) : Int) && ((pos.col : Nat) : Int) == ((pos.col : Nat) : Int)) = true then _ else _) = _
    rw [if_pos (by simp)]
    rfl

theorem call_g0 {f : Addr} {nm : Str} {pos np : Pos} {Q : Value → Shared → Prop} (Z : Bs w b.heap) (V : Fn env names cs) (S : Sx b ns nw s) (hk : (nm, NameKind.globalImplicit) ∈ names) (hv : (nm, .ref f) ∈ GF)
    (h : wpAny (model prog w) A (call (.ref f) []) Q E s) : wpAny (model prog w) A (eval (.Call (.Name nm np) [] [] pos) env) Q E s :=
  Call_ (e_global Z V S hk (gf_ok (w := w) _ hv).1 (callWith_K0 (first := []) (S.K Z) ((gf_ok _ hv).2 _ rfl) h))

theorem c_listL {l : Addr} {Q : Value → Shared → Prop} (S : Sx b ns nw s) (hm : (l, aList its) ∈ nw) (hz : its.length ≤ 1000) (h : ∀ D s', Sx b ns ((D, aList its) :: nw) s' → Q (.ref D) s') : wpAny (model prog w) A (call (.type "list") [.ref l]) Q E s := by
  obtain ⟨o, ho, hc, n, hd⟩ := S.st.isList hm
  exact call_list_seq (hsz := by rw [List.size_toArray, sizeLine_eq]; omega) l (.inl rfl) ho hc hd fun h' c' hk hD => h _ _ ⟨S.st.push hk ⟨_, hD, c', rfl⟩ (Nat.le_refl _), S.g, S.o⟩
theorem c_listT {l : Addr} {Q : Value → Shared → Prop} (S : Sx b ns nw s) (hm : (l, aTup its) ∈ nw) (hz : its.length ≤ 1000) (h : ∀ D s', Sx b ns ((D, aList its) :: nw) s' → Q (.ref D) s') : wpAny (model prog w) A (call (.type "list") [.ref l]) Q E s := by
  obtain ⟨o, ho, hc, n, hd⟩ := S.st.isTup hm
  exact call_list_seq (hsz := by rw [List.size_toArray, sizeLine_eq]; omega) l (.inr rfl) ho hc hd fun h' c' hk hD => h _ _ ⟨S.st.push hk ⟨_, hD, c', rfl⟩ (Nat.le_refl _), S.g, S.o⟩
end

end
section
variable {prog : Program} {w : World} {A : Around} {E : Value → Shared → Prop} {s : Shared} {b : Shared} {ns : List (Addr × Vars)} {nw nw' : List (Addr × Sh)} {n : Nat} {env : Env} {names : List (Str × NameKind)} {l pen : Addr} {its vs : List Value} {v x : Value} {k : Int} {u t : Tok} {cs : List (Str × Addr)} {tp : Addr}
theorem c_len_tup {Q : Value → Shared → Prop} (S : Sx b ns nw s) (hm : (tp, aTup its) ∈ nw) (hk : its.length < 2 ^ 62) (h : ∀ t s', Sx b ns nw s' → Q (.int its.length t) s') : wpAny (model prog w) A (call (.builtin "len") [.ref tp]) Q E s :=
  PyProof.Rows.len_tuple (S.st.isTup hm) (by simp; omega) (by simpa using h _ _ S.tok)
theorem g_tup {Q : Value → Shared → Prop} (S : Sx b ns nw s) (hm : (tp, aTup its) ∈ nw) (h0 : 0 ≤ k) (h1 : k < its.length) (hl : its.length < 2 ^ 62) (hx : its[k.toNat]? = some x) (h : Q x s) {value slice : Expr}
    (hs : subscripted slice false (.ref tp) (.int k u) = operate [.ref tp, .int k u] (getItem (.ref tp) (.int k u))) :
    wpAny (model prog w) A (subscriptTail value slice (.ref tp) (.int k u)) Q E s :=
  item_tupleT (S.st.isTup hm) (by omega) (by omega) (by unfold seqIndex?; first | (simp; omega) | (split <;> simp_all <;> omega)) hx h hs

theorem cw1 {f : Addr} {e : Expr} {rest : List Expr} {pos : Pos} {Q : Value → Shared → Prop} (Z : Bs w b.heap) (hk : keepIn (hd.heap_1 w.params) (.ref f) = true)
    (h : wpAny (model prog w) A (spliced (backTo pos (starEach (e :: rest) env))) (fun vs s₁ => (hd.heap_1 w.params).In s₁.heap ∧ wpAny (model prog w) A (call (.ref f) (x :: vs)) Q E s₁) E s)
    (he : starEach (e :: rest) env = (false, eval e env) :: starEach rest env) (hplain : (backTo pos (starEach rest env)).any (·.1) = false) :
    wpAny (model prog w) A (callWith pos (.ref f) [x] (backTo pos (starEach (e :: rest) env)) []) Q E s := callWith_K (first := [x]) Z.X hk h he hplain
theorem cw0 {f : Addr} {pos : Pos} {Q : Value → Shared → Prop} (Z : Bs w b.heap) (S : Sx b ns nw s) (hk : keepIn (hd.heap_1 w.params) (.ref f) = true) (h : wpAny (model prog w) A (call (.ref f) [x]) Q E s) :
    wpAny (model prog w) A (callWith pos (.ref f) [x] (backTo pos (starEach [] env)) []) Q E s := callWith_K0 (first := [x]) (S.K Z) hk h
theorem Sx.drop {p : Addr × Sh} (S : Sx b ns (p :: nw) s) : Sx b ns nw s := ⟨S.st.sub (List.sublist_cons_self _ _), S.g, S.o⟩
theorem Sx.sub (S : Sx b ns nw s) (k : List.Sublist nw' nw) : Sx b ns nw' s := ⟨S.st.sub k, S.g, S.o⟩
theorem Fly.sub {x : Str} {ex : Value} (f : Fly b ns nw x ex s) (k : List.Sublist nw' nw) : Fly b ns nw' x ex s := by
  obtain ⟨e, dx, T, t, r, S⟩ := f
  exact ⟨e, dx, T, t, r, S.sub (.cons_cons _ (.cons_cons _ (.cons_cons _ k)))⟩

end
section
variable {prog : Program} {w : World} {A : Around} {E : Value → Shared → Prop} {s : Shared} {b : Shared} {ns : List (Addr × Vars)} {nw nw' : List (Addr × Sh)} {n : Nat} {env : Env} {names : List (Str × NameKind)} {l pen : Addr} {its vs : List Value} {v : Value} {k : Int} {u t : Tok} {cs : List (Str × Addr)} {x dx m kk a0 a1 a2 a3 el da ex : Addr}
theorem c_in {it : List Int} {y : Int} {Q : Value → Shared → Prop} (S : Sx b ns nw s) (hm : (l, aList its) ∈ nw) (hi : IntsAre its it) (h : Q (.bool (it.any fun z => z == y)) s) : wpAny (model prog w) A (compareOp .In (.int y u) (.ref l)) Q E s :=
  in_list_ints (S.st.isList hm) hi h

theorem c_index {it : List Int} {y : Int} {Q : Value → Shared → Prop} {j : Nat} (S : Sx b ns nw s) (hm : (l, aList its) ∈ nw) (hi : IntsAre its it) (hlen : its.length ≤ 100) (hj : j < it.length) (hy : it[j]? = some y) (hno : ∀ i, i < j → it[i]? ≠ some y)
    (h : ∀ t s', Sx b ns nw s' → Q (.int j t) s') : wpAny (model prog w) A (call (.builtin "list.index") [.ref l, .int y u]) Q E s := by
  obtain ⟨n, ho⟩ := S.st.listObj hm
  have hL : its.length = it.length := hi.length
  refine call_meets PySem.F.slot_list_index ⟨_, ho, rfl⟩ PySem.F.entry_list_index (PySem.F.args_list_index_2 _ _)
    (MeetsSeq.list_index l its.toArray n (.int y u) (isInt y) (fun z hz => eq_isInt y u hi z (by simpa using hz)) j (by simp; omega) (by omega) ?_ (fun i hi' hlt => ?_)) ⟨ho, h _ _ S.tok⟩
  · have h1 : its[j]? = some its[j] := List.getElem?_eq_getElem (by omega)
    obtain ⟨z, t, e, e2⟩ := hi.at j _ h1
    rw [hy] at e2; cases e2
    simp only [List.getElem_toArray]
    rw [e]; simp [isInt]
  · have hlt2 : i < its.length := by simpa using hi'
    have h1 : its[i]? = some its[i] := List.getElem?_eq_getElem hlt2
    obtain ⟨z, t, e, e2⟩ := hi.at i _ h1
    simp only [List.getElem_toArray]
    rw [e]
    have := hno i hlt
    rw [e2] at this
    simp [isInt]; intro q; exact this (by rw [q])
theorem list_method {nm : Str} {id : String} {pl : Sem Bool} {Q : Value × List Value → Shared → Prop} (slot : Slot "list" nm id) (hty : typeOf (.builtin id) = pure (.type "method_descriptor")) (S : Sx b ns nw s) (hm : (l, aList its) ∈ nw) (h : Q (.builtin id, [.ref l]) s) :
    wpAny (model prog w) A (getMethod (.ref l) nm pl) Q E s := by
  obtain ⟨n, ho⟩ := S.st.listObj hm
  exact getMethod_builtin ⟨_, ho, rfl⟩ PySem.F.plainAttrs_list slot hty (fun a e => by cases e; exact ⟨_, ho, rfl⟩) h
theorem c_extend {its2 : List Value} {l2 : Addr} {Q : Value → Shared → Prop} (S : Sx b ns nw s) (P : PutO l (aList its) (aList (its ++ its2)) nw nw') (hm2 : (l2, aList its2) ∈ nw) (hz : its.length ≤ 1000) (hz2 : its2.length ≤ 1000) (h : ∀ s', Sx b ns nw' s' → Q .none s') :
    wpAny (model prog w) A (call (.builtin "list.extend") [.ref l, .ref l2]) Q E s := by
  obtain ⟨n, ho⟩ := S.st.listObj P.mem
  obtain ⟨n2, ho2⟩ := S.st.listObj hm2
  refine call_meets PySem.F.slot_list_extend ⟨_, ho, rfl⟩ PySem.F.entry_list_extend (PySem.F.args_list_extend_2 _ _) (PySem.AutoSeq1.list_extend_list_list_0 l its.toArray n l2 its2.toArray n2 ?_ ?_ ?_)
    ⟨ho, ho2, h _ ⟨S.st.upd P (fun c hc => Heap.get?_update_other _ _ (Ne.symm hc)) ⟨_, Heap.get?_update_self _ ho rfl, ?_⟩, S.g, S.o⟩⟩
  · simp [Builtin.List.listTooLong, sizeLine_eq]; intros; omega
  · simp [sizeLine_eq]; omega
  · simp [sizeLine_eq]; omega
  · simp [Obj.mapSeq]; exact ⟨_, rfl⟩
end
section
variable {w : World} {A : Around} {E : Value → Shared → Prop} {s : Shared} {b : Shared} {ns : List (Addr × Vars)} {nw nw' : List (Addr × Sh)} {n : Nat} {env : Env} {names : List (Str × NameKind)} {l pen d : Addr} {its vs : List Value} {v : Value} {k : Int} {u t : Tok} {cs : List (Str × Addr)} {x dx m kk a0 a1 a2 a3 el da ex : Addr} {kvs kvs2 : List (Str × Value)} {nm : Str}
def aDic (w : World) (kvs : List (Str × Value)) : Sh := fun o => o.IsDictOf (strKind PySem.Challenge.pw_nm0155_01 w) kvs
theorem Sx.dic (S : Sx b ns nw s) (hd : (d, aDic w kvs) ∈ nw) : s.heap.DictOf (strKind PySem.Challenge.pw_nm0155_01 w) d kvs := by
  obtain ⟨⟨o, ho, h⟩, _⟩ := S.st.objs _ hd
  exact Heap.dictOf_iff.mpr ⟨o, ho, h⟩
theorem d_new {pos : Pos} {Q : Value → Shared → Prop} (Z : Bs w b.heap) (S : Sx b ns nw s) (h : ∀ d s', (d == sysModules) = false → Sx b ns ((d, aDic w []) :: nw) s' → Q (.ref d) s') : wpAny (model PySem.Challenge.pw_nm0155_01 w) A (eval (.Dict [] [] pos) env) Q E s := by
  have hlow : sysModules < s.heap.objs.size := modules_low (Z.lim.keeps S.st.keep)
  refine wpAny_Dict_empty (h s.heap.objs.size _ (beq_eq_false_iff_ne.mpr (Nat.ne_of_gt hlow)) ⟨S.st.alloc ?_, S.g, S.o⟩)
  obtain ⟨o, ho, hd⟩ := Heap.dictOf_iff.mp (Heap.DictOf.new (knd := strKind PySem.Challenge.pw_nm0155_01 w) s.heap)
  rw [Heap.get?_push_size _ rfl] at ho
  exact (Option.some.inj ho) ▸ hd
theorem d_in {Q : Value → Shared → Prop} (S : Sx b ns nw s) (hd : (d, aDic w kvs) ∈ nw) (hds : (d == sysModules) = false) (h : ∀ s', Sx b ns nw s' → Q (.bool (valueAt kvs nm).isSome) s') : wpAny (model PySem.Challenge.pw_nm0155_01 w) A (compareOp .In (.str nm t) (.ref d)) Q E s :=
  wpAny_in_of (strKind_is _ _ _ _) hds (S.dic hd).mapOf (h _ S.tok)
theorem d_notin {Q : Value → Shared → Prop} (S : Sx b ns nw s) (hd : (d, aDic w kvs) ∈ nw) (hds : (d == sysModules) = false) (h : ∀ s', Sx b ns nw s' → Q (.bool (!(valueAt kvs nm).isSome)) s') : wpAny (model PySem.Challenge.pw_nm0155_01 w) A (compareOp .NotIn (.str nm t) (.ref d)) Q E s :=
  wpAny_notIn_of (strKind_is _ _ _ _) hds (S.dic hd).mapOf (h _ S.tok)
theorem d_get {Q : Value → Shared → Prop} (S : Sx b ns nw s) (hd : (d, aDic w kvs) ∈ nw) (hv : valueAt kvs nm = some v) (h : ∀ s', Sx b ns nw s' → Q v s') {value slice : Expr}
    (hs : subscripted slice false (.ref d) (.str nm t) = operate [.ref d, .str nm t] (getItem (.ref d) (.str nm t))) :
    wpAny (model PySem.Challenge.pw_nm0155_01 w) A (subscriptTail value slice (.ref d) (.str nm t)) Q E s :=
  have hD := S.dic hd
  tail_any hD.typeIs slot_dict_getitem.lookup (wpAny_getItem_of (strKind_is _ _ _ _) hD.mapOf hv (h _ S.tok)) hs
theorem d_set {Q : Unit → Shared → Prop} (S : Sx b ns nw s) (P : PutO d (aDic w kvs) (aDic w (stored kvs nm v)) nw nw') (hsz : kvs.length ≤ 1000) (h : ∀ s', Sx b ns nw' s' → Q () s') : wpAny (model PySem.Challenge.pw_nm0155_01 w) A (setItem (.ref d) (.str nm t) v) Q E s := by
  refine wpAny_setItem_pairs (hsz := by rw [sizeLine_eq]; omega) (strKind_is _ _ _ _) (S.dic P.mem) fun h' hm hs => h _ ⟨S.st.upd P hs.2 ?_, S.g, S.o⟩
  obtain ⟨o, ho, hd⟩ := Heap.dictOf_iff.mp hm
  exact ⟨o, ho, hd⟩
theorem d_update {d2 : Addr} {Q : Value → Shared → Prop} (S : Sx b ns nw s) (P : PutO d (aDic w kvs) (aDic w (merged kvs kvs2)) nw nw') (hm2 : (d2, aDic w kvs2) ∈ nw) (hne : d ≠ d2) (h2 : (d2 == sysModules) = false) (hsz : kvs.length + kvs2.length ≤ 1000) (h : ∀ s', Sx b ns nw' s' → Q .none s') :
    wpAny (model PySem.Challenge.pw_nm0155_01 w) A (call (.builtin "dict.update") [.ref d, .ref d2]) Q E s := by
  refine wpAny_call (codeAny_call_builtin PySem.F.slot_dict_update.plain PySem.F.entry_dict_update (PySem.F.slot_dict_update.check _ _ _ _ _ _ _ _ (S.dic P.mem).typeIs (PySem.F.args_dict_update_2 _ _) ?_))
  refine meets_dict_update (strKind PySem.Challenge.pw_nm0155_01 w) d d2 hne h2 A (fun r s' => match r with | .ok (.ret v) => Q v s' | .ok _ => False | .error e => E e s') s ⟨kvs, kvs2, S.dic P.mem, S.dic hm2, by rw [sizeLine_eq]; omega, fun h' k1 k2 hs => ?_⟩
  obtain ⟨o, ho, hd⟩ := Heap.dictOf_iff.mp k1
  exact h _ ⟨S.st.upd P hs.2 ⟨o, ho, hd⟩, S.g, S.o⟩
theorem dict_method {id : String} {pl : Sem Bool} {Q : Value × List Value → Shared → Prop} (slot : Slot "dict" nm id) (hty : typeOf (.builtin id) = pure (.type "method_descriptor")) (S : Sx b ns nw s) (hm : (d, aDic w kvs) ∈ nw) (h : Q (.builtin id, [.ref d]) s) :
    wpAny (model PySem.Challenge.pw_nm0155_01 w) A (getMethod (.ref d) nm pl) Q E s :=
  getMethod_builtin (S.dic hm).typeIs PySem.F.plainAttrs_dict slot hty (S.dic hm).mapOf.noDict h

theorem s_cat {x y : Str} {t u : Tok} {Q : Value → Shared → Prop} (S : Sx b ns nw s) (hl : x.length + y.length ≤ 10000) (h : ∀ t s', Sx b ns nw s' → Q (.str (x ++ y) t) s') : wpAny (model PySem.Challenge.pw_nm0155_01 w) A (binaryOp .Add (.str x t) (.str y u)) Q E s :=
  SBL.add (fun t' k _ => h _ _ S.tok) (by rw [sizeLine_eq]; omega)

end
section
/-- a plain value -/
inductive Plain (nw : List (Addr × Sh)) : Value → Prop
  | none : Plain nw .none
  | int {n t} : Plain nw (.int n t)
  | bool {b} : Plain nw (.bool b)
  | str {x t} : Plain nw (.str x t)
  | list {l its} : (l, aList its) ∈ nw → Plain nw (.ref l)
section
variable {prog : Program} {w : World} {A : Around} {E : Value → Shared → Prop} {s : Shared} {b : Shared} {ns : List (Addr × Vars)} {nw nw' : List (Addr × Sh)} {n : Nat} {env : Env} {its : List Value} {l l2 t : Addr} {k : Int} {u : Tok} {Q : Value → Shared → Prop} {v : Value}

theorem hn_at : ∃ o, (hd.heap_1 w.params).lookup 66 = some o ∧ o.IsDictOf (intKind prog w) [((-16 : Int), .str (Str.ofString "func") 277), (-17, .str (Str.ofString "extern") 278)] :=
  ⟨_, by k_is, _, _, ⟨rfl, rfl, rfl⟩, rfl, (fun e he => by
    rcases List.mem_cons.mp (Array.mem_toList_iff.mpr he) with rfl | he
    · exact ⟨-16, rfl, rfl⟩
    · rcases List.mem_cons.mp he with rfl | he
      · exact ⟨-17, rfl, rfl⟩
      · cases he), .cons rfl rfl (.cons rfl rfl .nil), by decide⟩
def isR (k : Int) : Bool := k == -16 || k == -17
theorem hn_in (Z : Bs w b.heap) (S : Sx b ns nw s) (h : ∀ s', Sx b ns nw s' → Q (.bool (isR k)) s') : wpAny (model prog w) A (compareOp .In (.int k u) (.ref 66)) Q E s := by
  obtain ⟨o, ho, hd⟩ := hn_at (prog := prog) (w := w)
  have D := Heap.dictOf_iff.mpr ⟨o, (S.K Z) _ _ ho, hd⟩
  refine wpAny_in_of (intKind_is prog w k u) (by decide) D.mapOf ?_
  have e : (valueAt [((-16 : Int), Value.str (Str.ofString "func") 277), (-17, .str (Str.ofString "extern") 278)] k).isSome = isR k := by
    unfold valueAt isR
    rw [List.find?_cons]
    by_cases h1 : k = -16
    · subst h1; rfl
    · rw [decide_eq_false (show ¬ ((-16 : Int) = k) from fun e => h1 e.symm), List.find?_cons]
      by_cases h2 : k = -17
      · subst h2; rfl
      · rw [decide_eq_false (show ¬ ((-17 : Int) = k) from fun e => h2 e.symm), List.find?_nil]
        simp [h1, h2]
  rw [e]; exact h _ S.tok

def isI : Value → Bool
  | .int _ _ => true
  | .bool _ => true
  | _ => false
def isB : Value → Bool
  | .bool _ => true
  | _ => false
def isN : Value → Bool
  | .none => true
  | _ => false
theorem inst_int (S : Sx b ns nw s) (p : Plain nw v) (h : ∀ s', Sx b ns nw s' → Q (.bool (isI v)) s') : wpAny (model prog w) A (call (.builtin "isinstance") [v, .type "int"]) Q E s := by
  cases p with
  | none => exact IsiPair.NoneType_int (h _ S.tok)
  | int => exact IsiPair.int_int (h _ S)
  | bool => exact IsiPair.bool_int (h _ S)
  | str => exact IsiPair.str_int (h _ S.tok)
  | list m =>
    obtain ⟨n, ho⟩ := S.st.listObj m
    exact call_isinstance (isinstance_false_list (by decide +kernel) F.isi_meta_int F.sub_list_int) ⟨⟨_, ho, rfl⟩, h _ S.tok⟩
theorem inst_bool (S : Sx b ns nw s) (p : Plain nw v) (h : ∀ s', Sx b ns nw s' → Q (.bool (isB v)) s') : wpAny (model prog w) A (call (.builtin "isinstance") [v, .type "bool"]) Q E s := by
  cases p with
  | none => exact IsiPair.NoneType_bool (h _ S.tok)
  | int => exact IsiPair.int_bool (h _ S.tok)
  | bool => exact IsiPair.bool_bool (h _ S)
  | str => exact IsiPair.str_bool (h _ S.tok)
  | list m =>
    obtain ⟨n, ho⟩ := S.st.listObj m
    exact call_isinstance (isinstance_false_list (by decide +kernel) F.isi_meta_bool F.sub_list_bool) ⟨⟨_, ho, rfl⟩, h _ S.tok⟩
theorem isN_ne {v : Value} (h : isN v = false) : v ≠ .none := by intro e; subst e; cases h
theorem isN_eq {v : Value} (h : isN v = true) : v = .none := by cases v <;> first | rfl | cases h
theorem is_nn (h : Q (.bool (isN v)) s) : wpAny (model prog w) A (compareOp .Is v .none) Q E s := by
  cases q : isN v with
  | false => rw [q] at h; exact is_none_ne (isN_ne q) h
  | true => rw [q] at h; rw [isN_eq q]; exact is_none_none h
theorem isnt_nn (h : Q (.bool (!isN v)) s) : wpAny (model prog w) A (compareOp .IsNot v .none) Q E s := by
  cases q : isN v with
  | false => rw [q] at h; exact isnot_none_ne (isN_ne q) h
  | true => rw [q] at h; rw [isN_eq q]; exact isnot_none_none h
theorem in_tup {is : List Int} (S : Sx b ns nw s) (hm : (t, aTup its) ∈ nw) (hi : IntsAre its is) (h : Q (.bool (is.any (· == k))) s) : wpAny (model prog w) A (compareOp .In (.int k u) (.ref t)) Q E s :=
  in_tuple_ints (S.st.isTup hm) (by simpa using hi) h
theorem notin_tup {is : List Int} (S : Sx b ns nw s) (hm : (t, aTup its) ∈ nw) (hi : IntsAre its is) (h : Q (.bool (!is.any (· == k))) s) : wpAny (model prog w) A (compareOp .NotIn (.int k u) (.ref t)) Q E s :=
  notin_tuple_ints (S.st.isTup hm) (by simpa using hi) h
theorem c_max {x y : Int} {t u : Tok} (S : Sx b ns nw s) (hA : A.handled = none) (h : ∀ t s', Sx b ns nw s' → Q (.int (max x y) t) s') : wpAny (model prog w) A (call (.builtin "max") [.int x t, .int y u]) Q E s :=
  max_two_ints hA fun h' tk hk => by
    by_cases c : y > x
    · rw [if_pos c]
      have e : max x y = y := by omega
      rw [← e]; exact h _ _ (S.ext hk)
    · rw [if_neg c]
      have e : max x y = x := by omega
      conv => lhs; rw [← e]
      exact h _ _ (S.ext hk)
theorem c_intb {c : Bool} (S : Sx b ns nw s) (h : ∀ t s', Sx b ns nw s' → Q (.int (if c then 1 else 0) t) s') : wpAny (model prog w) A (call (.type "int") [.bool c]) Q E s := call_int_bool (h _ _ S.tok)
theorem c_tupL (S : Sx b ns nw s) (hm : (l, aList its) ∈ nw) (hz : its.length ≤ 1000) (h : ∀ D s', Sx b ns ((D, aTup its) :: nw) s' → Q (.ref D) s') : wpAny (model prog w) A (call (.type "tuple") [.ref l]) Q E s := by
  refine call_tuple_list (hsz := by rw [List.size_toArray, sizeLine_eq]; omega) (S.st.isList hm) fun h' hk => h _ _ ⟨?_, S.g, S.o⟩
  exact (S.st.ext hk).alloc ⟨_, rfl⟩
end

end
section
section
variable {w : World} {A : Around} {E : Value → Shared → Prop} {s : Shared} {b : Shared} {ns : List (Addr × Vars)} {nw : List (Addr × Sh)} {n : Nat} {prog : Program} {env : Env} {names : List (Str × NameKind)} {cs : List (Str × Addr)}
theorem lam_anyP {c P : Addr} {params : Arguments} {body : Expr} {scope : Scope} {pos : Pos} {clos : List (Str × Addr)} {rest : List (Addr × Sh)} {Q : Value → Shared → Prop} (ps : Array Value) (Z : Bs w b.heap) (V : Fn env names cs) (S : Sx b ns nw s) (hcode : env.code = .ref c) (C : CodeHd b.heap c P)
    (hst : Pk ((P, anObj (tabObj ps)) :: rest) nw ∨ ∃ c, Pk ((P, anObj (tabObj (ps ++ #[rawInt pos.line, rawInt pos.col, .ref c]))) :: (c, aCode (env.qual ++ Str.ofString "<lambda>")) :: rest) nw)
    (ht : TriplesOk ps.toList) (ht2 : ∀ c, TriplesOk (ps ++ #[rawInt pos.line, rawInt pos.col, .ref c]).toList) (hnf : codeAmong pos ps.toList = none) (hf : ∀ c, codeAmong pos (ps ++ #[rawInt pos.line, rawInt pos.col, .ref c]).toList = some (.ref c))
    (hcl : closureFor scope env = pure clos) (hdef : defaultsOf params env = ([], []))
    (h : ∀ c f s', Sx b ns ((f, aLam (env.qual ++ Str.ofString "<lambda>") params body scope clos c) :: (P, anObj (tabObj (ps ++ #[rawInt pos.line, rawInt pos.col, .ref c]))) :: (c, aCode (env.qual ++ Str.ofString "<lambda>")) :: rest) s' → Q (.ref f) s') :
    wpAny (model prog w) A (eval (.Lambda params body scope pos) env) Q E s := by
  rcases hst with hst | ⟨c, hst⟩
  · exact lam_miss Z V (S.pk hst) hcode C (.head _) ht hnf hcl hdef fun c f s' S' => h c f s' ((S' _ .head).pk (.take .here (.take (.skip .here) (.take .here (.refl _)))))
  · exact lam_hit (c' := c) Z V (S.pk hst) hcode C (.head _) (ht2 c) (hf c) hcl hdef fun f s' S' => h c f s' S'
theorem sw_cell {scope : Scope} {elt : Expr} {gens : List Comprehension} {nm : Str} {pos pos' : Pos} {line : Nat} (V : Fn env names cs) (hk : (nm, NameKind.cell) ∈ names) : swapsWith (.ListComp elt gens scope pos) (some (.Name nm pos')) line env = pure false := by
  have hl : (env.kindOf nm == some NameKind.local) = false := by
    have : env.kindOf nm = some .cell := by show env.scope.names.lookup nm = _; rw [V.nm]; exact V.ok.look hk
    rw [this]; rfl
  show (pure (env.blockKind == .function && env.kindOf nm == some .local && pos'.line == pos.line && !(scope.names.any fun x => x.1 == nm && (x.2 == .local || x.2 == .cell))) : Sem Bool) = _
  rw [hl, Bool.and_false]; rfl

theorem aheadW0 {M : Model} {Γ : Ctx} {rest : List Stmt} {Q : Flow → Pos → Shared → Prop} {E : Value → Pos → Shared → Prop} : ∀ {pre : List Stmt} {p : Pos} {s : Shared},
    Sem.wp M Γ (execs pre env) (fun f p' s' => match f with | .next => Sem.wp M Γ (execs rest env) Q E p' s' | f => Q f p' s') E p s → Sem.wp M Γ (execs (pre ++ rest) env) Q E p s
  | [], p, s, h => h
  | st :: pre, p, s, h => by
    rw [execs_cons, Sem.wp_bind'] at h
    rw [List.cons_append, execs_cons, Sem.wp_bind']
    refine Sem.wp_mono M Γ _ (fun f p' s' h' => ?_) (fun _ _ _ h' => h') _ _ h
    cases f with
    | next => exact aheadW0 h'
    | cont => exact h'
    | brk => exact h'
    | ret v => exact h'
/-- a cut: what stands ahead ends in J -/
theorem x_cut {pre rest : List Stmt} {Q : Flow → Shared → Prop} (J : Shared → Prop) (h : ∀ q, Abs (thenF J Q) q → wpAny (model prog w) A (execs pre env) q E s) (h2 : ∀ s', J s' → wpAny (model prog w) A (execs rest env) Q E s') : wpAny (model prog w) A (execs (pre ++ rest) env) Q E s := fun Γ p hΓ => by
  refine aheadW0 (Sem.wp_mono _ Γ _ (fun f p' s' h' => ?_) (fun _ _ _ h' => h') _ _ (h _ ⟨fun h => h⟩ Γ p hΓ))
  cases f with
  | next => exact h2 _ h' Γ p' hΓ
  | cont => exact h'
  | brk => exact h'
  | ret v => exact h'
end

end
section
def aZ (TI TO : Addr) (f : Value) : Sh := anObj { cls := .type "zip", dict := none, data := .fields #[f, .bool false, .bool false, .ref TI, .ref TO], slots := #[] }
def aPr (x y : Value) : Sh := anObj { cls := .type "tuple", data := .seq #[x, y] }
abbrev zipX (z TI TO i1 i2 lt ll : Addr) (f : Value) (k : Nat) (x y : Value) : List (Addr × Sh) := [(z, aZ TI TO f), (TI, aPr (.ref i1) (.ref i2)), (TO, aPr x y), (i1, aTI lt k), (i2, aLI ll k)]
section
variable {prog : Program} {w : World} {A : Around} {E : Value → Shared → Prop} {s : Shared} {b : Shared} {ns : List (Addr × Vars)} {nw nw' : List (Addr × Sh)} {n k : Nat} {env : Env} {its vs : List Value} {l t z TI TO i1 i2 lt ll it : Addr} {v x y x0 y0 f : Value}

/-- an iterator of the call's own is asked -/
theorem nx_list {Q : Value → Shared → Prop} (S : Sx b ns nw s) (P : PutO it (aLI l k) (aLI l (k + 1)) nw nw') (hl : (l, aList its) ∈ nw) (hx : its[k]? = some x) (h : ∀ s', Sx b ns nw' s' → Q x s') : wpAny (model prog w) A (Builtin.SmallTypes.nextOf (.ref it)) Q E s := by
  obtain ⟨⟨o, ho, hc, hd⟩, _⟩ := S.st.objs _ P.mem
  refine wpAny_nextOf_list_item ⟨o, ho, hc, hd⟩ (S.st.isList hl) (by simpa using hx) fun h' hi hs => h _ ⟨S.st.upd P hs.2 ?_, S.g, S.o⟩
  obtain ⟨o', ho', r⟩ := hi
  exact ⟨o', ho', r⟩
theorem nx_tup {Q : Value → Shared → Prop} (S : Sx b ns nw s) (P : PutO it (aTI l k) (aTI l (k + 1)) nw nw') (hl : (l, aTup its) ∈ nw) (hx : its[k]? = some x) (h : ∀ s', Sx b ns nw' s' → Q x s') : wpAny (model prog w) A (Builtin.SmallTypes.nextOf (.ref it)) Q E s := by
  obtain ⟨⟨o, ho, hc, hd⟩, _⟩ := S.st.objs _ P.mem
  obtain ⟨ol, hol, _, nl, hdl⟩ := S.st.isTup hl
  have hT : s.TypeIs (.ref it) "tuple_iterator" := ⟨o, ho, hc⟩
  have hx' : its.toArray[k]? = some x := by simpa using hx
  unfold Builtin.SmallTypes.nextOf
  refine wpAny_bind (wpAny_callSpecial?_slot (name := Str.ofString "__next__") hT F.slot_tuple_iterator_next (wpAny_call_entry F.slot_tuple_iterator_next hT F.entry_tuple_iterator_next ?_ (F.args_tuple_iterator_next_1 _)))
  show wpAny _ _ (field (.ref it) 0 >>= _) _ _ s
  refine wpAny_bind (wpAny_field ho hd (x := .ref l) rfl ?_)
  show wpAny _ _ (if (Value.ref l == Value.none) = true then _ else _) _ _ s
  rw [if_neg (show ¬ ((Value.ref l == Value.none) = true) from Bool.false_ne_true)]
  refine wpAny_bind (wpAny_field ho hd (x := .int k 0) rfl (wpAny_bind (wpAny_seqItems hol hdl ?_)))
  simp only [Int.toNat_natCast, hx']
  refine wpAny_bind (wpAny_setField ho hd (by simp) (wpAny_pure ⟨x, rfl, wpAny_pure (h _ ⟨S.st.upd P (fun c hc => Heap.get?_update_other _ _ (Ne.symm hc)) ⟨_, Heap.get?_update_self _ ho (Obj.isFreed_of_fields (Obj.data_mapFields hd _)), (Obj.cls_mapFields ..).trans hc, ?_⟩, S.g, S.o⟩)⟩))
  rw [Obj.data_mapFields hd]; simp [rawInt]
theorem nx_tup_end {Q : Value → Shared → Prop} (S : Sx b ns nw s) (hA : A.handled = none) (P : PutO it (aTI l its.length) (fun _ => True) nw nw') (hl : (l, aTup its) ∈ nw) (h : ∀ e s', Sx b ns nw' s' → (∃ o, s'.heap.get? e = some o ∧ o.cls = .type "StopIteration") → s.heap.objs.size ≤ e → E (.ref e) s') : wpAny (model prog w) A (Builtin.SmallTypes.nextOf (.ref it)) Q E s := by
  obtain ⟨⟨o, ho, hc, hd⟩, _⟩ := S.st.objs _ P.mem
  obtain ⟨ol, hol, _, nl, hdl⟩ := S.st.isTup hl
  have hT : s.TypeIs (.ref it) "tuple_iterator" := ⟨o, ho, hc⟩
  have hx' : its.toArray[its.length]? = none := by simp
  unfold Builtin.SmallTypes.nextOf
  refine wpAny_bind (wpAny_callSpecial?_slot (name := Str.ofString "__next__") hT F.slot_tuple_iterator_next (wpAny_call_entry F.slot_tuple_iterator_next hT F.entry_tuple_iterator_next ?_ (F.args_tuple_iterator_next_1 _)))
  show wpAny _ _ (field (.ref it) 0 >>= _) _ _ s
  refine wpAny_bind (wpAny_field ho hd (x := .ref l) rfl ?_)
  show wpAny _ _ (if (Value.ref l == Value.none) = true then _ else _) _ _ s
  rw [if_neg (show ¬ ((Value.ref l == Value.none) = true) from Bool.false_ne_true)]
  refine wpAny_bind (wpAny_field ho hd (x := .int its.length 0) rfl (wpAny_bind (wpAny_seqItems hol hdl ?_)))
  simp only [Int.toNat_natCast, hx']
  refine wpAny_bind (wpAny_rule (wpAny_bind (wpAny_setField ho hd (by simp) ?_)))
  have S1 := S.st.upd P (h' := s.heap.update it (Obj.mapFields (·.setIfInBounds 0 Value.none))) (fun c hc => Heap.get?_update_other _ _ (Ne.symm hc)) ⟨_, Heap.get?_update_self _ ho (Obj.isFreed_of_fields (Obj.data_mapFields hd _)), trivial⟩
  show wpAny _ _ (newExc (.type "StopIteration") [] >>= _) _ _ _
  refine wpAny_bind ?_
  simp only [newExc, newTuple]
  refine wpAny_bind (wpAny_newObj_type ?_ (by size_fits))
  refine wpAny_bind (m := firstArgMember _ _) (wpAny_of_eq (a := Value.none) (by first | rfl | (simp only [firstArgMember]; rfl)) ?_)
  refine wpAny_newObj_type ?_ (by size_fits)
  simp only [raiseNew]
  refine wpAny_bind (wpAny_handled ?_)
  rw [show A.in1.handled = none from hA]
  refine wpAny_bind (wpAny_pure (wpAny_throw ?_))
  refine h _ _ ⟨S1.ext fun _ _ e => Heap.get?_push_of_some _ (Heap.get?_push_of_some _ e), S.g, S.o⟩ ⟨_, Heap.get?_push_size _ rfl, rfl⟩ ?_
  simp only [Heap.size_push]
  show s.heap.objs.size ≤ (s.heap.update it _).objs.size + 1
  rw [show (s.heap.update it (Obj.mapFields (·.setIfInBounds 0 Value.none))).objs.size = s.heap.objs.size from (Heap.SameBut.update ..).1]
  omega

theorem fl_obj {o : Obj} {vs : Array Value} {j : Nat} {x : Value} {Q : Value → Shared → Prop} (S : Sx b ns nw s) (hm : (it, anObj o) ∈ nw) (hd : o.data = .fields vs) (hx : vs[j]? = some x) (h : Q x s) : wpAny (model prog w) A (field (.ref it) j) Q E s :=
  wpAny_field (S.st.obj hm) hd hx h
theorem sf_zip {g : Value} {Q : Unit → Shared → Prop} (S : Sx b ns nw s) (P : PutO z (aZ TI TO f) (aZ TI TO g) nw nw') (h : ∀ s', Sx b ns nw' s' → Q () s') : wpAny (model prog w) A (setField (.ref z) 0 g) Q E s :=
  wpAny_setField_rec (S.st.obj P.mem) (by simp) fun h' ho hs => h _ ⟨S.st.upd P hs.2 ⟨_, ho, rfl⟩, S.g, S.o⟩
theorem sf_zip1 {Q : Unit → Shared → Prop} (S : Sx b ns nw s) (P : PutO z (aZ TI TO f) (aZ TI TO f) nw nw') (h : ∀ s', Sx b ns nw' s' → Q () s') : wpAny (model prog w) A (setField (.ref z) 1 (.bool false)) Q E s :=
  wpAny_setField_rec (S.st.obj P.mem) (by simp) fun h' ho hs => h _ ⟨S.st.upd P hs.2 ⟨_, ho, rfl⟩, S.g, S.o⟩
theorem us_pr {Q : Unit → Shared → Prop} {j : Nat} {x' y' : Value} (S : Sx b ns nw s) (P : PutO TO (aPr x y) (aPr x' y') nw nw') (hj : (#[x, y] : Array Value).setIfInBounds j v = #[x', y']) (h : ∀ s', Sx b ns nw' s' → Q () s') : wpAny (model prog w) A (updateSeq TO (·.setIfInBounds j v)) Q E s :=
  wpAny_updateSeq_pair (S.st.obj P.mem) fun h' ho hs => h _ ⟨S.st.upd P hs.2 ⟨_, ho, by rw [hj]; rfl⟩, S.g, S.o⟩

theorem zip_item {Q : Value → Shared → Prop} (S : Sx b ns (zipX z TI TO i1 i2 lt ll .none k x0 y0 ++ nw) s) (h1 : (lt, aTup its) ∈ nw) (h2 : (ll, aList vs) ∈ nw) (hx : its[k]? = some x) (hy : vs[k]? = some y)
    (h : ∀ (T : Addr) s', Sx b ns (zipX z TI TO i1 i2 lt ll (rawInt T) (k + 1) x y ++ (T, aTup [x, y]) :: nw) s' → Q (.ref T) s') :
    wpAny (model prog w) A (Builtin.«zip.__next__» ⟨[.ref z], []⟩) (fun fin s' => ∃ v, fin = .done (.ret v) ∧ Q v s') E s := by
  have mm : ∀ {p : Addr × Sh} {f g : Value} {k k' : Nat} {x0 y0 : Value}, p ∈ nw → p ∈ (z, aZ TI TO f) :: (TI, aPr (.ref i1) (.ref i2)) :: (TO, aPr x0 y0) :: (i1, aTI lt k) :: (i2, aLI ll k') :: nw := fun h => .tail _ (.tail _ (.tail _ (.tail _ (.tail _ h))))
  show wpAny _ _ (field (.ref z) 2 >>= _) _ _ _
  refine wpAny_bind (fl_obj S (.head _) rfl (x := .bool false) rfl ?_)
  show wpAny _ _ (field (.ref z) 3 >>= _) _ _ _
  refine wpAny_bind (fl_obj S (.head _) rfl (x := .ref TI) rfl ?_)
  refine wpAny_bind (wpAny_seqItems (S.st.obj (.tail _ (.head _))) rfl ?_)
  show wpAny _ _ (Builtin.SmallTypes.ownedTupleIsFree (.ref z) >>= _) _ _ _
  refine wpAny_bind ?_
  unfold Builtin.SmallTypes.ownedTupleIsFree
  refine wpAny_bind (fl_obj S (.head _) rfl (x := .none) rfl (wpAny_pure ?_))
  simp only [if_true]
  refine wpAny_bind (wpAny_rule ?_)
  refine wpAny_bind (fl_obj S (.head _) rfl (x := .ref TO) rfl ?_)
  refine wpAny_bind (sf_zip S .head fun s S => ?_)
  refine wpAny_bind ?_
  simp only [List.zipIdx_cons, List.zipIdx_nil, List.forIn_cons, List.forIn_nil]
  refine wpAny_bind (wpAny_bind (wpAny_onRaise ?_))
  show wpAny _ _ (Builtin.SmallTypes.nextOf (.ref i1) >>= _) _ _ _
  refine wpAny_bind (nx_tup S (.tail (.tail (.tail .head))) (mm (g := .none) h1) hx fun s S => wpAny_pure ?_)
  refine wpAny_bind (wpAny_seqItems (S.st.obj (.tail _ (.tail _ (.head _)))) rfl ?_)
  refine wpAny_bind (us_pr (x' := x) (y' := y0) S (.tail (.tail .head)) (by simp) fun s S => wpAny_bind (wpAny_letGo (wpAny_pure ?_)))
  refine wpAny_bind (wpAny_bind (wpAny_onRaise ?_))
  show wpAny _ _ (Builtin.SmallTypes.nextOf (.ref i2) >>= _) _ _ _
  refine wpAny_bind (nx_list S (.tail (.tail (.tail (.tail .head)))) (mm (g := .none) h2) hy fun s S => wpAny_pure ?_)
  refine wpAny_bind (wpAny_seqItems (S.st.obj (.tail _ (.tail _ (.head _)))) rfl ?_)
  refine wpAny_bind (us_pr (x' := x) (y' := y) S (.tail (.tail .head)) (by simp) fun s S => wpAny_bind (wpAny_letGo (wpAny_pure (wpAny_pure ?_))))
  refine wpAny_bind (wpAny_seqItems (S.st.obj (.tail _ (.tail _ (.head _)))) rfl ?_)
  refine wpAny_bind (n_tup S (fun T s S => ?_) (by simp [sizeLine_eq]))
  show wpAny _ _ (Builtin.SmallTypes.ownedTupleHandOut (.ref z) (.ref T) >>= _) _ _ _
  refine wpAny_bind ?_
  unfold Builtin.SmallTypes.ownedTupleHandOut
  refine wpAny_bind (sf_zip S (.tail .head) fun s S => sf_zip1 S (.tail .head) fun s S => wpAny_pure ⟨_, rfl, h _ _ (S.pk ?_)⟩)
  exact .take (.skip .here) (.take (.skip .here) (.take (.skip .here) (.take (.skip .here) (.take (.skip .here) (.take .here (.refl _))))))

theorem zip_next {Q : Option Value → Shared → Prop} (S : Sx b ns (zipX z TI TO i1 i2 lt ll .none k x0 y0 ++ nw) s) (h1 : (lt, aTup its) ∈ nw) (h2 : (ll, aList vs) ∈ nw) (hx : its[k]? = some x) (hy : vs[k]? = some y)
    (h : ∀ (T : Addr) s', Sx b ns (zipX z TI TO i1 i2 lt ll (rawInt T) (k + 1) x y ++ (T, aTup [x, y]) :: nw) s' → Q (some (.ref T)) s') : wpAny (model prog w) A (pyNext (.ref z)) Q E s := by
  have hT : s.TypeIs (.ref z) "zip" := ⟨_, S.st.obj (.head _), rfl⟩
  unfold pyNext
  exact wpAny_bind (wpAny_attempt (wpAny_callSpecial?_slot (name := Str.ofString "__next__") hT F.slot_zip_next
    (wpAny_call_entry F.slot_zip_next hT F.entry_zip_next (zip_item S h1 h2 hx hy fun T s S => wpAny_pure (h T s S)) (F.args_zip_next_1 _))))

theorem zip_end {Q : Option Value → Shared → Prop} (S : Sx b ns (zipX z TI TO i1 i2 lt ll .none its.length x0 y0 ++ nw) s) (hA : A.handled = none) (h1 : (lt, aTup its) ∈ nw) (h : ∀ s', Sx b ns nw s' → Q none s') : wpAny (model prog w) A (pyNext (.ref z)) Q E s := by
  have mm : ∀ {p : Addr × Sh} {f : Value} {k k' : Nat}, p ∈ nw → p ∈ (z, aZ TI TO f) :: (TI, aPr (.ref i1) (.ref i2)) :: (TO, aPr x0 y0) :: (i1, aTI lt k) :: (i2, aLI ll k') :: nw := fun h => .tail _ (.tail _ (.tail _ (.tail _ (.tail _ h))))
  have hT : s.TypeIs (.ref z) "zip" := ⟨_, S.st.obj (.head _), rfl⟩
  unfold pyNext
  refine wpAny_bind (wpAny_attempt (wpAny_callSpecial?_slot (name := Str.ofString "__next__") hT F.slot_zip_next
    (wpAny_call_entry F.slot_zip_next hT F.entry_zip_next ?_ (F.args_zip_next_1 _))))
  show wpAny _ _ (field (.ref z) 2 >>= _) _ _ _
  refine wpAny_bind (fl_obj S (.head _) rfl (x := .bool false) rfl ?_)
  show wpAny _ _ (field (.ref z) 3 >>= _) _ _ _
  refine wpAny_bind (fl_obj S (.head _) rfl (x := .ref TI) rfl ?_)
  refine wpAny_bind (wpAny_seqItems (S.st.obj (.tail _ (.head _))) rfl ?_)
  show wpAny _ _ (Builtin.SmallTypes.ownedTupleIsFree (.ref z) >>= _) _ _ _
  refine wpAny_bind ?_
  unfold Builtin.SmallTypes.ownedTupleIsFree
  refine wpAny_bind (fl_obj S (.head _) rfl (x := .none) rfl (wpAny_pure ?_))
  simp only [if_true]
  refine wpAny_bind (wpAny_rule ?_)
  refine wpAny_bind (fl_obj S (.head _) rfl (x := .ref TO) rfl ?_)
  refine wpAny_bind (sf_zip S .head fun s S => ?_)
  refine wpAny_bind ?_
  simp only [List.zipIdx_cons, List.zipIdx_nil, List.forIn_cons, List.forIn_nil]
  refine wpAny_bind (wpAny_bind (wpAny_onRaise ?_))
  show wpAny _ _ (Builtin.SmallTypes.nextOf (.ref i1) >>= _) _ _ _
  refine wpAny_bind (nx_tup_end S hA (.tail (.tail (.tail .head))) (mm h1) fun e s' S' he hge => ?_)
  obtain ⟨oe, ho, hc⟩ := he
  have hz := S'.st.obj (.head _)
  have hez : e ≠ z := fun q => by subst q; rw [hz] at ho; cases ho; simp at hc
  refine wpAny_setField_rec hz (by simp) fun h' hz' hs => ?_
  refine wpAny_bind (wpAny_isInstance (T := "StopIteration") (b := true) ⟨oe, (hs.2 _ hez).trans ho, hc⟩ isSubtype_stop ?_)
  refine wpAny_pure (h _ ⟨(S'.st.upd .head hs.2 ⟨_, hz', rfl⟩).sub (.cons _ (.cons _ (.cons _ (.cons _ (.cons _ (.refl _)))))), S'.g, S'.o⟩)

theorem zip_go {elts : List Expr} {x1} {pos : Pos} {T : Addr} {Q : Unit → Shared → Prop} (S : Sx b ns nw s) (P : PutO z (aZ TI TO (rawInt T)) (aZ TI TO .none) nw nw') (h : ∀ s', Sx b ns nw' s' → Q () s') : wpAny (model prog w) A (letOwnedTupleGo (.Tuple elts x1 pos) (.ref z) (.ref T)) Q E s :=
  wpAny_letOwnedTupleGo_zip (S.st.obj P.mem) fun h' hz hs => h _ ⟨S.st.upd P hs.2 ⟨_, hz, rfl⟩, S.g, S.o⟩
theorem p_zip {Q : Value → Shared → Prop} (S : Sx b ns nw s) (hm : (z, aZ TI TO f) ∈ nw) (h : Q (.ref z) s) : wpAny (model prog w) A (pyIter (.ref z)) Q E s := wpAny_pyIter_zip (S.st.obj hm) h

theorem meets_zip (h1 h2 : List Value) (lt ll : Addr) :
    Meets (Builtin.«zip.__new__» ⟨[.type "zip", .ref lt, .ref ll], []⟩) (fun _ R s => s.heap.IsTuple lt h1.toArray ∧ s.heap.IsList ll h2.toArray ∧
      ∀ H1 H2 H3 H4 H5, H1 = s.heap.push { cls := .type "tuple_iterator", data := .fields #[.ref lt, .int 0 0] } → H2 = H1.push { cls := .type "list_iterator", data := .fields #[.ref ll, .int 0 0] } →
        H3 = H2.push { cls := .type "tuple", data := .seq #[.ref s.heap.objs.size, .ref H1.objs.size] } → H4 = H3.push { cls := .type "tuple", data := .seq #[.none, .none] } →
        H5 = H4.push { cls := .type "zip", data := .fields #[.none, .bool false, .bool false, .ref H2.objs.size, .ref H3.objs.size] } → R (.ok (.ret (.ref H4.objs.size))) { s with heap := H5 }) :=
  .of_wp fun prog w A R s h => by
    obtain ⟨hp, g, d, tk, os⟩ := s; obtain ⟨hl1, hl2, h⟩ := h
    have hsub := sub_zip
    have hL1 : Heap.IsTuple (Shared.heap ⟨hp, g, d, tk, os⟩) lt h1.toArray := hl1
    have hL2 : Heap.IsList (Shared.heap ⟨hp.push { cls := .type "tuple_iterator", data := .fields #[.ref lt, .int 0 0] }, g, d, tk, os⟩) ll h2.toArray := Heap.IsList.push hl2 _
    wp_walk using wpAny_pyIter_tuple hL1, wpAny_pyIter_list hL2
    exact ⟨_, rfl, h _ _ _ _ _ rfl rfl rfl rfl rfl⟩

theorem c_zip {Q : Value → Shared → Prop} (S : Sx b ns nw s) (h1 : (lt, aTup its) ∈ nw) (h2 : (ll, aList vs) ∈ nw) (h : ∀ z TI TO i1 i2 s', Sx b ns (zipX z TI TO i1 i2 lt ll .none 0 .none .none ++ nw) s' → Q (.ref z) s') : wpAny (model prog w) A (call (.type "zip") [.ref lt, .ref ll]) Q E s := by
  refine callType_new F.called_zip (by decide) (F.typeCall_zip_2 _ _) (F.newCall_zip_2 _ _) (fun obj => F.args_object_init_3 obj _ _) F.entry_zip_new
    (meets_zip its vs lt ll) ⟨S.st.isTup h1, S.st.isList h2, fun H1 H2 H3 H4 H5 e1 e2 e3 e4 e5 => ?_⟩
  have S1 : Sx b ns ((s.heap.objs.size, aTI lt 0) :: nw) { s with heap := H1 } := ⟨e1 ▸ S.st.alloc ⟨rfl, rfl⟩, S.g, S.o⟩
  have S2 : Sx b ns ((H1.objs.size, aLI ll 0) :: (s.heap.objs.size, aTI lt 0) :: nw) { s with heap := H2 } := ⟨e2 ▸ S1.st.alloc ⟨rfl, rfl⟩, S.g, S.o⟩
  have S3 : Sx b ns ((H2.objs.size, aPr (.ref s.heap.objs.size) (.ref H1.objs.size)) :: (H1.objs.size, aLI ll 0) :: (s.heap.objs.size, aTI lt 0) :: nw) { s with heap := H3 } := ⟨e3 ▸ S2.st.alloc rfl, S.g, S.o⟩
  have S4 : Sx b ns ((H3.objs.size, aPr .none .none) :: (H2.objs.size, aPr (.ref s.heap.objs.size) (.ref H1.objs.size)) :: (H1.objs.size, aLI ll 0) :: (s.heap.objs.size, aTI lt 0) :: nw) { s with heap := H4 } := ⟨e4 ▸ S3.st.alloc rfl, S.g, S.o⟩
  have S5 : Sx b ns ((H4.objs.size, aZ H2.objs.size H3.objs.size .none) :: (H3.objs.size, aPr .none .none) :: (H2.objs.size, aPr (.ref s.heap.objs.size) (.ref H1.objs.size)) :: (H1.objs.size, aLI ll 0) :: (s.heap.objs.size, aTI lt 0) :: nw) { s with heap := H5 } := ⟨e5 ▸ S4.st.alloc rfl, S.g, S.o⟩
  have hz := S5.st.obj (.head _)
  exact ⟨⟨_, hz, rfl⟩, h _ _ _ _ _ _ (S5.pk (.take .here (.take (.skip .here) (.take .here (.take (.skip .here) (.take .here (.refl _)))))))⟩
end

end
section
/-- a walk of pairs: X i is what the iterator is made of -/
structure WkT (prog : Program) (w : World) (A : Around) (b : Shared) (I : Addr) (n : Nat) (P : Nat → Value → Value → Prop) (X : Nat → List (Addr × Sh) → Prop) (need : List (Addr × Sh) → Prop) : Prop where
  item : ∀ i ns nw xs s elts x1 tp env (Q : Unit → Shared → Prop) E, i < n → need nw → X i xs → Sx b ns (xs ++ nw) s → (assignEach elts env).length = 2 → (assignEach elts env).findIdx? (·.1) = none →
    (∀ v1 v2 xs' s', P i v1 v2 → X (i + 1) xs' → Sx b ns (xs' ++ nw) s' → wpAny (model prog w) A (assignInOrder ((assignEach elts env).map (·.2)) [v1, v2]) Q E s') →
    wpAny (model prog w) A (pyNext (.ref I)) (fun r s₁ => ∃ v, r = some v ∧ wpAny (model prog w) A (letOwnedTupleGo (.Tuple elts x1 tp) (.ref I) v) (fun _ s₂ => wpAny (model prog w) A (assign (.Tuple elts x1 tp) env v) Q E s₂) E s₁) E s
  done : ∀ ns nw xs s (Q : Option Value → Shared → Prop) E, need nw → X n xs → Sx b ns (xs ++ nw) s → (∀ s', Sx b ns nw s' → Q none s') → wpAny (model prog w) A (pyNext (.ref I)) Q E s
  self : ∀ ns nw xs s (Q : Value → Shared → Prop) E, need nw → X 0 xs → Sx b ns (xs ++ nw) s → Q (.ref I) s → wpAny (model prog w) A (pyIter (.ref I)) Q E s

section
variable {prog : Program} {w : World} {A : Around} {E : Value → Shared → Prop} {s : Shared} {b : Shared} {ns : List (Addr × Vars)} {nw nw' : List (Addr × Sh)} {n : Nat} {env : Env} {its vs : List Value} {l I z TI TO i1 i2 lt ll : Addr} {x y : Sh} {names names' : List (Str × NameKind)} {cs cl : List (Str × Addr)} {scope : Scope}

theorem wt_zip (hA : A.handled = none) (hl : its.length = vs.length) : WkT prog w A b z its.length (fun i v1 v2 => its[i]? = some v1 ∧ vs[i]? = some v2) (fun i xs => ∃ x y, xs = zipX z TI TO i1 i2 lt ll .none i x y) (fun nw => (lt, aTup its) ∈ nw ∧ (ll, aList vs) ∈ nw) where
  item i ns nw xs s elts x1 tp env Q E hi hn hX S hlen hst h := by
    obtain ⟨x, y, rfl⟩ := hX
    have hx : its[i]? = some its[i] := List.getElem?_eq_getElem hi
    have hy : vs[i]? = some (vs[i]'(hl ▸ hi)) := List.getElem?_eq_getElem (hl ▸ hi)
    refine zip_next S hn.1 hn.2 hx hy fun T s S => ⟨_, rfl, ?_⟩
    refine zip_go S .head fun s S => ?_
    refine as_tup S (.tail _ (.tail _ (.tail _ (.tail _ (.tail _ (.head _)))))) hA (by rw [hlen]; rfl) hst fun s S => h _ _ (zipX z TI TO i1 i2 lt ll .none (i + 1) its[i] (vs[i]'(hl ▸ hi))) s ⟨hx, hy⟩ ⟨_, _, rfl⟩ (S.pk (.take .here (.take .here (.take .here (.take .here (.take .here (.drop (.refl _))))))))
  done ns nw xs s Q E hn hX S h := by
    obtain ⟨x, y, rfl⟩ := hX
    exact zip_end S hA hn.1 h
  self ns nw xs s Q E hn hX S h := by
    obtain ⟨x, y, rfl⟩ := hX
    exact p_zip S (.head _) h

def Pairs2 (nw : List (Addr × Sh)) (its : List Value) (ps : Nat → Value → Value → Prop) : Prop := ∀ i x, its[i]? = some x → ∃ t v1 v2, x = .ref t ∧ (t, aTup [v1, v2]) ∈ nw ∧ ps i v1 v2
theorem wt_list (hA : A.handled = none) {ps : Nat → Value → Value → Prop} : WkT prog w A b I its.length ps (fun i xs => xs = [(I, aLI l i)]) (fun nw => (l, aList its) ∈ nw ∧ Pairs2 nw its ps) where
  item i ns nw xs s elts x1 tp env Q E hi hn hX S hlen hst h := by
    subst hX
    have hx : its[i]? = some its[i] := List.getElem?_eq_getElem hi
    obtain ⟨t, v1, v2, e, ht, hp⟩ := hn.2 _ _ hx
    refine (wk_list hA I l its).item i ns nw s _ _ hi hn.1 S fun v s hv S => ⟨_, rfl, ?_⟩
    have hv : its[i]? = some v := hv
    rw [hx] at hv; cases hv
    rw [e]
    obtain ⟨⟨o, ho, hc, hd⟩, _⟩ := S.st.objs _ (.head _)
    refine wpAny_letOwnedTupleGo_listiter (l := l) (i := i + 1) ⟨o, ho, hc, hd⟩ ?_
    exact as_tup S (.tail _ ht) hA (by rw [hlen]; rfl) hst fun s S => h _ _ _ _ hp rfl S
  done ns nw xs s Q E hn hX S h := by
    subst hX
    exact (wk_list hA I l its).done ns nw s _ _ hn.1 S h
  self ns nw xs s Q E hn hX S h := by
    subst hX
    exact (wk_list hA I l its).self ns nw s _ _ hn.1 S h

/-- a for loop over pairs -/
def LoopP (b : Shared) (X : List (Addr × Sh) → Prop) (J : List (Addr × Vars) → List (Addr × Sh) → Prop) (Q : Flow → Shared → Prop) : Flow → Shared → Prop
  | .next, s => ∃ ns nw xs, J ns nw ∧ X xs ∧ Sx b ns (xs ++ nw) s
  | .cont, s => ∃ ns nw xs, J ns nw ∧ X xs ∧ Sx b ns (xs ++ nw) s
  | .brk, s => Q .next s
  | .ret v, s => Q (.ret v) s
theorem LoopP.next {X : List (Addr × Sh) → Prop} {xs : List (Addr × Sh)} {J : List (Addr × Vars) → List (Addr × Sh) → Prop} {Q : Flow → Shared → Prop} (h : J ns nw) (hX : X xs) (S : Sx b ns (xs ++ nw) s) : LoopP b X J Q .next s := ⟨_, _, _, h, hX, S⟩
theorem LoopP.ret {X : List (Addr × Sh) → Prop} {v : Value} {J : List (Addr × Vars) → List (Addr × Sh) → Prop} {Q : Flow → Shared → Prop} (h : Q (.ret v) s) : LoopP b X J Q (.ret v) s := h

theorem x_loopP {P : Nat → Value → Value → Prop} {X : Nat → List (Addr × Sh) → Prop} {xs : List (Addr × Sh)} {need : List (Addr × Sh) → Prop} {elts : List Expr} {x1} {tp : Pos} {body : List Stmt} {Q : Flow → Shared → Prop} (W : WkT prog w A b I n P X need) (J : Nat → List (Addr × Vars) → List (Addr × Sh) → Prop) (hn : ∀ i ns nw, J i ns nw → need nw)
    (hX : X 0 xs) (S : Sx b ns (xs ++ nw) s) (h0 : J 0 ns nw) (hlen : (assignEach elts env).length = 2) (hst : (assignEach elts env).findIdx? (·.1) = none)
    (step : ∀ i ns nw xs s v1 v2 E', i < n → J i ns nw → P i v1 v2 → X (i + 1) xs → Sx b ns (xs ++ nw) s → wpAny (model prog w) A (assignInOrder ((assignEach elts env).map (·.2)) [v1, v2]) (fun _ s₂ => wpAny (model prog w) A (execs body env) (LoopP b (X (i + 1)) (J (i + 1)) Q) E' s₂) E' s)
    (done : ∀ ns nw s, J n ns nw → Sx b ns nw s → Q .next s) :
    codeAny (model prog w) A (.forLoop (.Tuple elts x1 tp) (.ref I) body [] env) (fun r s' => match r with | .ok f => Q f s' | .error e => cameBackBy (model prog w) A env E e s') s := by
  refine codeAny_forLoop_any (fun k s => ∃ i ns nw xs, k + i = n ∧ J i ns nw ∧ X i xs ∧ Sx b ns (xs ++ nw) s) (fun k s hI => ?_) n ⟨0, ns, nw, xs, rfl, h0, hX, S⟩
  obtain ⟨i, ns, nw, xs, hk, hJ, hX, S⟩ := hI
  by_cases hi : i < n
  · refine wpAny_mono (W.item i ns nw xs s elts x1 tp env _ _ hi (hn _ _ _ hJ) hX S hlen hst fun v1 v2 xs' s' hP hX' S' => step i ns nw xs' s' v1 v2 _ hi hJ hP hX' S') (fun r s₁ q => ?_) fun _ _ q => q
    obtain ⟨v, rfl, q⟩ := q
    refine wpAny_mono q (fun _ s₂ q => wpAny_mono q (fun _ s₃ q => wpAny_mono q (fun f s₄ q => ?_) fun _ _ q => q) fun _ _ q => q) fun _ _ q => q
    cases f with
    | next => obtain ⟨ns', nw', xs', hJ', hX', S''⟩ := q; exact ⟨n - (i + 1), by omega, i + 1, ns', nw', xs', by omega, hJ', hX', S''⟩
    | cont => obtain ⟨ns', nw', xs', hJ', hX', S''⟩ := q; exact ⟨n - (i + 1), by omega, i + 1, ns', nw', xs', by omega, hJ', hX', S''⟩
    | brk => exact q
    | ret v => exact q
  · have e : i = n := by omega
    subst e
    exact W.done ns nw xs s _ _ (hn _ _ _ hJ) hX S fun s' S' => wpAny_execs_nil (done _ _ _ hJ S')

/-- a list comprehension over pairs, without tests -/
theorem comp_pairs {elt iter : Expr} {elts : List Expr} {x1} {tp pos : Pos} {P : Nat → Value → Value → Prop} {X : Nat → List (Addr × Sh) → Prop} {xs : List (Addr × Sh)} {need : List (Addr × Sh) → Prop} {Q : Value → Shared → Prop} (l0 : Vars) (V : Fn env names cs) (W : WkT prog w A b I n P X need)
    (hN : relN names scope.names = names') (hok : ScOk names') (hok0 : ScOk scope.names) (hkind : scope.kind = .function) (hcell : ∀ y ∈ scope.names, y.2 ≠ .cell) (hkeys : l0.map (·.1) = localKeys scope.names) (hvals : ∀ p ∈ l0, p.2 = none)
    (J : Nat → List Value → List (Addr × Sh) → Prop) (hn : ∀ i ys nw, J i ys nw → need nw) (hneed : ∀ p nw, need nw → need (p :: nw)) (hlen : ∀ i ys nw, J i ys nw → ys.length ≤ 1000)
    (hX : X 0 xs) (S : Sx b ns (xs ++ nw) s) (h0 : J 0 [] nw) (hlen2 : ∀ cenv, (assignEach elts cenv).length = 2) (hst : ∀ cenv, (assignEach elts cenv).findIdx? (·.1) = none)
    (step : ∀ i ys nw xs s v1 v2 E' C lv cenv D, i < n → J i ys nw → P i v1 v2 → X (i + 1) xs → cenv.locals = C → Fn cenv names' cl → lv.map (·.1) = localKeys scope.names → Sx b ((C, lv) :: ns) (xs ++ (D, aList ys) :: nw) s →
      ∀ q, Abs (fun y s₄ => ∃ lv' xs' nw', lv'.map (·.1) = localKeys scope.names ∧ J (i + 1) (ys ++ [y]) nw' ∧ X (i + 1) xs' ∧ Sx b ((C, lv') :: ns) (xs' ++ (D, aList ys) :: nw') s₄) q → wpAny (model prog w) A (assignInOrder ((assignEach elts cenv).map (·.2)) [v1, v2]) (fun _ s₂ => wpAny (model prog w) A (eval elt cenv) q E' s₂) E' s)
    (done : ∀ ys nw s D, J n ys nw → Sx b ns ((D, aList ys) :: nw) s → Q (.ref D) s) :
    wpAny (model prog w) A (newList []) (fun acc s₃ => wpAny (model prog w) A (newFunctionEnv scope env.globals cl [] env.qual none .none (some env)) (fun cenv s₄ =>
      codeAny (model prog w) A (.compStart (.ListComp elt [⟨.Tuple elts x1 tp, iter, [], 0⟩] scope pos) 0 (.ref I) acc { cenv with scope := relabel scope env }) (compPost (model prog w) A E none Q acc cenv.locals) s₄) E s₃) E s := by
  have perm : ∀ {p : Addr × Sh} {xs nw : List (Addr × Sh)}, List.Perm (p :: (xs ++ nw)) (xs ++ p :: nw) := List.perm_middle.symm
  refine n_list S (fun D s₁ S₁ => ?_) (by simp [sizeLine_eq])
  refine wpAny_newFunctionEnv hcell (by intro y hy; simp at hy) (fun h₁ hns₁ hsb₁ => ?_) hkind
  have hk₁ : ∀ b o, s₁.heap.get? b = some o → h₁.get? b = some o := fun b o e => hsb₁.extBut b o (Nat.ne_of_lt (Heap.lt_size e)) (Heap.get?_push_of_some _ e)
  have S₃ : Sx b ((s₁.heap.objs.size, l0) :: ns) (xs ++ (D, aList []) :: nw) { s₁ with heap := h₁, toks := s₁.toks + ([] : List (Str × Value)).length } :=
    ⟨(S₁.st.pushNs hk₁ ⟨by rw [hkeys]; exact localKeys.nd hok0, _, hns₁, fun p hp => (hvals p hp).symm⟩ (Nat.le_refl _)).perm perm.symm, S₁.g, S₁.o⟩
  generalize hs₃ : ({ s₁ with heap := h₁, toks := s₁.toks + ([] : List (Str × Value)).length } : Shared) = s₃ at S₃ ⊢
  generalize s₁.heap.objs.size = C at S₃ ⊢
  clear hns₁ hsb₁ hk₁ S₁ hs₃
  have VC : Fn (compEnvC scope cl C env) names' cl := ⟨hkind, (rel_names V).trans hN, hok, V.gl, V.bt, rfl, by unfold interactive compEnvC relabel; rw [hkind]; rfl⟩
  have loop : codeAny (model prog w) A (.compLoop (.ListComp elt [⟨.Tuple elts x1 tp, iter, [], 0⟩] scope pos) 0 (.ref I) (.ref D) (compEnvC scope cl C env)) (compPost (model prog w) A E none Q (.ref D) C) s₃ := by
    refine LCp.codeAny_compLoop_pair (fun k s => ∃ i ys nw lv xs, k + i = n ∧ J i ys nw ∧ lv.map (·.1) = localKeys scope.names ∧ X i xs ∧ Sx b ((C, lv) :: ns) (xs ++ (D, aList ys) :: nw) s) (fun k s hI => ?_) n ⟨0, [], nw, l0, xs, rfl, h0, hkeys, hX, S₃⟩
    obtain ⟨i, ys, nw, lv, xs, hk, hJ, hlv, hX, S⟩ := hI
    by_cases hi : i < n
    · refine wpAny_mono (W.item i _ _ xs s elts x1 tp (compEnvC scope cl C env) _ _ hi (hneed _ _ (hn _ _ _ hJ)) hX S (hlen2 _) (hst _) fun v1 v2 xs' s' hP hX' S' => step i ys nw xs' s' v1 v2 _ C lv (compEnvC scope cl C env) D hi hJ hP hX' rfl VC hlv S' _ ⟨fun h => h⟩) (fun r s₁ q => ?_) fun _ _ q => q
      obtain ⟨v, rfl, q⟩ := q
      refine wpAny_mono q (fun _ s₂ q => wpAny_mono q (fun _ s₃ q => wpAny_mono q (fun y s₄ q => ?_) fun _ _ q => q) fun _ _ q => q) fun _ _ q => q
      obtain ⟨lv', xs', nw', e', hJ', hX', S''⟩ := q
      have := hlen i ys nw hJ
      have S2 : Sx b ((C, lv') :: ns) ((D, aList ys) :: (xs' ++ nw')) s₄ := ⟨S''.st.perm perm, S''.g, S''.o⟩
      refine c_append S2 .head (by omega) fun s₅ S₅ => ⟨n - (i + 1), by omega, i + 1, ys ++ [y], nw', lv', xs', by omega, hJ', e', hX', ⟨S₅.st.perm perm.symm, S₅.g, S₅.o⟩⟩
    · have e : i = n := by omega
      subst e
      refine W.done _ _ xs s _ _ (hneed _ _ (hn _ _ _ hJ)) hX S fun s' S' => ?_
      obtain ⟨_, m, hm, _⟩ := (S'.st.held _ (.head _)).1
      exact ⟨m, hm, fun h' hs' => done ys nw _ D hJ (S'.popBut hs'.2)⟩
  exact codeAny_compStart_list loop (W.self _ _ xs s₃ _ _ (hneed _ _ (hn _ _ _ h0)) hX S₃ loop)
end

end
section
/-- what holds in every state of this shape -/
def Hs (b : Shared) (ns : List (Addr × Vars)) (nw : List (Addr × Sh)) (P : Shared → Prop) : Prop := ∀ s, Sx b ns nw s → P s
theorem Hs.enter {b : Shared} {ns : List (Addr × Vars)} {nw : List (Addr × Sh)} {P : Shared → Prop} {s : Shared} (S : Sx b ns nw s) (h : Hs b ns nw P) : P s := h s S
theorem Hs.leave {b : Shared} {ns : List (Addr × Vars)} {nw : List (Addr × Sh)} {P : Shared → Prop} (h : ∀ s, Sx b ns nw s → P s) : Hs b ns nw P := h
theorem h_ite_t {b : Shared} {ns : List (Addr × Vars)} {nw : List (Addr × Sh)} {c : Bool} {P R : Shared → Prop} (h : Hs b ns nw P) (e : c = true) : Hs b ns nw (fun s => if c = true then P s else R s) := fun s S => by show (if c = true then P s else R s); rw [if_pos e]; exact h s S
theorem h_ite_f {b : Shared} {ns : List (Addr × Vars)} {nw : List (Addr × Sh)} {c : Bool} {P R : Shared → Prop} (h : Hs b ns nw R) (e : c = false) : Hs b ns nw (fun s => if c = true then P s else R s) := fun s S => by show (if c = true then P s else R s); rw [if_neg (by rw [e]; decide)]; exact h s S
theorem h_cut {b : Shared} {ns : List (Addr × Vars)} {nw : List (Addr × Sh)} {M : Model} {A : Around} {α : Type} {t : Sem α} {Q : α → Shared → Prop} {E : Value → Shared → Prop} (h : ∀ q, Abs Q q → Hs b ns nw (wpAny M A t q E)) : Hs b ns nw (wpAny M A t Q E) := h Q ⟨fun h => h⟩
theorem h_out {b : Shared} {ns : List (Addr × Vars)} {nw : List (Addr × Sh)} {α : Type} {Q q : α → Shared → Prop} {v : α} (a : Abs Q q) (h : Hs b ns nw (Q v)) : Hs b ns nw (q v) := fun s S => a.out (h s S)
theorem h_K {b : Shared} {ns : List (Addr × Vars)} {nw : List (Addr × Sh)} {w : World} {P : Shared → Prop} (Z : Bs w b.heap) (h : Hs b ns nw P) : Hs b ns nw (fun s => (hd.heap_1 w.params).In s.heap ∧ P s) := fun s S => ⟨S.K Z, h s S⟩
abbrev hq_0 (q0 : Program) (q1 : World) (q2 : Around) (Eq3 : Value → Shared → Prop) (q9 : Str) (q11 : Value → Shared → Prop) : Value → Shared → Prop := fun (q15 : Value) (q16 : Shared) ↦
  wpAny (model q0 q1) q2 (getAttr q15 q9 Bool.true) q11 Eq3 q16
theorem h_Attribute_any_ {q0 : Program} {q1 : World} {q2 : Around} {bb : Shared} {envq7 : Env} {Eq3 : Value → Shared → Prop} {nns : List (Addr × Vars)} {nnw : List (Addr × Sh)} {q8 : Expr} {q9 : Str} {q10 : Pos} {q11 : Value → Shared → Prop} (q14 : Hs bb nns nnw (wpAny (model q0 q1) q2 (eval q8 envq7) (hq_0 q0 q1 q2 Eq3 q9 q11) Eq3)) (q17 : (eval (Expr.Attribute q8 q9 q10) envq7 = do
  let q18 ← eval q8 envq7
  standAt (Pos.atName q10)
  let q20 ← holding [q18] (getAttr q18 q9 Bool.true)
  letTemporaryGo q8 q18 q20
  Pure.pure q20) := by wtm_at "M.r") : Hs bb nns nnw (wpAny (model q0 q1) q2 (eval (Expr.Attribute q8 q9 q10) envq7) q11 Eq3) := fun ss SS => @Attribute_any_ q0 q1 q2 Eq3 ss envq7 q8 q9 q10 q11 (q14 ss SS) q17
abbrev hq_1 (q0 : Model) (q1 : Around) (envq6 : Env) (Eq2 : Value → Shared → Prop) (q8 : Expr) (q9 : List Expr) (q10 : Pos) (q11 : Value → Shared → Prop) (q15 : Value) : Bool → Shared → Prop := fun (q17 : Bool) (q18 : Shared) ↦
  if q17 = Bool.true then
    wpAny q0 q1 (eval (Expr.BoolOp BoolOp.And (q8 :: q9) q10) envq6) q11 Eq2 q18
  else q11 q15 q18
abbrev hq_2 (q0 : Model) (q1 : Around) (envq6 : Env) (Eq2 : Value → Shared → Prop) (q8 : Expr) (q9 : List Expr) (q10 : Pos) (q11 : Value → Shared → Prop) : Value → Shared → Prop := fun (q15 : Value) (q16 : Shared) ↦
  wpAny q0 q1 (truthy q15) (hq_1 q0 q1 envq6 Eq2 q8 q9 q10 q11 q15) Eq2 q16
theorem h_BoolOp_and {q0 : Model} {q1 : Around} {bb : Shared} {envq6 : Env} {Eq2 : Value → Shared → Prop} {nns : List (Addr × Vars)} {nnw : List (Addr × Sh)} {q7 : Expr} {q8 : Expr} {q9 : List Expr} {q10 : Pos} {q11 : Value → Shared → Prop} (q14 : Hs bb nns nnw (wpAny q0 q1 (eval q7 envq6) (hq_2 q0 q1 envq6 Eq2 q8 q9 q10 q11) Eq2)) : Hs bb nns nnw (wpAny q0 q1 (eval (Expr.BoolOp BoolOp.And (q7 :: q8 :: q9) q10) envq6) q11 Eq2) := fun ss SS => @BoolOp_and q0 q1 Eq2 ss envq6 q7 q8 q9 q10 q11 (q14 ss SS)
theorem h_BoolOp_one {q0 : Model} {q1 : Around} {bb : Shared} {envq6 : Env} {Eq2 : Value → Shared → Prop} {nns : List (Addr × Vars)} {nnw : List (Addr × Sh)} {q7 : BoolOp} {q8 : Expr} {q9 : Pos} {q10 : Value → Shared → Prop} (q13 : Hs bb nns nnw (wpAny q0 q1 (eval q8 envq6) q10 Eq2)) : Hs bb nns nnw (wpAny q0 q1 (eval (Expr.BoolOp q7 [q8] q9) envq6) q10 Eq2) := fun ss SS => @BoolOp_one q0 q1 Eq2 ss envq6 q7 q8 q9 q10 (q13 ss SS)
abbrev hq_3 (q0 : Model) (q1 : Around) (envq6 : Env) (Eq2 : Value → Shared → Prop) (q8 : Expr) (q9 : List Expr) (q10 : Pos) (q11 : Value → Shared → Prop) (q15 : Value) : Bool → Shared → Prop := fun (q17 : Bool) (q18 : Shared) ↦
  if q17 = Bool.true then q11 q15 q18
  else wpAny q0 q1 (eval (Expr.BoolOp BoolOp.Or (q8 :: q9) q10) envq6) q11 Eq2 q18
abbrev hq_4 (q0 : Model) (q1 : Around) (envq6 : Env) (Eq2 : Value → Shared → Prop) (q8 : Expr) (q9 : List Expr) (q10 : Pos) (q11 : Value → Shared → Prop) : Value → Shared → Prop := fun (q15 : Value) (q16 : Shared) ↦
  wpAny q0 q1 (truthy q15) (hq_3 q0 q1 envq6 Eq2 q8 q9 q10 q11 q15) Eq2 q16
theorem h_BoolOp_or {q0 : Model} {q1 : Around} {bb : Shared} {envq6 : Env} {Eq2 : Value → Shared → Prop} {nns : List (Addr × Vars)} {nnw : List (Addr × Sh)} {q7 : Expr} {q8 : Expr} {q9 : List Expr} {q10 : Pos} {q11 : Value → Shared → Prop} (q14 : Hs bb nns nnw (wpAny q0 q1 (eval q7 envq6) (hq_4 q0 q1 envq6 Eq2 q8 q9 q10 q11) Eq2)) : Hs bb nns nnw (wpAny q0 q1 (eval (Expr.BoolOp BoolOp.Or (q7 :: q8 :: q9) q10) envq6) q11 Eq2) := fun ss SS => @BoolOp_or q0 q1 Eq2 ss envq6 q7 q8 q9 q10 q11 (q14 ss SS)
abbrev hq_5 (q0 : Model) (q1 : Around) (envq6 : Env) (Eq2 : Value → Shared → Prop) (q8 : CmpOp) (q9 : CmpOp) (q10 : List CmpOp) (q11 : Expr) (q12 : Expr) (q13 : List Expr) (q14 : Pos) (q15 : Value → Shared → Prop) : Value → Shared → Prop := fun (q19 : Value) (q20 : Shared) ↦
  wpAny q0 q1
    (compareChain q14 q19 (q8 :: q9 :: q10)
      (eval q11 envq6 :: eval q12 envq6 :: evalEach q13 envq6))
    q15 Eq2 q20
theorem h_Compare_chain {q0 : Model} {q1 : Around} {bb : Shared} {envq6 : Env} {Eq2 : Value → Shared → Prop} {nns : List (Addr × Vars)} {nnw : List (Addr × Sh)} {q7 : Expr} {q8 : CmpOp} {q9 : CmpOp} {q10 : List CmpOp} {q11 : Expr} {q12 : Expr} {q13 : List Expr} {q14 : Pos} {q15 : Value → Shared → Prop} (q18 : Hs bb nns nnw (wpAny q0 q1 (eval q7 envq6) (hq_5 q0 q1 envq6 Eq2 q8 q9 q10 q11 q12 q13 q14 q15) Eq2)) (q21 : (lastMarks (q8 :: q9 :: q10) (q11 :: q12 :: q13) = Bool.false) := by wtm_at "M.r") : Hs bb nns nnw (wpAny q0 q1 (eval (Expr.Compare q7 (q8 :: q9 :: q10) (q11 :: q12 :: q13) q14) envq6) q15 Eq2) := fun ss SS => @Compare_chain q0 q1 Eq2 ss envq6 q7 q8 q9 q10 q11 q12 q13 q14 q15 (q18 ss SS) q21
theorem h_Constant_bool {q0 : Model} {q1 : Around} {bb : Shared} {envq6 : Env} {Eq2 : Value → Shared → Prop} {nns : List (Addr × Vars)} {nnw : List (Addr × Sh)} {q7 : Bool} {q8 : Nat} {q9 : Pos} {q10 : Value → Shared → Prop} (q13 : Hs bb nns nnw (q10 (Value.bool q7))) : Hs bb nns nnw (wpAny q0 q1 (eval (Expr.Constant (Const.bool q7) q8 q9) envq6) q10 Eq2) := fun ss SS => @Constant_bool q0 q1 Eq2 ss envq6 q7 q8 q9 q10 (q13 ss SS)
abbrev hq_6 (q0 : Model) (q1 : Around) (envq6 : Env) (Eq2 : Value → Shared → Prop) (q8 : Expr) (q9 : Expr) (q11 : Value → Shared → Prop) : Bool → Shared → Prop := fun (q15 : Bool) (q16 : Shared) ↦
  if q15 = Bool.true then wpAny q0 q1 (eval q8 envq6) q11 Eq2 q16
  else wpAny q0 q1 (eval q9 envq6) q11 Eq2 q16
theorem h_IfExp_ {q0 : Model} {q1 : Around} {bb : Shared} {envq6 : Env} {Eq2 : Value → Shared → Prop} {nns : List (Addr × Vars)} {nnw : List (Addr × Sh)} {q7 : Expr} {q8 : Expr} {q9 : Expr} {q10 : Pos} {q11 : Value → Shared → Prop} (q14 : Hs bb nns nnw (wpAny q0 q1 (isTrue q7 envq6 (eval q7 envq6)) (hq_6 q0 q1 envq6 Eq2 q8 q9 q11) Eq2)) : Hs bb nns nnw (wpAny q0 q1 (eval (Expr.IfExp q7 q8 q9 q10) envq6) q11 Eq2) := fun ss SS => @IfExp_ q0 q1 Eq2 ss envq6 q7 q8 q9 q10 q11 (q14 ss SS)
theorem h_leaveX {bq0 : Shared} {nsq1 : List (Addr × Vars)} {q2 : Value → Shared → Prop} {q5 : Value} {q7 : Addr × Vars} {q8 : List (Addr × Sh)} (q10 : Hs (bq0) (nsq1) (q8) (q2 q5)) : Hs (bq0) (q7 :: nsq1) (q8) (LeaveX bq0 nsq1 q2 q5) := fun ss SS => @LeaveX.intro bq0 nsq1 q2 q5 ss q7 q8 SS (fun Sz => q10 ss Sz)
abbrev hq_7 (q0 : Model) (q1 : Around) (Eq2 : Value → Shared → Prop) (q9 : Value → Shared → Prop) : List Value → Shared → Prop := fun (q13 : List Value) (q14 : Shared) ↦ wpAny q0 q1 (newList q13) q9 Eq2 q14
theorem h_List_ {q0 : Model} {q1 : Around} {bb : Shared} {envq6 : Env} {Eq2 : Value → Shared → Prop} {nns : List (Addr × Vars)} {nnw : List (Addr × Sh)} {q7 : List Expr} {q8 : Pos} {q9 : Value → Shared → Prop} (q12 : Hs bb nns nnw (wpAny q0 q1 (spliced (backTo q8 (starEach q7 envq6))) (hq_7 q0 q1 Eq2 q9) Eq2)) : Hs bb nns nnw (wpAny q0 q1 (eval (Expr.List q7 q8) envq6) q9 Eq2) := fun ss SS => @List_ q0 q1 Eq2 ss envq6 q7 q8 q9 (q12 ss SS)
abbrev hq_8 (q0 : Model) (q1 : Around) (envq6 : Env) (Eq2 : Value → Shared → Prop) (q10 : Pos) (q11 : List Expr) (q13 : Value → Shared → Prop) : Value × List Value → Shared → Prop := fun (q19 : Value × List Value) (q20 : Shared) ↦
  wpAny q0 q1 (callWith q10 (Prod.fst q19) (Prod.snd q19) (backTo q10 (starEach q11 envq6)) [])
    q13 Eq2 q20
abbrev hq_9 (q0 : Model) (q1 : Around) (envq6 : Env) (Eq2 : Value → Shared → Prop) (q8 : Str) (q10 : Pos) (q11 : List Expr) (q12 : PySem.Sem Bool) (q13 : Value → Shared → Prop) : Value → Shared → Prop := fun (q17 : Value) (q18 : Shared) ↦
  wpAny q0 q1 (getMethod q17 q8 q12) (hq_8 q0 q1 envq6 Eq2 q10 q11 q13) Eq2 q18
theorem h_MethodCall_ {q0 : Model} {q1 : Around} {bb : Shared} {envq6 : Env} {Eq2 : Value → Shared → Prop} {nns : List (Addr × Vars)} {nnw : List (Addr × Sh)} {q7 : Expr} {q8 : Str} {q9 : Pos} {q10 : Pos} {q11 : List Expr} {q12 : PySem.Sem Bool} {q13 : Value → Shared → Prop} (q16 : Hs bb nns nnw (wpAny q0 q1 (eval q7 envq6) (hq_9 q0 q1 envq6 Eq2 q8 q10 q11 q12 q13) Eq2)) (q21 : (eval (Expr.Call (Expr.Attribute q7 q8 q9) q11 [] q10) envq6 = do
  let q22 ← eval q7 envq6
  standAt (Pos.atName q9)
  let q24 ← holding [q22] (getMethod q22 q8 q12)
  MethodCall_.match_3 (fun (q25 : Value × List Value) ↦ PySem.Sem Value) q24
      fun (q26 : Value) (q27 : List Value) ↦
      callWith q10 q26 q27 (backTo q10 (starEach q11 envq6)) []) := by wtm_at "M.r") : Hs bb nns nnw (wpAny q0 q1 (eval (Expr.Call (Expr.Attribute q7 q8 q9) q11 [] q10) envq6) q13 Eq2) := fun ss SS => @MethodCall_ q0 q1 Eq2 ss envq6 q7 q8 q9 q10 q11 q12 q13 (q16 ss SS) q21
theorem h_callWith_method0 {q0 : Model} {q1 : Around} {bb : Shared} {envq6 : Env} {Eq2 : Value → Shared → Prop} {nns : List (Addr × Vars)} {nnw : List (Addr × Sh)} {q7 : Pos} {q8 : String} {q9 : List Value} {q10 : Value → Shared → Prop} (q13 : Hs bb nns nnw (wpAny q0 q1 (call (Value.builtin q8) q9) q10 Eq2)) : Hs bb nns nnw (wpAny q0 q1 (callWith q7 (Value.builtin q8) q9 (backTo q7 (starEach [] envq6)) []) q10 Eq2) := fun ss SS => @callWith_method0 q0 q1 Eq2 ss envq6 q7 q8 q9 q10 (q13 ss SS)
abbrev hq_10 (q0 : Model) (q1 : Around) (Eq2 : Value → Shared → Prop) (q8 : String) (q9 : List Value) (q12 : Value → Shared → Prop) : List Value → Shared → Prop := fun (q16 : List Value) (q17 : Shared) ↦
  wpAny q0 q1 (call (Value.builtin q8) (q9 ++ q16)) q12 Eq2 q17
theorem h_callWith_method1 {q0 : Model} {q1 : Around} {bb : Shared} {envq6 : Env} {Eq2 : Value → Shared → Prop} {nns : List (Addr × Vars)} {nnw : List (Addr × Sh)} {q7 : Pos} {q8 : String} {q9 : List Value} {q10 : Expr} {q11 : List Expr} {q12 : Value → Shared → Prop} (q15 : Hs bb nns nnw (wpAny q0 q1 (spliced (backTo q7 (starEach (q10 :: q11) envq6))) (hq_10 q0 q1 Eq2 q8 q9 q12)
  Eq2)) (q18 : (starEach (q10 :: q11) envq6 = (Bool.false, eval q10 envq6) :: starEach q11 envq6) := by wtm_at "M.r") (q19 : ((List.any (backTo q7 (starEach q11 envq6)) fun (q20 : Bool × PySem.Sem Value) ↦ Prod.fst q20) =
  Bool.false) := by wtm_at "M.r") : Hs bb nns nnw (wpAny q0 q1
  (callWith q7 (Value.builtin q8) q9 (backTo q7 (starEach (q10 :: q11) envq6)) []) q12 Eq2) := fun ss SS => @callWith_method1 q0 q1 Eq2 ss envq6 q7 q8 q9 q10 q11 q12 (q15 ss SS) q18 q19
theorem h_eq_bool {q0 : Program} {q1 : World} {q2 : Around} {bb : Shared} {Eq3 : Value → Shared → Prop} {nns : List (Addr × Vars)} {nnw : List (Addr × Sh)} {q7 : Bool} {q8 : Bool} {q9 : Value → Shared → Prop} (q12 : Hs bb nns nnw (q9 (Value.bool (q7 == q8)))) : Hs bb nns nnw (wpAny (model q0 q1) q2 (compareOp CmpOp.Eq (Value.bool q7) (Value.bool q8)) q9 Eq3) := fun ss SS => @eq_bool q0 q1 q2 Eq3 ss q7 q8 q9 (q12 ss SS)
theorem h_eq_int {q0 : Program} {q1 : World} {q2 : Around} {bb : Shared} {bq8 : Int} {Eq3 : Value → Shared → Prop} {nns : List (Addr × Vars)} {nnw : List (Addr × Sh)} {q7 : Int} {q9 : Tok} {q10 : Tok} {q11 : Value → Shared → Prop} (q14 : Hs bb nns nnw (q11 (Value.bool (q7 == bq8)))) : Hs bb nns nnw (wpAny (model q0 q1) q2 (compareOp CmpOp.Eq (Value.int q7 q9) (Value.int bq8 q10))
  q11 Eq3) := fun ss SS => @eq_int q0 q1 q2 Eq3 ss q7 bq8 q9 q10 q11 (q14 ss SS)
theorem h_ge_int {q0 : Program} {q1 : World} {q2 : Around} {bb : Shared} {bq8 : Int} {Eq3 : Value → Shared → Prop} {nns : List (Addr × Vars)} {nnw : List (Addr × Sh)} {q7 : Int} {q9 : Tok} {q10 : Tok} {q11 : Value → Shared → Prop} (q14 : Hs bb nns nnw (q11 (Value.bool (Decidable.decide (bq8 ≤ q7))))) : Hs bb nns nnw (wpAny (model q0 q1) q2 (compareOp CmpOp.GtE (Value.int q7 q9) (Value.int bq8 q10))
  q11 Eq3) := fun ss SS => @ge_int q0 q1 q2 Eq3 ss q7 bq8 q9 q10 q11 (q14 ss SS)
theorem h_gt_int {q0 : Program} {q1 : World} {q2 : Around} {bb : Shared} {bq8 : Int} {Eq3 : Value → Shared → Prop} {nns : List (Addr × Vars)} {nnw : List (Addr × Sh)} {q7 : Int} {q9 : Tok} {q10 : Tok} {q11 : Value → Shared → Prop} (q14 : Hs bb nns nnw (q11 (Value.bool (Decidable.decide (bq8 < q7))))) : Hs bb nns nnw (wpAny (model q0 q1) q2 (compareOp CmpOp.Gt (Value.int q7 q9) (Value.int bq8 q10))
  q11 Eq3) := fun ss SS => @gt_int q0 q1 q2 Eq3 ss q7 bq8 q9 q10 q11 (q14 ss SS)
theorem h_le_int {q0 : Program} {q1 : World} {q2 : Around} {bb : Shared} {bq8 : Int} {Eq3 : Value → Shared → Prop} {nns : List (Addr × Vars)} {nnw : List (Addr × Sh)} {q7 : Int} {q9 : Tok} {q10 : Tok} {q11 : Value → Shared → Prop} (q14 : Hs bb nns nnw (q11 (Value.bool (Decidable.decide (q7 ≤ bq8))))) : Hs bb nns nnw (wpAny (model q0 q1) q2 (compareOp CmpOp.LtE (Value.int q7 q9) (Value.int bq8 q10))
  q11 Eq3) := fun ss SS => @le_int q0 q1 q2 Eq3 ss q7 bq8 q9 q10 q11 (q14 ss SS)
theorem h_lt_int {q0 : Program} {q1 : World} {q2 : Around} {bb : Shared} {bq8 : Int} {Eq3 : Value → Shared → Prop} {nns : List (Addr × Vars)} {nnw : List (Addr × Sh)} {q7 : Int} {q9 : Tok} {q10 : Tok} {q11 : Value → Shared → Prop} (q14 : Hs bb nns nnw (q11 (Value.bool (Decidable.decide (q7 < bq8))))) : Hs bb nns nnw (wpAny (model q0 q1) q2 (compareOp CmpOp.Lt (Value.int q7 q9) (Value.int bq8 q10))
  q11 Eq3) := fun ss SS => @lt_int q0 q1 q2 Eq3 ss q7 bq8 q9 q10 q11 (q14 ss SS)
theorem h_ne_bool {q0 : Program} {q1 : World} {q2 : Around} {bb : Shared} {Eq3 : Value → Shared → Prop} {nns : List (Addr × Vars)} {nnw : List (Addr × Sh)} {q7 : Bool} {q8 : Bool} {q9 : Value → Shared → Prop} (q12 : Hs bb nns nnw (q9 (Value.bool (q7 != q8)))) : Hs bb nns nnw (wpAny (model q0 q1) q2 (compareOp CmpOp.NotEq (Value.bool q7) (Value.bool q8)) q9
  Eq3) := fun ss SS => @ne_bool q0 q1 q2 Eq3 ss q7 q8 q9 (q12 ss SS)
theorem h_ne_int {q0 : Program} {q1 : World} {q2 : Around} {bb : Shared} {bq8 : Int} {Eq3 : Value → Shared → Prop} {nns : List (Addr × Vars)} {nnw : List (Addr × Sh)} {q7 : Int} {q9 : Tok} {q10 : Tok} {q11 : Value → Shared → Prop} (q14 : Hs bb nns nnw (q11 (Value.bool (q7 != bq8)))) : Hs bb nns nnw (wpAny (model q0 q1) q2 (compareOp CmpOp.NotEq (Value.int q7 q9) (Value.int bq8 q10))
  q11 Eq3) := fun ss SS => @ne_int q0 q1 q2 Eq3 ss q7 bq8 q9 q10 q11 (q14 ss SS)
theorem h_Constant_none {q0 : Model} {q1 : Around} {bb : Shared} {envq6 : Env} {Eq2 : Value → Shared → Prop} {nns : List (Addr × Vars)} {nnw : List (Addr × Sh)} {q7 : Nat} {q8 : Pos} {q9 : Value → Shared → Prop} (q12 : Hs bb nns nnw (q9 Value.none)) : Hs bb nns nnw (wpAny q0 q1 (eval (Expr.Constant Const.none q7 q8) envq6) q9 Eq2) := fun ss SS => @wpAny_Constant_none q0 q1 Eq2 ss envq6 q7 q8 q9 (q12 ss SS)
abbrev hq_11 (q0 : Model) (q1 : Around) (Eq2 : Value → Shared → Prop) (q7 : Expr) (q8 : Expr) (q10 : Value → Shared → Prop) (q14 : Value) : Value → Shared → Prop := fun (q16 : Value) (q17 : Shared) ↦ wpAny q0 q1 (subscriptTail q7 q8 q14 q16) q10 Eq2 q17
abbrev hq_12 (q0 : Model) (q1 : Around) (envq6 : Env) (Eq2 : Value → Shared → Prop) (q7 : Expr) (q8 : Expr) (q10 : Value → Shared → Prop) : Value → Shared → Prop := fun (q14 : Value) (q15 : Shared) ↦
  wpAny q0 q1 (eval q8 envq6) (hq_11 q0 q1 Eq2 q7 q8 q10 q14) Eq2 q15
theorem h_Subscript_ {q0 : Model} {q1 : Around} {bb : Shared} {envq6 : Env} {Eq2 : Value → Shared → Prop} {nns : List (Addr × Vars)} {nnw : List (Addr × Sh)} {q7 : Expr} {q8 : Expr} {q9 : Pos} {q10 : Value → Shared → Prop} (q13 : Hs bb nns nnw (wpAny q0 q1 (eval q7 envq6) (hq_12 q0 q1 envq6 Eq2 q7 q8 q10) Eq2)) : Hs bb nns nnw (wpAny q0 q1 (eval (Expr.Subscript q7 q8 q9) envq6) q10 Eq2) := fun ss SS => @Subscript_ q0 q1 Eq2 ss envq6 q7 q8 q9 q10 (q13 ss SS)
abbrev hq_13 (q0 : Model) (q1 : Around) (Eq2 : Value → Shared → Prop) (q10 : Value → Shared → Prop) : List Value → Shared → Prop := fun (q14 : List Value) (q15 : Shared) ↦ wpAny q0 q1 (newTuple q14) q10 Eq2 q15
theorem h_Tuple_ {q0 : Model} {q1 : Around} {bb : Shared} {envq6 : Env} {Eq2 : Value → Shared → Prop} {nns : List (Addr × Vars)} {nnw : List (Addr × Sh)} {q7 : List Expr} {q8 : Nat} {q9 : Pos} {q10 : Value → Shared → Prop} (q13 : Hs bb nns nnw (wpAny q0 q1 (spliced (backTo q9 (starEach q7 envq6))) (hq_13 q0 q1 Eq2 q10) Eq2)) : Hs bb nns nnw (wpAny q0 q1 (eval (Expr.Tuple q7 q8 q9) envq6) q10 Eq2) := fun ss SS => @Tuple_ q0 q1 Eq2 ss envq6 q7 q8 q9 q10 (q13 ss SS)
abbrev hq_14 (q0 : Model) (q1 : Around) (Eq2 : Value → Shared → Prop) (q7 : UnaryOp) (q10 : Value → Shared → Prop) : Value → Shared → Prop := fun (q14 : Value) (q15 : Shared) ↦ wpAny q0 q1 (unaryOp q7 q14) q10 Eq2 q15
theorem h_UnaryOp_ {q0 : Model} {q1 : Around} {bb : Shared} {envq6 : Env} {Eq2 : Value → Shared → Prop} {nns : List (Addr × Vars)} {nnw : List (Addr × Sh)} {q7 : UnaryOp} {q8 : Expr} {q9 : Pos} {q10 : Value → Shared → Prop} (q13 : Hs bb nns nnw (wpAny q0 q1 (eval q8 envq6) (hq_14 q0 q1 Eq2 q7 q10) Eq2)) : Hs bb nns nnw (wpAny q0 q1 (eval (Expr.UnaryOp q7 q8 q9) envq6) q10 Eq2) := fun ss SS => @UnaryOp_ q0 q1 Eq2 ss envq6 q7 q8 q9 q10 (q13 ss SS)
theorem h_a_get {q0 : Program} {q1 : World} {q2 : Around} {bq7 : Shared} {Eq3 : Value → Shared → Prop} {nsq8 : List (Addr × Vars)} {nwq9 : List (Addr × Sh)} {q10 : Addr} {q11 : Addr} {q12 : Addr} {q13 : List (Str × Value)} {q14 : Str} {q15 : Value} {q16 : Value → Shared → Prop} {q19 : Bool} (q29 : Hs (bq7) (nsq8) (nwq9) (q16 q15)) (q20 : (Bs q1 (Shared.heap bq7)) := by wtm_at "M.a") (q22 : ((q10, aIns q12 q11) ∈ nwq9) := by wtm_at "M.mem") (q23 : ((q11, aFld q13) ∈ nwq9) := by wtm_at "M.mem") (q24 : (List.lookup q14 q13 = Option.some q15) := by wtm_at "M.r") (q25 : (findIn (hd.heap_1 (World.params q1)) (Value.ref q12) (Str.ofString "__getattribute__") =
  Option.some (Option.some (Value.builtin "object.__getattribute__"))) := by wtm_at "M.k") (q26 : (hasDictIn (hd.heap_1 (World.params q1)) q12 = Bool.true) := by wtm_at "M.k") (q27 : (findIn (hd.heap_1 (World.params q1)) (Value.ref q12) q14 = Option.some Option.none) := by wtm_at "M.k") (q28 : (handedIn q15 = Bool.true) := by wtm_at "M.r") : Hs (bq7) (nsq8) (nwq9) (wpAny (model q0 q1) q2 (getAttr (Value.ref q10) q14 q19) q16 Eq3) := fun ss SS => @a_get q0 q1 q2 Eq3 ss bq7 nsq8 nwq9 q10 q11 q12 q13 q14 q15 q16 q19 q20 SS q22 q23 q24 q25 q26 q27 q28 (fun st Sz => q29 st Sz)
theorem h_a_set {q0 : Program} {q1 : World} {q2 : Around} {bq7 : Shared} {Eq3 : Value → Shared → Prop} {nsq8 : List (Addr × Vars)} {nwq9 : List (Addr × Sh)} {q10 : List (Addr × Sh)} {q11 : Addr} {q12 : Addr} {q13 : Addr} {q14 : List (Str × Value)} {q15 : List (Str × Value)} {q16 : Str} {q17 : Value} {q18 : Unit → Shared → Prop} (q31 : Hs (bq7) (nsq8) (q10) (q18 ())) (q21 : (Bs q1 (Shared.heap bq7)) := by wtm_at "M.a") (q23 : ((q11, aIns q13 q12) ∈ nwq9) := by wtm_at "M.mem") (q24 : (PutO q12 (aFld q14) (aFld q15) nwq9 q10) := by wtm_at "M.put") (q25 : (PutF q16 q17 q14 q15) := by wtm_at "M.putf") (q26 : (List.length q14 ≤ OfNat.ofNat (nat_lit 900)) := by exact (Nat.le_of_ble_eq_true (by with_unfolding_all rfl))) (q27 : (findIn (hd.heap_1 (World.params q1)) (Value.ref q13) (Str.ofString "__setattr__") =
  Option.some (Option.some (Value.builtin "object.__setattr__"))) := by wtm_at "M.k") (q28 : (plainOver (hd.heap_1 (World.params q1)) q13 = Bool.true) := by wtm_at "M.k") (q29 : (takerIn (hd.heap_1 (World.params q1)) q13 q16 = Option.some Option.none) := by wtm_at "M.k") (q30 : (hasDictIn (hd.heap_1 (World.params q1)) q13 = Bool.true) := by wtm_at "M.k") : Hs (bq7) (nsq8) (nwq9) (wpAny (model q0 q1) q2 (setAttr (Value.ref q11) q16 q17) q18 Eq3) := fun ss SS => @a_set q0 q1 q2 Eq3 ss bq7 nsq8 nwq9 q10 q11 q12 q13 q14 q15 q16 q17 q18 q21 SS q23 q24 q25 q26 q27 q28 q29 q30 (fun st Sz => q31 st Sz)
theorem h_as_tup {q0 : Program} {q1 : World} {q2 : Around} {bq7 : Shared} {envq10 : Env} {Eq3 : Value → Shared → Prop} {nsq8 : List (Addr × Vars)} {nwq9 : List (Addr × Sh)} {q11 : List Value} {q12 : Addr} {q13 : List Expr} {q14 : Nat} {q15 : Pos} {q16 : Unit → Shared → Prop} (q29 : Hs (bq7) (nsq8) (nwq9) (wpAny (model q0 q1) q2
  (assignInOrder
    (List.map (fun (q34 : Bool × (Value → PySem.Sem Unit)) ↦ Prod.snd q34) (assignEach q13 envq10)) q11)
  q16 Eq3)) (q20 : ((q12, aTup q11) ∈ nwq9) := by wtm_at "M.mem") (q21 : (Around.handled q2 = Option.none) := by exact (Ar.hd (by wtm_at "M.a"))) (q22 : (List.length (assignEach q13 envq10) = List.length q11) := by wtm_at "M.r") (q24 : (List.findIdx? (fun (q26 : Bool × (Value → PySem.Sem Unit)) ↦ Prod.fst q26) (assignEach q13 envq10) =
  Option.none) := by wtm_at "M.r") : Hs (bq7) (nsq8) (nwq9) (wpAny (model q0 q1) q2 (assign (Expr.Tuple q13 q14 q15) envq10 (Value.ref q12)) q16 Eq3) := fun ss SS => @as_tup q0 q1 q2 Eq3 ss bq7 nsq8 nwq9 envq10 q11 q12 q13 q14 q15 q16 SS q20 q21 q22 q24 (fun st Sz => q29 st Sz)
abbrev hq_15 (q0 : Model) (q1 : Around) (Eq2 : Value → Shared → Prop) (q8 : List (Value → PySem.Sem Unit)) (q11 : List Value) (q12 : Unit → Shared → Prop) : Unit → Shared → Prop := fun (q16 : Unit) (q17 : Shared) ↦ wpAny q0 q1 (assignInOrder q8 q11) q12 Eq2 q17
theorem h_assignInOrder_cons {q0 : Model} {q1 : Around} {bb : Shared} {Eq2 : Value → Shared → Prop} {nns : List (Addr × Vars)} {nnw : List (Addr × Sh)} {q6 : Value → PySem.Sem Unit} {q8 : List (Value → PySem.Sem Unit)} {q10 : Value} {q11 : List Value} {q12 : Unit → Shared → Prop} (q15 : Hs bb nns nnw (wpAny q0 q1 (q6 q10) (hq_15 q0 q1 Eq2 q8 q11 q12) Eq2)) : Hs bb nns nnw (wpAny q0 q1 (assignInOrder (q6 :: q8) (q10 :: q11)) q12 Eq2) := fun ss SS => @assignInOrder_cons q0 q1 Eq2 ss q6 q8 q10 q11 q12 (q15 ss SS)
theorem h_assignInOrder_nil {q0 : Model} {q1 : Around} {bb : Shared} {Eq2 : Value → Shared → Prop} {nns : List (Addr × Vars)} {nnw : List (Addr × Sh)} {q6 : List Value} {q7 : Unit → Shared → Prop} (q10 : Hs bb nns nnw (q7 ())) : Hs bb nns nnw (wpAny q0 q1 (assignInOrder [] q6) q7 Eq2) := fun ss SS => @assignInOrder_nil q0 q1 Eq2 ss q6 q7 (q10 ss SS)
theorem h_c_in {q0 : Program} {q1 : World} {q2 : Around} {bq7 : Shared} {Eq3 : Value → Shared → Prop} {nsq8 : List (Addr × Vars)} {nwq9 : List (Addr × Sh)} {q10 : Addr} {q11 : List Value} {q12 : Tok} {q13 : List Int} {q14 : Int} {q15 : Value → Shared → Prop} (q21 : Hs (bq7) (nsq8) (nwq9) (q15 (Value.bool (List.any q13 fun (q22 : Int) ↦ q22 == q14)))) (q19 : ((q10, aList q11) ∈ nwq9) := by wtm_at "M.mem") (q20 : (IntsAre q11 q13) := by wtm_at "M.a") : Hs (bq7) (nsq8) (nwq9) (wpAny (model q0 q1) q2 (compareOp CmpOp.In (Value.int q14 q12) (Value.ref q10)) q15
  Eq3) := fun ss SS => @c_in q0 q1 q2 Eq3 ss bq7 nsq8 nwq9 q10 q11 q12 q13 q14 q15 SS q19 q20 (q21 ss SS)
theorem h_c_range1 {q0 : Program} {q1 : World} {q2 : Around} {bq7 : Shared} {Eq3 : Value → Shared → Prop} {nsq8 : List (Addr × Vars)} {nwq9 : List (Addr × Sh)} {q10 : Int} {q11 : Tok} {q12 : Value → Shared → Prop} (q16 : ∀ (q17 : Addr), Hs (bq7) (nsq8) ((q17, aRg (OfNat.ofNat (nat_lit 0)) q10) :: nwq9) (q12 (Value.ref q17))) : Hs (bq7) (nsq8) (nwq9) (wpAny (model q0 q1) q2 (call (Value.type "range") [Value.int q10 q11]) q12 Eq3) := fun ss SS => @c_range1 q0 q1 q2 Eq3 ss bq7 nsq8 nwq9 q10 q11 q12 SS (fun q17 st Sz => q16 q17 st Sz)
theorem h_c_range2 {q0 : Program} {q1 : World} {q2 : Around} {bq7 : Shared} {Eq3 : Value → Shared → Prop} {nsq8 : List (Addr × Vars)} {nwq9 : List (Addr × Sh)} {q10 : Int} {q11 : Int} {q12 : Tok} {q13 : Tok} {q14 : Value → Shared → Prop} (q18 : ∀ (q19 : Addr), Hs (bq7) (nsq8) ((q19, aRg q10 q11) :: nwq9) (q14 (Value.ref q19))) : Hs (bq7) (nsq8) (nwq9) (wpAny (model q0 q1) q2
  (call (Value.type "range") [Value.int q10 q12, Value.int q11 q13]) q14 Eq3) := fun ss SS => @c_range2 q0 q1 q2 Eq3 ss bq7 nsq8 nwq9 q10 q11 q12 q13 q14 SS (fun q19 st Sz => q18 q19 st Sz)
abbrev hq_16 (q0 : Program) (q1 : World) (q2 : Around) (Eq3 : Value → Shared → Prop) (q15 : String) (q19 : Value → Shared → Prop) : List Value → Shared → Prop := fun (q28 : List Value) (q29 : Shared) ↦
  wpAny (model q0 q1) q2 (call (Value.builtin q15) q28) q19 Eq3 q29
theorem h_call_bi {q0 : Program} {q1 : World} {q2 : Around} {bq7 : Shared} {envq10 : Env} {namesq13 : List (Str × NameKind)} {csq14 : List (Str × Addr)} {Eq3 : Value → Shared → Prop} {nsq8 : List (Addr × Vars)} {nwq9 : List (Addr × Sh)} {q11 : Pos} {q12 : Pos} {q15 : String} {q16 : Str} {q17 : Expr} {q18 : List Expr} {q19 : Value → Shared → Prop} (q27 : Hs (bq7) (nsq8) (nwq9) (wpAny (model q0 q1) q2 (spliced (backTo q11 (starEach (q17 :: q18) envq10)))
  (hq_16 q0 q1 q2 Eq3 q15 q19) Eq3)) (q22 : (Bs q1 (Shared.heap bq7)) := by wtm_at "M.a") (q23 : (Fn envq10 namesq13 csq14) := by wtm_at "M.a") (q25 : ((q16, NameKind.globalImplicit) ∈ namesq13) := by wtm_at "M.mem") (q26 : ((q16, Value.builtin q15) ∈ BL) := by wtm_at "M.mem") (q30 : (starEach (q17 :: q18) envq10 = (Bool.false, eval q17 envq10) :: starEach q18 envq10) := by wtm_at "M.r") (q31 : ((List.any (backTo q11 (starEach q18 envq10)) fun (q32 : Bool × PySem.Sem Value) ↦ Prod.fst q32) =
  Bool.false) := by wtm_at "M.r") : Hs (bq7) (nsq8) (nwq9) (wpAny (model q0 q1) q2 (eval (Expr.Call (Expr.Name q16 q12) (q17 :: q18) [] q11) envq10)
  q19 Eq3) := fun ss SS => @call_bi q0 q1 q2 Eq3 ss bq7 nsq8 nwq9 envq10 q11 q12 namesq13 csq14 q15 q16 q17 q18 q19 q22 q23 SS q25 q26 (q27 ss SS) q30 q31
abbrev hq_17 (q0 : Program) (q1 : World) (q2 : Around) (Eq3 : Value → Shared → Prop) (q15 : Addr) (q19 : Value → Shared → Prop) : List Value → Shared → Prop := fun (q28 : List Value) (q29 : Shared) ↦
  Frag.In (hd.heap_1 (World.params q1)) (Shared.heap q29) ∧
    wpAny (model q0 q1) q2 (call (Value.ref q15) q28) q19 Eq3 q29
theorem h_call_g {q0 : Program} {q1 : World} {q2 : Around} {bq7 : Shared} {envq10 : Env} {namesq11 : List (Str × NameKind)} {csq12 : List (Str × Addr)} {Eq3 : Value → Shared → Prop} {nsq8 : List (Addr × Vars)} {nwq9 : List (Addr × Sh)} {q13 : Pos} {q14 : Pos} {q15 : Addr} {q16 : Str} {q17 : Expr} {q18 : List Expr} {q19 : Value → Shared → Prop} (q27 : Hs (bq7) (nsq8) (nwq9) (wpAny (model q0 q1) q2 (spliced (backTo q13 (starEach (q17 :: q18) envq10)))
  (hq_17 q0 q1 q2 Eq3 q15 q19) Eq3)) (q22 : (Bs q1 (Shared.heap bq7)) := by wtm_at "M.a") (q23 : (Fn envq10 namesq11 csq12) := by wtm_at "M.a") (q25 : ((q16, NameKind.globalImplicit) ∈ namesq11) := by wtm_at "M.mem") (q26 : ((q16, Value.ref q15) ∈ GF) := by wtm_at "M.mem") (q30 : (starEach (q17 :: q18) envq10 = (Bool.false, eval q17 envq10) :: starEach q18 envq10) := by wtm_at "M.r") (q31 : ((List.any (backTo q13 (starEach q18 envq10)) fun (q32 : Bool × PySem.Sem Value) ↦ Prod.fst q32) =
  Bool.false) := by wtm_at "M.r") : Hs (bq7) (nsq8) (nwq9) (wpAny (model q0 q1) q2 (eval (Expr.Call (Expr.Name q16 q14) (q17 :: q18) [] q13) envq10)
  q19 Eq3) := fun ss SS => @call_g q0 q1 q2 Eq3 ss bq7 nsq8 nwq9 envq10 namesq11 csq12 q13 q14 q15 q16 q17 q18 q19 q22 q23 SS q25 q26 (q27 ss SS) q30 q31
theorem h_call_g0 {q0 : Program} {q1 : World} {q2 : Around} {bq7 : Shared} {envq10 : Env} {namesq11 : List (Str × NameKind)} {csq12 : List (Str × Addr)} {Eq3 : Value → Shared → Prop} {nsq8 : List (Addr × Vars)} {nwq9 : List (Addr × Sh)} {q13 : Addr} {q14 : Str} {q15 : Pos} {q16 : Pos} {q17 : Value → Shared → Prop} (q25 : Hs (bq7) (nsq8) (nwq9) (wpAny (model q0 q1) q2 (call (Value.ref q13)) q17 Eq3)) (q20 : (Bs q1 (Shared.heap bq7)) := by wtm_at "M.a") (q21 : (Fn envq10 namesq11 csq12) := by wtm_at "M.a") (q23 : ((q14, NameKind.globalImplicit) ∈ namesq11) := by wtm_at "M.mem") (q24 : ((q14, Value.ref q13) ∈ GF) := by wtm_at "M.mem") : Hs (bq7) (nsq8) (nwq9) (wpAny (model q0 q1) q2 (eval (Expr.Call (Expr.Name q14 q16) [] [] q15) envq10) q17 Eq3) := fun ss SS => @call_g0 q0 q1 q2 Eq3 ss bq7 nsq8 nwq9 envq10 namesq11 csq12 q13 q14 q15 q16 q17 q20 q21 SS q23 q24 (q25 ss SS)
abbrev hq_18 (q0 : Program) (q1 : World) (q2 : Around) (Eq3 : Value → Shared → Prop) (q15 : String) (q19 : Value → Shared → Prop) : List Value → Shared → Prop := fun (q28 : List Value) (q29 : Shared) ↦
  wpAny (model q0 q1) q2 (call (Value.type q15) q28) q19 Eq3 q29
theorem h_call_ty {q0 : Program} {q1 : World} {q2 : Around} {bq7 : Shared} {envq10 : Env} {namesq13 : List (Str × NameKind)} {csq14 : List (Str × Addr)} {Eq3 : Value → Shared → Prop} {nsq8 : List (Addr × Vars)} {nwq9 : List (Addr × Sh)} {q11 : Pos} {q12 : Pos} {q15 : String} {q16 : Str} {q17 : Expr} {q18 : List Expr} {q19 : Value → Shared → Prop} (q27 : Hs (bq7) (nsq8) (nwq9) (wpAny (model q0 q1) q2 (spliced (backTo q11 (starEach (q17 :: q18) envq10)))
  (hq_18 q0 q1 q2 Eq3 q15 q19) Eq3)) (q22 : (Bs q1 (Shared.heap bq7)) := by wtm_at "M.a") (q23 : (Fn envq10 namesq13 csq14) := by wtm_at "M.a") (q25 : ((q16, NameKind.globalImplicit) ∈ namesq13) := by wtm_at "M.mem") (q26 : ((q16, Value.type q15) ∈ BL) := by wtm_at "M.mem") (q30 : (starEach (q17 :: q18) envq10 = (Bool.false, eval q17 envq10) :: starEach q18 envq10) := by wtm_at "M.r") (q31 : ((List.any (backTo q11 (starEach q18 envq10)) fun (q32 : Bool × PySem.Sem Value) ↦ Prod.fst q32) =
  Bool.false) := by wtm_at "M.r") : Hs (bq7) (nsq8) (nwq9) (wpAny (model q0 q1) q2 (eval (Expr.Call (Expr.Name q16 q12) (q17 :: q18) [] q11) envq10)
  q19 Eq3) := fun ss SS => @call_ty q0 q1 q2 Eq3 ss bq7 nsq8 nwq9 envq10 q11 q12 namesq13 csq14 q15 q16 q17 q18 q19 q22 q23 SS q25 q26 (q27 ss SS) q30 q31
abbrev hq_19 (q0 : Model) (q1 : Around) (Eq2 : Value → Shared → Prop) (q7 : Value) (q8 : CmpOp) (q10 : Value → Shared → Prop) : Value → Shared → Prop := fun (bq14 : Value) (q15 : Shared) ↦ wpAny q0 q1 (compareOp q8 q7 bq14) q10 Eq2 q15
theorem h_chain_last {q0 : Model} {q1 : Around} {bb : Shared} {Eq2 : Value → Shared → Prop} {nns : List (Addr × Vars)} {nnw : List (Addr × Sh)} {q6 : Pos} {q7 : Value} {q8 : CmpOp} {q9 : PySem.Sem Value} {q10 : Value → Shared → Prop} (q13 : Hs bb nns nnw (wpAny q0 q1 q9 (hq_19 q0 q1 Eq2 q7 q8 q10) Eq2)) : Hs bb nns nnw (wpAny q0 q1 (compareChain q6 q7 [q8] [q9]) q10 Eq2) := fun ss SS => @chain_last q0 q1 Eq2 ss q6 q7 q8 q9 q10 (q13 ss SS)
abbrev hq_20 (q0 : Model) (q1 : Around) (bq18 : Value) (Eq2 : Value → Shared → Prop) (q6 : Pos) (q9 : CmpOp) (q10 : List CmpOp) (q12 : PySem.Sem Value) (q13 : List (PySem.Sem Value)) (q14 : Value → Shared → Prop) (q20 : Value) : Bool → Shared → Prop := fun (q22 : Bool) (q23 : Shared) ↦
  if q22 = Bool.true then wpAny q0 q1 (compareChain q6 bq18 (q9 :: q10) (q12 :: q13)) q14 Eq2 q23
  else q14 q20 q23
abbrev hq_21 (q0 : Model) (q1 : Around) (bq18 : Value) (Eq2 : Value → Shared → Prop) (q6 : Pos) (q9 : CmpOp) (q10 : List CmpOp) (q12 : PySem.Sem Value) (q13 : List (PySem.Sem Value)) (q14 : Value → Shared → Prop) : Value → Shared → Prop := fun (q20 : Value) (q21 : Shared) ↦
  wpAny q0 q1 (truthy q20) (hq_20 q0 q1 bq18 Eq2 q6 q9 q10 q12 q13 q14 q20) Eq2 q21
abbrev hq_22 (q0 : Model) (q1 : Around) (Eq2 : Value → Shared → Prop) (q6 : Pos) (q7 : Value) (q8 : CmpOp) (q9 : CmpOp) (q10 : List CmpOp) (q12 : PySem.Sem Value) (q13 : List (PySem.Sem Value)) (q14 : Value → Shared → Prop) : Value → Shared → Prop := fun (bq18 : Value) (q19 : Shared) ↦
  wpAny q0 q1 (compareOp q8 q7 bq18) (hq_21 q0 q1 bq18 Eq2 q6 q9 q10 q12 q13 q14) Eq2 q19
theorem h_chain_link {q0 : Model} {q1 : Around} {bb : Shared} {Eq2 : Value → Shared → Prop} {nns : List (Addr × Vars)} {nnw : List (Addr × Sh)} {q6 : Pos} {q7 : Value} {q8 : CmpOp} {q9 : CmpOp} {q10 : List CmpOp} {q11 : PySem.Sem Value} {q12 : PySem.Sem Value} {q13 : List (PySem.Sem Value)} {q14 : Value → Shared → Prop} (q17 : Hs bb nns nnw (wpAny q0 q1 q11 (hq_22 q0 q1 Eq2 q6 q7 q8 q9 q10 q12 q13 q14) Eq2)) : Hs bb nns nnw (wpAny q0 q1 (compareChain q6 q7 (q8 :: q9 :: q10) (q11 :: q12 :: q13)) q14 Eq2) := fun ss SS => @chain_link q0 q1 Eq2 ss q6 q7 q8 q9 q10 q11 q12 q13 q14 (q17 ss SS)
theorem h_cw0 {q0 : Program} {q1 : World} {q2 : Around} {bq7 : Shared} {envq10 : Env} {Eq3 : Value → Shared → Prop} {nsq8 : List (Addr × Vars)} {nwq9 : List (Addr × Sh)} {q11 : Value} {q12 : Addr} {q13 : Pos} {q14 : Value → Shared → Prop} (q20 : Hs (bq7) (nsq8) (nwq9) (wpAny (model q0 q1) q2 (call (Value.ref q12) [q11]) q14 Eq3)) (q17 : (Bs q1 (Shared.heap bq7)) := by wtm_at "M.a") (q19 : (keepIn (hd.heap_1 (World.params q1)) (Value.ref q12) = Bool.true) := by wtm_at "M.k") : Hs (bq7) (nsq8) (nwq9) (wpAny (model q0 q1) q2
  (callWith q13 (Value.ref q12) [q11] (backTo q13 (starEach [] envq10)) []) q14 Eq3) := fun ss SS => @cw0 q0 q1 q2 Eq3 ss bq7 nsq8 nwq9 envq10 q11 q12 q13 q14 q17 SS q19 (q20 ss SS)
abbrev hq_23 (q0 : Program) (q1 : World) (q2 : Around) (Eq3 : Value → Shared → Prop) (q9 : Value) (q10 : Addr) (q14 : Value → Shared → Prop) : List Value → Shared → Prop := fun (q20 : List Value) (q21 : Shared) ↦
  Frag.In (hd.heap_1 (World.params q1)) (Shared.heap q21) ∧
    wpAny (model q0 q1) q2 (call (Value.ref q10) (q9 :: q20)) q14 Eq3 q21
theorem h_cw1 {q0 : Program} {q1 : World} {q2 : Around} {bb : Shared} {bq7 : Shared} {envq8 : Env} {Eq3 : Value → Shared → Prop} {nns : List (Addr × Vars)} {nnw : List (Addr × Sh)} {q9 : Value} {q10 : Addr} {q11 : Expr} {q12 : List Expr} {q13 : Pos} {q14 : Value → Shared → Prop} (q19 : Hs bb nns nnw (wpAny (model q0 q1) q2 (spliced (backTo q13 (starEach (q11 :: q12) envq8)))
  (hq_23 q0 q1 q2 Eq3 q9 q10 q14) Eq3)) (q17 : (Bs q1 (Shared.heap bq7)) := by wtm_at "M.a") (q18 : (keepIn (hd.heap_1 (World.params q1)) (Value.ref q10) = Bool.true) := by wtm_at "M.k") (q22 : (starEach (q11 :: q12) envq8 = (Bool.false, eval q11 envq8) :: starEach q12 envq8) := by wtm_at "M.r") (q23 : ((List.any (backTo q13 (starEach q12 envq8)) fun (q24 : Bool × PySem.Sem Value) ↦ Prod.fst q24) =
  Bool.false) := by wtm_at "M.r") : Hs bb nns nnw (wpAny (model q0 q1) q2
  (callWith q13 (Value.ref q10) [q9] (backTo q13 (starEach (q11 :: q12) envq8)) []) q14 Eq3) := fun ss SS => @cw1 q0 q1 q2 Eq3 ss bq7 envq8 q9 q10 q11 q12 q13 q14 q17 q18 (q19 ss SS) q22 q23
theorem h_d_new {q0 : World} {q1 : Around} {bq6 : Shared} {envq9 : Env} {Eq2 : Value → Shared → Prop} {nsq7 : List (Addr × Vars)} {nwq8 : List (Addr × Sh)} {q10 : Pos} {q11 : Value → Shared → Prop} (q16 : ∀ (q17 : Addr), ∀ (q19 : (q17 == sysModules) = Bool.false), Hs (bq6) (nsq7) ((q17, aDic q0 []) :: nwq8) (q11 (Value.ref q17))) (q14 : (Bs q0 (Shared.heap bq6)) := by wtm_at "M.a") : Hs (bq6) (nsq7) (nwq8) (wpAny (model Challenge.pw_nm0155_01 q0) q1 (eval (Expr.Dict [] [] q10) envq9) q11 Eq2) := fun ss SS => @d_new q0 q1 Eq2 ss bq6 nsq7 nwq8 envq9 q10 q11 q14 SS (fun q17 st q19 Sz => q16 q17 q19 st Sz)
theorem h_dict_method {q0 : World} {q1 : Around} {bq6 : Shared} {Eq2 : Value → Shared → Prop} {nsq7 : List (Addr × Vars)} {nwq8 : List (Addr × Sh)} {q9 : Addr} {q10 : List (Str × Value)} {q11 : Str} {q12 : String} {q13 : PySem.Sem Bool} {q14 : Value × List Value → Shared → Prop} (q21 : Hs (bq6) (nsq7) (nwq8) (q14 (Value.builtin q12, [Value.ref q9]))) (q17 : (Slot "dict" q11 q12) := by exact F.slot_dict_update) (q18 : (typeOf (Value.builtin q12) = Pure.pure (Value.type "method_descriptor")) := by exact F.type_dict_update) (q20 : ((q9, aDic q0 q10) ∈ nwq8) := by wtm_at "M.mem") : Hs (bq6) (nsq7) (nwq8) (wpAny (model Challenge.pw_nm0155_01 q0) q1 (getMethod (Value.ref q9) q11 q13) q14 Eq2) := fun ss SS => @dict_method q0 q1 Eq2 ss bq6 nsq7 nwq8 q9 q10 q11 q12 q13 q14 q17 q18 SS q20 (q21 ss SS)
theorem h_e_builtin {q0 : Program} {q1 : World} {q2 : Around} {bq7 : Shared} {envq10 : Env} {namesq13 : List (Str × NameKind)} {csq14 : List (Str × Addr)} {Eq3 : Value → Shared → Prop} {nsq8 : List (Addr × Vars)} {nwq9 : List (Addr × Sh)} {q11 : Value} {q12 : Pos} {q15 : Str} {q16 : Value → Shared → Prop} (q24 : Hs (bq7) (nsq8) (nwq9) (q16 q11)) (q19 : (Bs q1 (Shared.heap bq7)) := by wtm_at "M.a") (q20 : (Fn envq10 namesq13 csq14) := by wtm_at "M.a") (q22 : ((q15, NameKind.globalImplicit) ∈ namesq13) := by wtm_at "M.mem") (q23 : ((q15, q11) ∈ BL) := by wtm_at "M.mem") : Hs (bq7) (nsq8) (nwq9) (wpAny (model q0 q1) q2 (eval (Expr.Name q15 q12) envq10) q16 Eq3) := fun ss SS => @e_builtin q0 q1 q2 Eq3 ss bq7 nsq8 nwq9 envq10 q11 q12 namesq13 csq14 q15 q16 q19 q20 SS q22 q23 (q24 ss SS)
theorem h_e_bytes {q0 : Program} {q1 : World} {q2 : Around} {bq7 : Shared} {envq10 : Env} {Eq3 : Value → Shared → Prop} {nsq8 : List (Addr × Vars)} {nwq9 : List (Addr × Sh)} {q11 : Pos} {q12 : Value → Shared → Prop} {q15 : Nat} {q16 : List UInt8} (q18 : ∀ (q19 : Tok), Hs (bq7) (nsq8) (nwq9) (q12 (Value.bytes (List.toArray q16) q19))) : Hs (bq7) (nsq8) (nwq9) (wpAny (model q0 q1) q2 (eval (Expr.Constant (Const.bytes q16) q15 q11) envq10) q12 Eq3) := fun ss SS => @e_bytes q0 q1 q2 Eq3 ss bq7 nsq8 nwq9 envq10 q11 q12 q15 q16 SS (fun q19 st Sz => q18 q19 st Sz)
theorem h_e_cell {q0 : Program} {q1 : World} {q2 : Around} {bq7 : Shared} {envq10 : Env} {namesq13 : List (Str × NameKind)} {csq14 : List (Str × Addr)} {Eq3 : Value → Shared → Prop} {nsq8 : List (Addr × Vars)} {nwq9 : List (Addr × Sh)} {q11 : Value} {q12 : Pos} {q15 : Str} {q16 : Addr} {q17 : Value → Shared → Prop} (q25 : Hs (bq7) (nsq8) (nwq9) (q17 q11)) (q20 : (Fn envq10 namesq13 csq14) := by wtm_at "M.a") (q22 : ((q15, NameKind.cell) ∈ namesq13) := by wtm_at "M.mem") (q23 : (List.lookup q15 csq14 = Option.some q16) := by wtm_at "M.cl") (q24 : ((q16, aCell (Option.some q11)) ∈ nwq9) := by wtm_at "M.mem") : Hs (bq7) (nsq8) (nwq9) (wpAny (model q0 q1) q2 (eval (Expr.Name q15 q12) envq10) q17 Eq3) := fun ss SS => @e_cell q0 q1 q2 Eq3 ss bq7 nsq8 nwq9 envq10 q11 q12 namesq13 csq14 q15 q16 q17 q20 SS q22 q23 q24 (q25 ss SS)
abbrev hq_24 (q0 : Program) (q1 : World) (q2 : Around) (envq7 : Env) (Eq3 : Value → Shared → Prop) (q9 : Scope) (q10 : Expr) (q11 : Expr) (q12 : Expr) (q13 : List Expr) (q14 : Pos) (q15 : Value → Shared → Prop) (q24 : Value) (q26 : Value) : Env → Shared → Prop := fun (q28 : Env) (q29 : Shared) ↦
  codeAny (model q0 q1) q2
    (Code.compStart
      (Expr.ListComp q10 [Comprehension.mk q11 q12 q13 (OfNat.ofNat (nat_lit 0))] q9 q14)
      (OfNat.ofNat (nat_lit 0)) q24 q26
      (Env.mk (relabel q9 envq7) (Env.locals q28) (Env.globals q28) (Env.cells q28)
        (Env.qual q28) (Env.func q28) (Env.code q28) (Env.frame q28) (Env.builtins q28)))
    (compPost (model q0 q1) q2 Eq3 Option.none q15 q26 (Env.locals q28)) q29
abbrev hq_25 (q0 : Program) (q1 : World) (q2 : Around) (envq7 : Env) (Eq3 : Value → Shared → Prop) (q8 : List (Str × Addr)) (q9 : Scope) (q10 : Expr) (q11 : Expr) (q12 : Expr) (q13 : List Expr) (q14 : Pos) (q15 : Value → Shared → Prop) (q24 : Value) : Value → Shared → Prop := fun (q26 : Value) (q27 : Shared) ↦
  wpAny (model q0 q1) q2
    (newFunctionEnv q9 (Env.globals envq7) q8 [] (Env.qual envq7) Option.none Value.none
      (Option.some envq7))
    (hq_24 q0 q1 q2 envq7 Eq3 q9 q10 q11 q12 q13 q14 q15 q24 q26) Eq3 q27
abbrev hq_26 (q0 : Program) (q1 : World) (q2 : Around) (envq7 : Env) (Eq3 : Value → Shared → Prop) (q8 : List (Str × Addr)) (q9 : Scope) (q10 : Expr) (q11 : Expr) (q12 : Expr) (q13 : List Expr) (q14 : Pos) (q15 : Value → Shared → Prop) : Value → Shared → Prop := fun (q24 : Value) (q25 : Shared) ↦
  wpAny (model q0 q1) q2 (newList [])
    (hq_25 q0 q1 q2 envq7 Eq3 q8 q9 q10 q11 q12 q13 q14 q15 q24) Eq3 q25
abbrev hq_27 (q0 : Program) (q1 : World) (q2 : Around) (envq7 : Env) (Eq3 : Value → Shared → Prop) (q8 : List (Str × Addr)) (q9 : Scope) (q10 : Expr) (q11 : Expr) (q12 : Expr) (q13 : List Expr) (q14 : Pos) (q15 : Value → Shared → Prop) : Value → Shared → Prop := fun (q22 : Value) (q23 : Shared) ↦
  wpAny (model q0 q1) q2 (pyIter q22) (hq_26 q0 q1 q2 envq7 Eq3 q8 q9 q10 q11 q12 q13 q14 q15)
    Eq3 q23
theorem h_e_comp {q0 : Program} {q1 : World} {q2 : Around} {bb : Shared} {envq7 : Env} {Eq3 : Value → Shared → Prop} {nns : List (Addr × Vars)} {nnw : List (Addr × Sh)} {q8 : List (Str × Addr)} {q9 : Scope} {q10 : Expr} {q11 : Expr} {q12 : Expr} {q13 : List Expr} {q14 : Pos} {q15 : Value → Shared → Prop} (q21 : Hs bb nns nnw (wpAny (model q0 q1) q2 (eval q12 envq7) (hq_27 q0 q1 q2 envq7 Eq3 q8 q9 q10 q11 q12 q13 q14 q15)
  Eq3)) (q18 : (ScOk (Scope.names q9)) := by wtm_at "M.r") (q19 : (Scope.kind q9 = ScopeKind.function) := by wtm_at "M.r") (q20 : (closureFor q9 envq7 = Pure.pure q8) := by exact (clos_of (by wtm_at "M.a") (by with_unfolding_all rfl))) (q31 : (∀ (q32 : Value), foldedSetIterable q12 envq7 q32 = Pure.pure q32) := by with_unfolding_all (intro _; rfl)) : Hs bb nns nnw (wpAny (model q0 q1) q2
  (eval (Expr.ListComp q10 [Comprehension.mk q11 q12 q13 (OfNat.ofNat (nat_lit 0))] q9 q14) envq7) q15
  Eq3) := fun ss SS => @e_comp q0 q1 q2 Eq3 ss envq7 q8 q9 q10 q11 q12 q13 q14 q15 q18 q19 q20 (q21 ss SS) q31
theorem h_e_free {q0 : Program} {q1 : World} {q2 : Around} {bq7 : Shared} {envq10 : Env} {namesq13 : List (Str × NameKind)} {csq14 : List (Str × Addr)} {Eq3 : Value → Shared → Prop} {nsq8 : List (Addr × Vars)} {nwq9 : List (Addr × Sh)} {q11 : Value} {q12 : Pos} {q15 : Str} {q16 : Addr} {q17 : Value → Shared → Prop} (q25 : Hs (bq7) (nsq8) (nwq9) (q17 q11)) (q20 : (Fn envq10 namesq13 csq14) := by wtm_at "M.a") (q22 : ((q15, NameKind.free) ∈ namesq13) := by wtm_at "M.mem") (q23 : (List.lookup q15 csq14 = Option.some q16) := by wtm_at "M.cl") (q24 : ((q16, aCell (Option.some q11)) ∈ nwq9) := by wtm_at "M.mem") (q26 : ((q15 == Str.ofString "__classdict__") = Bool.false) := by decide) : Hs (bq7) (nsq8) (nwq9) (wpAny (model q0 q1) q2 (eval (Expr.Name q15 q12) envq10) q17 Eq3) := fun ss SS => @e_free q0 q1 q2 Eq3 ss bq7 nsq8 nwq9 envq10 q11 q12 namesq13 csq14 q15 q16 q17 q20 SS q22 q23 q24 (q25 ss SS) q26
theorem h_e_global {q0 : Program} {q1 : World} {q2 : Around} {bq7 : Shared} {envq10 : Env} {namesq13 : List (Str × NameKind)} {csq14 : List (Str × Addr)} {Eq3 : Value → Shared → Prop} {nsq8 : List (Addr × Vars)} {nwq9 : List (Addr × Sh)} {q11 : Value} {q12 : Pos} {q15 : Str} {q16 : Value → Shared → Prop} (q24 : Hs (bq7) (nsq8) (nwq9) (q16 q11)) (q19 : (Bs q1 (Shared.heap bq7)) := by wtm_at "M.a") (q20 : (Fn envq10 namesq13 csq14) := by wtm_at "M.a") (q22 : ((q15, NameKind.globalImplicit) ∈ namesq13) := by wtm_at "M.mem") (q23 : ((q15, q11) ∈ GL) := by wtm_at "M.mem") : Hs (bq7) (nsq8) (nwq9) (wpAny (model q0 q1) q2 (eval (Expr.Name q15 q12) envq10) q16 Eq3) := fun ss SS => @e_global q0 q1 q2 Eq3 ss bq7 nsq8 nwq9 envq10 q11 q12 namesq13 csq14 q15 q16 q19 q20 SS q22 q23 (q24 ss SS)
theorem h_e_int {q0 : Program} {q1 : World} {q2 : Around} {bq7 : Shared} {envq10 : Env} {Eq3 : Value → Shared → Prop} {nsq8 : List (Addr × Vars)} {nwq9 : List (Addr × Sh)} {q11 : Int} {q12 : Pos} {q13 : Value → Shared → Prop} {q16 : Nat} (q18 : ∀ (q19 : Tok), Hs (bq7) (nsq8) (nwq9) (q13 (Value.int q11 q19))) : Hs (bq7) (nsq8) (nwq9) (wpAny (model q0 q1) q2 (eval (Expr.Constant (Const.int q11) q16 q12) envq10) q13 Eq3) := fun ss SS => @e_int q0 q1 q2 Eq3 ss bq7 nsq8 nwq9 envq10 q11 q12 q13 q16 SS (fun q19 st Sz => q18 q19 st Sz)
theorem h_e_local {q0 : Program} {q1 : World} {q2 : Around} {bq7 : Shared} {envq10 : Env} {namesq13 : List (Str × NameKind)} {csq14 : List (Str × Addr)} {Eq3 : Value → Shared → Prop} {nsq8 : List (Addr × Vars)} {nwq9 : List (Addr × Sh)} {q11 : Value} {q12 : Pos} {q15 : Str} {q16 : Vars} {q17 : Value → Shared → Prop} (q24 : Hs (bq7) ((Env.locals envq10, q16) :: nsq8) (nwq9) (q17 q11)) (q20 : (Fn envq10 namesq13 csq14) := by wtm_at "M.a") (q22 : ((q15, NameKind.local) ∈ namesq13) := by wtm_at "M.mem") (q23 : ((q15, Option.some q11) ∈ q16) := by wtm_at "M.mem") : Hs (bq7) ((Env.locals envq10, q16) :: nsq8) (nwq9) (wpAny (model q0 q1) q2 (eval (Expr.Name q15 q12) envq10) q17 Eq3) := fun ss SS => @e_local q0 q1 q2 Eq3 ss bq7 nsq8 nwq9 envq10 q11 q12 namesq13 csq14 q15 q16 q17 q20 SS q22 q23 (q24 ss SS)
theorem h_e_str {q0 : Program} {q1 : World} {q2 : Around} {bq7 : Shared} {envq10 : Env} {Eq3 : Value → Shared → Prop} {nsq8 : List (Addr × Vars)} {nwq9 : List (Addr × Sh)} {q11 : Pos} {q12 : Value → Shared → Prop} {q15 : Nat} {q16 : Str} (q18 : ∀ (q19 : Tok), Hs (bq7) (nsq8) (nwq9) (q12 (Value.str q16 q19))) : Hs (bq7) (nsq8) (nwq9) (wpAny (model q0 q1) q2 (eval (Expr.Constant (Const.str q16) q15 q11) envq10) q12 Eq3) := fun ss SS => @e_str q0 q1 q2 Eq3 ss bq7 nsq8 nwq9 envq10 q11 q12 q15 q16 SS (fun q19 st Sz => q18 q19 st Sz)
theorem h_exc_method {q0 : Program} {q1 : World} {q2 : Around} {bq7 : Shared} {Eq3 : Value → Shared → Prop} {nsq8 : List (Addr × Vars)} {nwq9 : List (Addr × Sh)} {q10 : PySem.Sem Bool} {q11 : Value × List Value → Shared → Prop} (q16 : Hs (bq7) (nsq8) (nwq9) (q11 (Value.builtin "Exception.__init__", []))) (q14 : (Bs q1 (Shared.heap bq7)) := by wtm_at "M.a") : Hs (bq7) (nsq8) (nwq9) (wpAny (model q0 q1) q2 (getMethod (Value.type "Exception") (Str.ofString "__init__") q10)
  q11 Eq3) := fun ss SS => @exc_method q0 q1 q2 Eq3 ss bq7 nsq8 nwq9 q10 q11 q14 SS (fun st Sz => q16 st Sz)
theorem h_g_list {q0 : Program} {q1 : World} {q2 : Around} {bq7 : Shared} {Eq3 : Value → Shared → Prop} {nsq8 : List (Addr × Vars)} {nwq9 : List (Addr × Sh)} {q10 : Addr} {q11 : List Value} {q12 : Value} {q13 : Int} {q14 : Tok} {q15 : Value → Shared → Prop} {q26 : Expr} {q27 : Expr} (q25 : Hs (bq7) (nsq8) (nwq9) (q15 q12)) (q19 : ((q10, aList q11) ∈ nwq9) := by wtm_at "M.mem") (q20 : (OfNat.ofNat (nat_lit 0) ≤ q13) := by wtm_at "M.d") (q21 : (q13 < OfNat.ofNat (nat_lit 2) ^ OfNat.ofNat (nat_lit 63)) := by wtm_at "M.d") (q22 : (q11[Int.toNat q13]? = Option.some q12) := by wtm_at "M.r") (q28 : (subscripted q27 Bool.false (Value.ref q10) (Value.int q13 q14) =
  operate [Value.ref q10, Value.int q13 q14]
    (getItem (Value.ref q10) (Value.int q13 q14))) := by wtm_at "M.r") : Hs (bq7) (nsq8) (nwq9) (wpAny (model q0 q1) q2 (subscriptTail q26 q27 (Value.ref q10) (Value.int q13 q14))
  q15 Eq3) := fun ss SS => @g_list q0 q1 q2 Eq3 ss bq7 nsq8 nwq9 q10 q11 q12 q13 q14 q15 SS q19 q20 q21 q22 (q25 ss SS) q26 q27 q28
theorem h_g_tup {q0 : Program} {q1 : World} {q2 : Around} {bq7 : Shared} {Eq3 : Value → Shared → Prop} {nsq8 : List (Addr × Vars)} {nwq9 : List (Addr × Sh)} {q10 : List Value} {q11 : Value} {q12 : Int} {q13 : Tok} {q14 : Addr} {q15 : Value → Shared → Prop} {q27 : Expr} {q28 : Expr} (q26 : Hs (bq7) (nsq8) (nwq9) (q15 q11)) (q19 : ((q14, aTup q10) ∈ nwq9) := by wtm_at "M.mem") (q20 : (OfNat.ofNat (nat_lit 0) ≤ q12) := by wtm_at "M.d") (q21 : (q12 < Nat.cast (List.length q10)) := by exact (of_decide_eq_true (by with_unfolding_all rfl))) (q22 : (List.length q10 < OfNat.ofNat (nat_lit 2) ^ OfNat.ofNat (nat_lit 62)) := by exact (Nat.lt_of_lt_of_le (Nat.lt_succ_self _) (Nat.le_of_ble_eq_true (by with_unfolding_all rfl)))) (q23 : (q10[Int.toNat q12]? = Option.some q11) := by wtm_at "M.r") (q29 : (subscripted q28 Bool.false (Value.ref q14) (Value.int q12 q13) =
  operate [Value.ref q14, Value.int q12 q13]
    (getItem (Value.ref q14) (Value.int q12 q13))) := by wtm_at "M.r") : Hs (bq7) (nsq8) (nwq9) (wpAny (model q0 q1) q2 (subscriptTail q27 q28 (Value.ref q14) (Value.int q12 q13))
  q15 Eq3) := fun ss SS => @g_tup q0 q1 q2 Eq3 ss bq7 nsq8 nwq9 q10 q11 q12 q13 q14 q15 SS q19 q20 q21 q22 q23 (q26 ss SS) q27 q28 q29
theorem h_i_add {q0 : Program} {q1 : World} {q2 : Around} {bq7 : Shared} {Eq3 : Value → Shared → Prop} {nsq8 : List (Addr × Vars)} {nwq9 : List (Addr × Sh)} {q10 : Int} {q11 : Int} {q12 : Tok} {q13 : Tok} {q14 : Value → Shared → Prop} (q18 : ∀ (q19 : Tok), Hs (bq7) (nsq8) (nwq9) (q14 (Value.int (q10 + q11) q19))) : Hs (bq7) (nsq8) (nwq9) (wpAny (model q0 q1) q2
  (binaryOp Operator.Add (Value.int q10 q12) (Value.int q11 q13)) q14 Eq3) := fun ss SS => @i_add q0 q1 q2 Eq3 ss bq7 nsq8 nwq9 q10 q11 q12 q13 q14 SS (fun q19 st Sz => q18 q19 st Sz)
theorem h_i_lsh {q0 : Program} {q1 : World} {q2 : Around} {bq7 : Shared} {Eq3 : Value → Shared → Prop} {nsq8 : List (Addr × Vars)} {nwq9 : List (Addr × Sh)} {q10 : Int} {q11 : Int} {q12 : Tok} {q13 : Tok} {q14 : Value → Shared → Prop} (q21 : ∀ (q22 : Tok), Hs (bq7) (nsq8) (nwq9) (q14 (Value.int (q10 * OfNat.ofNat (nat_lit 2) ^ Int.toNat q11) q22))) (q18 : (OfNat.ofNat (nat_lit 0) ≤ q11) := by wtm_at "M.d") (q19 : (q11 ≤ OfNat.ofNat (nat_lit 1000000)) := by wtm_at "M.d") (q20 : (Int.natAbs q10 < OfNat.ofNat (nat_lit 2) ^ OfNat.ofNat (nat_lit 64)) := by wtm_at "M.d") : Hs (bq7) (nsq8) (nwq9) (wpAny (model q0 q1) q2
  (binaryOp Operator.LShift (Value.int q10 q12) (Value.int q11 q13)) q14 Eq3) := fun ss SS => @i_lsh q0 q1 q2 Eq3 ss bq7 nsq8 nwq9 q10 q11 q12 q13 q14 SS q18 q19 q20 (fun q22 st Sz => q21 q22 st Sz)
theorem h_i_mod {q0 : Program} {q1 : World} {q2 : Around} {bq7 : Shared} {Eq3 : Value → Shared → Prop} {nsq8 : List (Addr × Vars)} {nwq9 : List (Addr × Sh)} {q10 : Int} {q11 : Int} {q12 : Tok} {q13 : Tok} {q14 : Value → Shared → Prop} (q19 : ∀ (q20 : Tok), Hs (bq7) (nsq8) (nwq9) (q14 (Value.int (q10 % q11) q20))) (q18 : (OfNat.ofNat (nat_lit 0) < q11) := by with_unfolding_all first | assumption | decide) : Hs (bq7) (nsq8) (nwq9) (wpAny (model q0 q1) q2
  (binaryOp Operator.Mod (Value.int q10 q12) (Value.int q11 q13)) q14 Eq3) := fun ss SS => @i_mod q0 q1 q2 Eq3 ss bq7 nsq8 nwq9 q10 q11 q12 q13 q14 SS q18 (fun q20 st Sz => q19 q20 st Sz)
theorem h_i_mul {q0 : Program} {q1 : World} {q2 : Around} {bq7 : Shared} {Eq3 : Value → Shared → Prop} {nsq8 : List (Addr × Vars)} {nwq9 : List (Addr × Sh)} {q10 : Int} {q11 : Int} {q12 : Tok} {q13 : Tok} {q14 : Value → Shared → Prop} (q19 : ∀ (q20 : Tok), Hs (bq7) (nsq8) (nwq9) (q14 (Value.int (q10 * q11) q20))) (q18 : (Builtin.Int.intBits q10 ≤ OfNat.ofNat (nat_lit 2)) := by wtm_at "M.d") : Hs (bq7) (nsq8) (nwq9) (wpAny (model q0 q1) q2
  (binaryOp Operator.Mult (Value.int q10 q12) (Value.int q11 q13)) q14 Eq3) := fun ss SS => @i_mul q0 q1 q2 Eq3 ss bq7 nsq8 nwq9 q10 q11 q12 q13 q14 SS q18 (fun q20 st Sz => q19 q20 st Sz)
theorem h_i_neg {q0 : Program} {q1 : World} {q2 : Around} {bq7 : Shared} {Eq3 : Value → Shared → Prop} {nsq8 : List (Addr × Vars)} {nwq9 : List (Addr × Sh)} {q10 : Int} {q11 : Tok} {q12 : Value → Shared → Prop} (q16 : ∀ (q17 : Tok), Hs (bq7) (nsq8) (nwq9) (q12 (Value.int (-q10) q17))) : Hs (bq7) (nsq8) (nwq9) (wpAny (model q0 q1) q2 (unaryOp UnaryOp.USub (Value.int q10 q11)) q12 Eq3) := fun ss SS => @i_neg q0 q1 q2 Eq3 ss bq7 nsq8 nwq9 q10 q11 q12 SS (fun q17 st Sz => q16 q17 st Sz)
theorem h_i_pow {q0 : Program} {q1 : World} {q2 : Around} {bq7 : Shared} {Eq3 : Value → Shared → Prop} {nsq8 : List (Addr × Vars)} {nwq9 : List (Addr × Sh)} {q10 : Int} {q11 : Int} {q12 : Tok} {q13 : Tok} {q14 : Value → Shared → Prop} (q21 : ∀ (q22 : Tok), Hs (bq7) (nsq8) (nwq9) (q14 (Value.int (q10 ^ Int.toNat q11) q22))) (q18 : (OfNat.ofNat (nat_lit 0) ≤ q11) := by wtm_at "M.d") (q19 : (q11 ≤ OfNat.ofNat (nat_lit 1000000)) := by wtm_at "M.d") (q20 : (Int.natAbs q10 < OfNat.ofNat (nat_lit 2) ^ OfNat.ofNat (nat_lit 64)) := by wtm_at "M.d") : Hs (bq7) (nsq8) (nwq9) (wpAny (model q0 q1) q2
  (binaryOp Operator.Pow (Value.int q10 q12) (Value.int q11 q13)) q14 Eq3) := fun ss SS => @i_pow q0 q1 q2 Eq3 ss bq7 nsq8 nwq9 q10 q11 q12 q13 q14 SS q18 q19 q20 (fun q22 st Sz => q21 q22 st Sz)
theorem h_i_sub {q0 : Program} {q1 : World} {q2 : Around} {bq7 : Shared} {Eq3 : Value → Shared → Prop} {nsq8 : List (Addr × Vars)} {nwq9 : List (Addr × Sh)} {q10 : Int} {q11 : Int} {q12 : Tok} {q13 : Tok} {q14 : Value → Shared → Prop} (q18 : ∀ (q19 : Tok), Hs (bq7) (nsq8) (nwq9) (q14 (Value.int (q10 - q11) q19))) : Hs (bq7) (nsq8) (nwq9) (wpAny (model q0 q1) q2
  (binaryOp Operator.Sub (Value.int q10 q12) (Value.int q11 q13)) q14 Eq3) := fun ss SS => @i_sub q0 q1 q2 Eq3 ss bq7 nsq8 nwq9 q10 q11 q12 q13 q14 SS (fun q19 st Sz => q18 q19 st Sz)
abbrev hq_28 (q0 : Model) (q1 : Around) (envq6 : Env) (Eq2 : Value → Shared → Prop) (q8 : List Expr) (q9 : Pos) (q10 : PySem.Sem Value) (q11 : Bool → Shared → Prop) : Bool → Shared → Prop := fun (q15 : Bool) (q16 : Shared) ↦
  if q15 = Bool.true then
    wpAny q0 q1 (isTrue (Expr.BoolOp BoolOp.And q8 q9) envq6 q10) q11 Eq2 q16
  else q11 Bool.false q16
theorem h_isTrue_and {q0 : Model} {q1 : Around} {bb : Shared} {envq6 : Env} {Eq2 : Value → Shared → Prop} {nns : List (Addr × Vars)} {nnw : List (Addr × Sh)} {q7 : Expr} {q8 : List Expr} {q9 : Pos} {q10 : PySem.Sem Value} {q11 : Bool → Shared → Prop} (q14 : Hs bb nns nnw (wpAny q0 q1 (isTrue q7 envq6 (eval q7 envq6)) (hq_28 q0 q1 envq6 Eq2 q8 q9 q10 q11) Eq2)) : Hs bb nns nnw (wpAny q0 q1 (isTrue (Expr.BoolOp BoolOp.And (q7 :: q8) q9) envq6 q10) q11 Eq2) := fun ss SS => @isTrue_and q0 q1 Eq2 ss envq6 q7 q8 q9 q10 q11 (q14 ss SS)
theorem h_isTrue_and_nil {q0 : Model} {q1 : Around} {bb : Shared} {envq6 : Env} {Eq2 : Value → Shared → Prop} {nns : List (Addr × Vars)} {nnw : List (Addr × Sh)} {q7 : Pos} {q8 : PySem.Sem Value} {q9 : Bool → Shared → Prop} (q12 : Hs bb nns nnw (q9 Bool.true)) : Hs bb nns nnw (wpAny q0 q1 (isTrue (Expr.BoolOp BoolOp.And [] q7) envq6 q8) q9 Eq2) := fun ss SS => @isTrue_and_nil q0 q1 Eq2 ss envq6 q7 q8 q9 (q12 ss SS)
abbrev hq_29 (q0 : Model) (q1 : Around) (envq6 : Env) (Eq2 : Value → Shared → Prop) (q8 : CmpOp) (q9 : CmpOp) (q10 : List CmpOp) (q11 : Expr) (q12 : Expr) (q13 : List Expr) (q14 : Pos) (q16 : Bool → Shared → Prop) : Value → Shared → Prop := fun (q20 : Value) (q21 : Shared) ↦
  wpAny q0 q1
    (testChain q14 q20 (q8 :: q9 :: q10)
      (eval q11 envq6 :: eval q12 envq6 :: evalEach q13 envq6))
    q16 Eq2 q21
theorem h_isTrue_chain {q0 : Model} {q1 : Around} {bb : Shared} {envq6 : Env} {Eq2 : Value → Shared → Prop} {nns : List (Addr × Vars)} {nnw : List (Addr × Sh)} {q7 : Expr} {q8 : CmpOp} {q9 : CmpOp} {q10 : List CmpOp} {q11 : Expr} {q12 : Expr} {q13 : List Expr} {q14 : Pos} {q15 : PySem.Sem Value} {q16 : Bool → Shared → Prop} (q19 : Hs bb nns nnw (wpAny q0 q1 (eval q7 envq6) (hq_29 q0 q1 envq6 Eq2 q8 q9 q10 q11 q12 q13 q14 q16) Eq2)) (q22 : (lastMarks (q8 :: q9 :: q10) (q11 :: q12 :: q13) = Bool.false) := by wtm_at "M.r") : Hs bb nns nnw (wpAny q0 q1 (isTrue (Expr.Compare q7 (q8 :: q9 :: q10) (q11 :: q12 :: q13) q14) envq6 q15) q16 Eq2) := fun ss SS => @isTrue_chain q0 q1 Eq2 ss envq6 q7 q8 q9 q10 q11 q12 q13 q14 q15 q16 (q19 ss SS) q22
def hq_30 (q10 : Bool → Shared → Prop) : Bool → Shared → Prop := fun (q14 : Bool) (q15 : Shared) ↦ q10 (!q14) q15
theorem u_30 {q10 : Bool → Shared → Prop} {q14 : Bool} {b : Shared} {ns : List (Addr × Vars)} {nw : List (Addr × Sh)} (h : Hs b ns nw (q10 !q14)) : Hs b ns nw (hq_30 q10 q14) := h
theorem h_isTrue_not {q0 : Model} {q1 : Around} {bb : Shared} {envq6 : Env} {Eq2 : Value → Shared → Prop} {nns : List (Addr × Vars)} {nnw : List (Addr × Sh)} {q7 : Expr} {q8 : Pos} {q9 : PySem.Sem Value} {q10 : Bool → Shared → Prop} (q13 : Hs bb nns nnw (wpAny q0 q1 (isTrue q7 envq6 (eval q7 envq6)) (hq_30 q10) Eq2)) : Hs bb nns nnw (wpAny q0 q1 (isTrue (Expr.UnaryOp UnaryOp.Not q7 q8) envq6 q9) q10 Eq2) := fun ss SS => @isTrue_not q0 q1 Eq2 ss envq6 q7 q8 q9 q10 (q13 ss SS)
abbrev hq_31 (q0 : Model) (q1 : Around) (envq6 : Env) (Eq2 : Value → Shared → Prop) (q8 : List Expr) (q9 : Pos) (q10 : PySem.Sem Value) (q11 : Bool → Shared → Prop) : Bool → Shared → Prop := fun (q15 : Bool) (q16 : Shared) ↦
  if q15 = Bool.true then q11 Bool.true q16
  else wpAny q0 q1 (isTrue (Expr.BoolOp BoolOp.Or q8 q9) envq6 q10) q11 Eq2 q16
theorem h_isTrue_or {q0 : Model} {q1 : Around} {bb : Shared} {envq6 : Env} {Eq2 : Value → Shared → Prop} {nns : List (Addr × Vars)} {nnw : List (Addr × Sh)} {q7 : Expr} {q8 : List Expr} {q9 : Pos} {q10 : PySem.Sem Value} {q11 : Bool → Shared → Prop} (q14 : Hs bb nns nnw (wpAny q0 q1 (isTrue q7 envq6 (eval q7 envq6)) (hq_31 q0 q1 envq6 Eq2 q8 q9 q10 q11) Eq2)) : Hs bb nns nnw (wpAny q0 q1 (isTrue (Expr.BoolOp BoolOp.Or (q7 :: q8) q9) envq6 q10) q11 Eq2) := fun ss SS => @isTrue_or q0 q1 Eq2 ss envq6 q7 q8 q9 q10 q11 (q14 ss SS)
theorem h_isTrue_or_nil {q0 : Model} {q1 : Around} {bb : Shared} {envq6 : Env} {Eq2 : Value → Shared → Prop} {nns : List (Addr × Vars)} {nnw : List (Addr × Sh)} {q7 : Pos} {q8 : PySem.Sem Value} {q9 : Bool → Shared → Prop} (q12 : Hs bb nns nnw (q9 Bool.false)) : Hs bb nns nnw (wpAny q0 q1 (isTrue (Expr.BoolOp BoolOp.Or [] q7) envq6 q8) q9 Eq2) := fun ss SS => @isTrue_or_nil q0 q1 Eq2 ss envq6 q7 q8 q9 (q12 ss SS)
abbrev hq_32 (q0 : Model) (q1 : Around) (Eq2 : Value → Shared → Prop) (q9 : Bool → Shared → Prop) : Value → Shared → Prop := fun (q13 : Value) (q14 : Shared) ↦ wpAny q0 q1 (truthy q13) q9 Eq2 q14
theorem h_isTrue_plain {q0 : Model} {q1 : Around} {bb : Shared} {envq6 : Env} {Eq2 : Value → Shared → Prop} {nns : List (Addr × Vars)} {nnw : List (Addr × Sh)} {q7 : Expr} {q8 : PySem.Sem Value} {q9 : Bool → Shared → Prop} (q12 : Hs bb nns nnw (wpAny q0 q1 q8 (hq_32 q0 q1 Eq2 q9) Eq2)) (q15 : (isTrue q7 envq6 q8 = do
  let q16 ← q8
  standAt (Expr.pos q7)
  holding [q16] (truthy q16)) := by wtm_at "M.r") : Hs bb nns nnw (wpAny q0 q1 (isTrue q7 envq6 q8) q9 Eq2) := fun ss SS => @isTrue_plain q0 q1 Eq2 ss envq6 q7 q8 q9 (q12 ss SS) q15
theorem h_is_nn {q0 : Program} {q1 : World} {q2 : Around} {bb : Shared} {Eq3 : Value → Shared → Prop} {nns : List (Addr × Vars)} {nnw : List (Addr × Sh)} {q7 : Value → Shared → Prop} {q10 : Value} (q11 : Hs bb nns nnw (q7 (Value.bool (isN q10)))) : Hs bb nns nnw (wpAny (model q0 q1) q2 (compareOp CmpOp.Is q10 Value.none) q7 Eq3) := fun ss SS => @is_nn q0 q1 q2 Eq3 ss q7 q10 (q11 ss SS)
theorem h_isnt_nn {q0 : Program} {q1 : World} {q2 : Around} {bb : Shared} {Eq3 : Value → Shared → Prop} {nns : List (Addr × Vars)} {nnw : List (Addr × Sh)} {q7 : Value → Shared → Prop} {q10 : Value} (q11 : Hs bb nns nnw (q7 (Value.bool !isN q10))) : Hs bb nns nnw (wpAny (model q0 q1) q2 (compareOp CmpOp.IsNot q10 Value.none) q7 Eq3) := fun ss SS => @isnt_nn q0 q1 q2 Eq3 ss q7 q10 (q11 ss SS)
theorem h_list_method {q0 : Program} {q1 : World} {q2 : Around} {bq7 : Shared} {Eq3 : Value → Shared → Prop} {nsq8 : List (Addr × Vars)} {nwq9 : List (Addr × Sh)} {q10 : Addr} {q11 : List Value} {q12 : Str} {q13 : String} {q14 : PySem.Sem Bool} {q15 : Value × List Value → Shared → Prop} (q22 : Hs (bq7) (nsq8) (nwq9) (q15 (Value.builtin q13, [Value.ref q10]))) (q18 : (Slot "list" q12 q13) := by exact F.slot_list_append) (q19 : (typeOf (Value.builtin q13) = Pure.pure (Value.type "method_descriptor")) := by exact F.type_list_append) (q21 : ((q10, aList q11) ∈ nwq9) := by wtm_at "M.mem") : Hs (bq7) (nsq8) (nwq9) (wpAny (model q0 q1) q2 (getMethod (Value.ref q10) q12 q14) q15 Eq3) := fun ss SS => @list_method q0 q1 q2 Eq3 ss bq7 nsq8 nwq9 q10 q11 q12 q13 q14 q15 q18 q19 SS q21 (q22 ss SS)
theorem h_list_method2 {q0 : Program} {q1 : World} {q2 : Around} {bq7 : Shared} {Eq3 : Value → Shared → Prop} {nsq8 : List (Addr × Vars)} {nwq9 : List (Addr × Sh)} {q10 : Addr} {q11 : List Value} {q12 : Str} {q13 : String} {q14 : PySem.Sem Bool} {q15 : Value × List Value → Shared → Prop} (q22 : Hs (bq7) (nsq8) (nwq9) (q15 (Value.builtin q13, [Value.ref q10]))) (q18 : (Slot "list" q12 q13) := by exact F.slot_list_index) (q19 : (typeOf (Value.builtin q13) = Pure.pure (Value.type "method_descriptor")) := by exact F.type_list_index) (q21 : ((q10, aList q11) ∈ nwq9) := by wtm_at "M.mem") : Hs (bq7) (nsq8) (nwq9) (wpAny (model q0 q1) q2 (getMethod (Value.ref q10) q12 q14) q15 Eq3) := fun ss SS => @list_method q0 q1 q2 Eq3 ss bq7 nsq8 nwq9 q10 q11 q12 q13 q14 q15 q18 q19 SS q21 (q22 ss SS)
theorem h_list_method3 {q0 : Program} {q1 : World} {q2 : Around} {bq7 : Shared} {Eq3 : Value → Shared → Prop} {nsq8 : List (Addr × Vars)} {nwq9 : List (Addr × Sh)} {q10 : Addr} {q11 : List Value} {q12 : Str} {q13 : String} {q14 : PySem.Sem Bool} {q15 : Value × List Value → Shared → Prop} (q22 : Hs (bq7) (nsq8) (nwq9) (q15 (Value.builtin q13, [Value.ref q10]))) (q18 : (Slot "list" q12 q13) := by exact F.slot_list_extend) (q19 : (typeOf (Value.builtin q13) = Pure.pure (Value.type "method_descriptor")) := by exact F.type_list_extend) (q21 : ((q10, aList q11) ∈ nwq9) := by wtm_at "M.mem") : Hs (bq7) (nsq8) (nwq9) (wpAny (model q0 q1) q2 (getMethod (Value.ref q10) q12 q14) q15 Eq3) := fun ss SS => @list_method q0 q1 q2 Eq3 ss bq7 nsq8 nwq9 q10 q11 q12 q13 q14 q15 q18 q19 SS q21 (q22 ss SS)
theorem h_m_fn {q0 : Program} {q1 : World} {q2 : Around} {bq7 : Shared} {Eq3 : Value → Shared → Prop} {nsq8 : List (Addr × Vars)} {nwq9 : List (Addr × Sh)} {q10 : Addr} {q11 : Addr} {q12 : Addr} {q13 : Addr} {q14 : List (Str × Value)} {q15 : Str} {q16 : Value × List Value → Shared → Prop} {q19 : PySem.Sem Bool} (q29 : Hs (bq7) (nsq8) (nwq9) (q16 (Value.ref q13, [Value.ref q10]))) (q20 : (Bs q1 (Shared.heap bq7)) := by wtm_at "M.a") (q22 : ((q10, aIns q12 q11) ∈ nwq9) := by wtm_at "M.mem") (q23 : ((q11, aFld q14) ∈ nwq9) := by wtm_at "M.mem") (q24 : (List.lookup q15 q14 = Option.none) := by wtm_at "M.r") (q25 : (findIn (hd.heap_1 (World.params q1)) (Value.ref q12) (Str.ofString "__getattribute__") =
  Option.some (Option.some (Value.builtin "object.__getattribute__"))) := by wtm_at "M.k") (q26 : (findIn (hd.heap_1 (World.params q1)) (Value.ref q12) (Str.ofString "__getattr__") =
  Option.some Option.none) := by wtm_at "M.k") (q27 : (findIn (hd.heap_1 (World.params q1)) (Value.ref q12) q15 =
  Option.some (Option.some (Value.ref q13))) := by wtm_at "M.k") (q28 : (typeIn (hd.heap_1 (World.params q1)) (Value.ref q13) =
  Option.some (Value.type "function")) := by wtm_at "M.k") : Hs (bq7) (nsq8) (nwq9) (wpAny (model q0 q1) q2 (getMethod (Value.ref q10) q15 q19) q16 Eq3) := fun ss SS => @m_fn q0 q1 q2 Eq3 ss bq7 nsq8 nwq9 q10 q11 q12 q13 q14 q15 q16 q19 q20 SS q22 q23 q24 q25 q26 q27 q28 (q29 ss SS)
theorem h_n_list {q0 : Program} {q1 : World} {q2 : Around} {bq7 : Shared} {Eq3 : Value → Shared → Prop} {nsq8 : List (Addr × Vars)} {nwq9 : List (Addr × Sh)} {q10 : List Value} {q11 : Value → Shared → Prop} (q15 : ∀ (q16 : Addr), Hs (bq7) (nsq8) ((q16, aList q10) :: nwq9) (q11 (Value.ref q16))) (q19 : (List.length q10 ≤ sizeLine) := by exact (Nat.le_of_ble_eq_true (by with_unfolding_all rfl))) : Hs (bq7) (nsq8) (nwq9) (wpAny (model q0 q1) q2 (newList q10) q11 Eq3) := fun ss SS => @n_list q0 q1 q2 Eq3 ss bq7 nsq8 nwq9 q10 q11 SS (fun q16 st Sz => q15 q16 st Sz) q19
theorem h_n_tup {q0 : Program} {q1 : World} {q2 : Around} {bq7 : Shared} {Eq3 : Value → Shared → Prop} {nsq8 : List (Addr × Vars)} {nwq9 : List (Addr × Sh)} {q10 : List Value} {q11 : Value → Shared → Prop} (q15 : ∀ (q16 : Addr), Hs (bq7) (nsq8) ((q16, aTup q10) :: nwq9) (q11 (Value.ref q16))) (q19 : (List.length q10 ≤ sizeLine) := by exact (Nat.le_of_ble_eq_true (by with_unfolding_all rfl))) : Hs (bq7) (nsq8) (nwq9) (wpAny (model q0 q1) q2 (newTuple q10) q11 Eq3) := fun ss SS => @n_tup q0 q1 q2 Eq3 ss bq7 nsq8 nwq9 q10 q11 SS (fun q16 st Sz => q15 q16 st Sz) q19
def hq_33 (q7 : Value → Shared → Prop) : Bool → Shared → Prop := fun (q11 : Bool) (q12 : Shared) ↦ q7 (Value.bool !q11) q12
theorem u_33 {q7 : Value → Shared → Prop} {q11 : Bool} {b : Shared} {ns : List (Addr × Vars)} {nw : List (Addr × Sh)} (h : Hs b ns nw (q7 (Value.bool !q11))) : Hs b ns nw (hq_33 q7 q11) := h
theorem h_not_of {q0 : Model} {q1 : Around} {bb : Shared} {Eq2 : Value → Shared → Prop} {nns : List (Addr × Vars)} {nnw : List (Addr × Sh)} {q6 : Value} {q7 : Value → Shared → Prop} (q10 : Hs bb nns nnw (wpAny q0 q1 (truthy q6) (hq_33 q7) Eq2)) : Hs bb nns nnw (wpAny q0 q1 (unaryOp UnaryOp.Not q6) q7 Eq2) := fun ss SS => @not_of q0 q1 Eq2 ss q6 q7 (q10 ss SS)
def hq_34 (q10 : List Value → Shared → Prop) (q14 : Value) : List Value → Shared → Prop := fun (q16 : List Value) (q17 : Shared) ↦ q10 (q14 :: q16) q17
theorem u_34 {q10 : List Value → Shared → Prop} {q14 : Value} {q16 : List Value} {b : Shared} {ns : List (Addr × Vars)} {nw : List (Addr × Sh)} (h : Hs b ns nw (q10 (q14 :: q16))) : Hs b ns nw (hq_34 q10 q14 q16) := h
abbrev hq_35 (q0 : Model) (q1 : Around) (envq6 : Env) (Eq2 : Value → Shared → Prop) (q8 : List Expr) (q9 : Pos) (q10 : List Value → Shared → Prop) : Value → Shared → Prop := fun (q14 : Value) (q15 : Shared) ↦
  wpAny q0 q1 (spliced (backTo q9 (starEach q8 envq6))) (hq_34 q10 q14) Eq2 q15
theorem h_spliced_more {q0 : Model} {q1 : Around} {bb : Shared} {envq6 : Env} {Eq2 : Value → Shared → Prop} {nns : List (Addr × Vars)} {nnw : List (Addr × Sh)} {q7 : Expr} {q8 : List Expr} {q9 : Pos} {q10 : List Value → Shared → Prop} (q13 : Hs bb nns nnw (wpAny q0 q1 (eval q7 envq6) (hq_35 q0 q1 envq6 Eq2 q8 q9 q10) Eq2)) (q18 : (starEach (q7 :: q8) envq6 = (Bool.false, eval q7 envq6) :: starEach q8 envq6) := by wtm_at "M.r") : Hs bb nns nnw (wpAny q0 q1 (spliced (backTo q9 (starEach (q7 :: q8) envq6))) q10 Eq2) := fun ss SS => @spliced_more q0 q1 Eq2 ss envq6 q7 q8 q9 q10 (q13 ss SS) q18
theorem h_spliced_none {q0 : Model} {q1 : Around} {bb : Shared} {envq6 : Env} {Eq2 : Value → Shared → Prop} {nns : List (Addr × Vars)} {nnw : List (Addr × Sh)} {q7 : Pos} {q8 : List Value → Shared → Prop} (q11 : Hs bb nns nnw (q8 [])) : Hs bb nns nnw (wpAny q0 q1 (spliced (backTo q7 (starEach [] envq6))) q8 Eq2) := fun ss SS => @spliced_none q0 q1 Eq2 ss envq6 q7 q8 (q11 ss SS)
theorem h_st_cel {q0 : Program} {q1 : World} {q2 : Around} {bq7 : Shared} {envq11 : Env} {namesq13 : List (Str × NameKind)} {csq14 : List (Str × Addr)} {Eq3 : Value → Shared → Prop} {nsq8 : List (Addr × Vars)} {nwq9 : List (Addr × Sh)} {q10 : List (Addr × Sh)} {q12 : Value} {q15 : Str} {q16 : Addr} {q17 : Unit → Shared → Prop} {q20 : Option Value} (q26 : Hs (bq7) (nsq8) (q10) (q17 ())) (q21 : (Fn envq11 namesq13 csq14) := by wtm_at "M.a") (q23 : ((q15, NameKind.cell) ∈ namesq13) := by wtm_at "M.mem") (q24 : (List.lookup q15 csq14 = Option.some q16) := by wtm_at "M.cl") (q25 : (PutO q16 (aCell q20) (aCell (Option.some q12)) nwq9 q10) := by wtm_at "M.put") : Hs (bq7) (nsq8) (nwq9) (wpAny (model q0 q1) q2 (storeName envq11 q15 q12) q17 Eq3) := fun ss SS => @st_cel q0 q1 q2 Eq3 ss bq7 nsq8 nwq9 q10 envq11 q12 namesq13 csq14 q15 q16 q17 q20 q21 SS q23 q24 q25 (fun st Sz => q26 st Sz)
theorem h_st_loc {q0 : Program} {q1 : World} {q2 : Around} {bq7 : Shared} {envq10 : Env} {namesq12 : List (Str × NameKind)} {csq13 : List (Str × Addr)} {Eq3 : Value → Shared → Prop} {nsq8 : List (Addr × Vars)} {nwq9 : List (Addr × Sh)} {q11 : Value} {q14 : Str} {q15 : Vars} {q16 : Vars} {q17 : Unit → Shared → Prop} (q24 : Hs (bq7) ((Env.locals envq10, q16) :: nsq8) (nwq9) (q17 ())) (q20 : (Fn envq10 namesq12 csq13) := by wtm_at "M.a") (q22 : ((q14, NameKind.local) ∈ namesq12) := by wtm_at "M.mem") (q23 : (PutV q14 (Option.some q11) q15 q16) := by wtm_at "M.putv") : Hs (bq7) ((Env.locals envq10, q15) :: nsq8) (nwq9) (wpAny (model q0 q1) q2 (storeName envq10 q14 q11) q17 Eq3) := fun ss SS => @st_loc q0 q1 q2 Eq3 ss bq7 nsq8 nwq9 envq10 q11 namesq12 csq13 q14 q15 q16 q17 q20 SS q22 q23 (fun st Sz => q24 st Sz)
abbrev hq_36 (q0 : Model) (q1 : Around) (Eq2 : Value → Shared → Prop) (q7 : Value) (q8 : CmpOp) (q10 : Bool → Shared → Prop) : Value → Shared → Prop := fun (bq14 : Value) (q15 : Shared) ↦
  wpAny q0 q1 (compareOp q8 q7 bq14) (hq_32 q0 q1 Eq2 q10) Eq2 q15
theorem h_test_last {q0 : Model} {q1 : Around} {bb : Shared} {Eq2 : Value → Shared → Prop} {nns : List (Addr × Vars)} {nnw : List (Addr × Sh)} {q6 : Pos} {q7 : Value} {q8 : CmpOp} {q9 : PySem.Sem Value} {q10 : Bool → Shared → Prop} (q13 : Hs bb nns nnw (wpAny q0 q1 q9 (hq_36 q0 q1 Eq2 q7 q8 q10) Eq2)) : Hs bb nns nnw (wpAny q0 q1 (testChain q6 q7 [q8] [q9]) q10 Eq2) := fun ss SS => @test_last q0 q1 Eq2 ss q6 q7 q8 q9 q10 (q13 ss SS)
abbrev hq_37 (q0 : Model) (q1 : Around) (bq18 : Value) (Eq2 : Value → Shared → Prop) (q6 : Pos) (q9 : CmpOp) (q10 : List CmpOp) (q12 : PySem.Sem Value) (q13 : List (PySem.Sem Value)) (q14 : Bool → Shared → Prop) : Bool → Shared → Prop := fun (q22 : Bool) (q23 : Shared) ↦
  if q22 = Bool.true then wpAny q0 q1 (testChain q6 bq18 (q9 :: q10) (q12 :: q13)) q14 Eq2 q23
  else q14 Bool.false q23
abbrev hq_38 (q0 : Model) (q1 : Around) (bq18 : Value) (Eq2 : Value → Shared → Prop) (q6 : Pos) (q9 : CmpOp) (q10 : List CmpOp) (q12 : PySem.Sem Value) (q13 : List (PySem.Sem Value)) (q14 : Bool → Shared → Prop) : Value → Shared → Prop := fun (q20 : Value) (q21 : Shared) ↦
  wpAny q0 q1 (truthy q20) (hq_37 q0 q1 bq18 Eq2 q6 q9 q10 q12 q13 q14) Eq2 q21
abbrev hq_39 (q0 : Model) (q1 : Around) (Eq2 : Value → Shared → Prop) (q6 : Pos) (q7 : Value) (q8 : CmpOp) (q9 : CmpOp) (q10 : List CmpOp) (q12 : PySem.Sem Value) (q13 : List (PySem.Sem Value)) (q14 : Bool → Shared → Prop) : Value → Shared → Prop := fun (bq18 : Value) (q19 : Shared) ↦
  wpAny q0 q1 (compareOp q8 q7 bq18) (hq_38 q0 q1 bq18 Eq2 q6 q9 q10 q12 q13 q14) Eq2 q19
theorem h_test_link {q0 : Model} {q1 : Around} {bb : Shared} {Eq2 : Value → Shared → Prop} {nns : List (Addr × Vars)} {nnw : List (Addr × Sh)} {q6 : Pos} {q7 : Value} {q8 : CmpOp} {q9 : CmpOp} {q10 : List CmpOp} {q11 : PySem.Sem Value} {q12 : PySem.Sem Value} {q13 : List (PySem.Sem Value)} {q14 : Bool → Shared → Prop} (q17 : Hs bb nns nnw (wpAny q0 q1 q11 (hq_39 q0 q1 Eq2 q6 q7 q8 q9 q10 q12 q13 q14) Eq2)) : Hs bb nns nnw (wpAny q0 q1 (testChain q6 q7 (q8 :: q9 :: q10) (q11 :: q12 :: q13)) q14 Eq2) := fun ss SS => @test_link q0 q1 Eq2 ss q6 q7 q8 q9 q10 q11 q12 q13 q14 (q17 ss SS)
theorem h_tests_nil {q0 : Program} {q1 : World} {q2 : Around} {bb : Shared} {envq7 : Env} {Eq3 : Value → Shared → Prop} {nns : List (Addr × Vars)} {nnw : List (Addr × Sh)} {q8 : Bool → Shared → Prop} (q11 : Hs bb nns nnw (q8 Bool.true)) : Hs bb nns nnw (wpAny (model q0 q1) q2
  (ForIn.forIn [] Bool.true fun (q12 : Expr) (q13 : Bool) ↦
    if q13 = Bool.true then do
      let q14 ← isTrue q12 envq7 (eval q12 envq7)
      Pure.pure (ForInStep.yield q14)
    else Pure.pure (ForInStep.yield q13))
  q8 Eq3) := fun ss SS => @tests_nil q0 q1 q2 Eq3 ss envq7 q8 (q11 ss SS)
theorem h_tests_one {q0 : Program} {q1 : World} {q2 : Around} {bb : Shared} {envq7 : Env} {Eq3 : Value → Shared → Prop} {nns : List (Addr × Vars)} {nnw : List (Addr × Sh)} {q8 : Expr} {q9 : Bool → Shared → Prop} (q12 : Hs bb nns nnw (wpAny (model q0 q1) q2 (isTrue q8 envq7 (eval q8 envq7)) q9 Eq3)) : Hs bb nns nnw (wpAny (model q0 q1) q2
  (ForIn.forIn [q8] Bool.true fun (q13 : Expr) (q14 : Bool) ↦
    if q14 = Bool.true then do
      let q15 ← isTrue q13 envq7 (eval q13 envq7)
      Pure.pure (ForInStep.yield q15)
    else Pure.pure (ForInStep.yield q14))
  q9 Eq3) := fun ss SS => @tests_one q0 q1 q2 Eq3 ss envq7 q8 q9 (q12 ss SS)
theorem h_thenN {bb : Shared} {nns : List (Addr × Vars)} {nnw : List (Addr × Sh)} {q1 : Shared → Prop} {q3 : Flow → Shared → Prop} (q6 : Hs bb nns nnw (q1)) : Hs bb nns nnw (thenF q1 q3 Flow.next) := fun ss SS => @thenF.next ss q1 q3 (q6 ss SS)
theorem h_thenR {bb : Shared} {nns : List (Addr × Vars)} {nnw : List (Addr × Sh)} {q1 : Value} {q2 : Shared → Prop} {q4 : Flow → Shared → Prop} (q7 : Hs bb nns nnw (q4 (Flow.ret q1))) : Hs bb nns nnw (thenF q2 q4 (Flow.ret q1)) := fun ss SS => @thenF.ret ss q1 q2 q4 (q7 ss SS)
theorem h_truthy_int {q0 : Program} {q1 : World} {q2 : Around} {bb : Shared} {Eq3 : Value → Shared → Prop} {nns : List (Addr × Vars)} {nnw : List (Addr × Sh)} {q7 : Int} {q8 : Tok} {q9 : Bool → Shared → Prop} (q12 : Hs bb nns nnw (q9 (q7 != OfNat.ofNat (nat_lit 0)))) : Hs bb nns nnw (wpAny (model q0 q1) q2 (truthy (Value.int q7 q8)) q9 Eq3) := fun ss SS => @truthy_int q0 q1 q2 Eq3 ss q7 q8 q9 (q12 ss SS)
theorem h_u_tup {q0 : Program} {q1 : World} {q2 : Around} {bq7 : Shared} {Eq3 : Value → Shared → Prop} {nsq8 : List (Addr × Vars)} {nwq9 : List (Addr × Sh)} {q10 : Nat} {q11 : List Value} {q12 : Addr} {q13 : List Value → Shared → Prop} (q20 : Hs (bq7) (nsq8) (nwq9) (q13 q11)) (q17 : ((q12, aTup q11) ∈ nwq9) := by wtm_at "M.mem") (q18 : (Around.handled q2 = Option.none) := by exact (Ar.hd (by wtm_at "M.a"))) (q19 : (List.length q11 = q10) := by wtm_at "M.r") : Hs (bq7) (nsq8) (nwq9) (wpAny (model q0 q1) q2 (unpackItems (Value.ref q12) q10 Option.none) q13 Eq3) := fun ss SS => @u_tup q0 q1 q2 Eq3 ss bq7 nsq8 nwq9 q10 q11 q12 q13 SS q17 q18 q19 (fun st Sz => q20 st Sz)
abbrev hq_40 (q0 : Model) (q1 : Around) (Eq2 : Value → Shared → Prop) (q8 : Operator) (q11 : Value → Shared → Prop) (q15 : Value) : Value → Shared → Prop := fun (bq17 : Value) (q18 : Shared) ↦ wpAny q0 q1 (binaryOp q8 q15 bq17) q11 Eq2 q18
abbrev hq_41 (q0 : Model) (q1 : Around) (envq6 : Env) (Eq2 : Value → Shared → Prop) (q8 : Operator) (q9 : Expr) (q11 : Value → Shared → Prop) : Value → Shared → Prop := fun (q15 : Value) (q16 : Shared) ↦
  wpAny q0 q1 (eval q9 envq6) (hq_40 q0 q1 Eq2 q8 q11 q15) Eq2 q16
theorem h_BinOp {q0 : Model} {q1 : Around} {bb : Shared} {envq6 : Env} {Eq2 : Value → Shared → Prop} {nns : List (Addr × Vars)} {nnw : List (Addr × Sh)} {q7 : Expr} {q8 : Operator} {q9 : Expr} {q10 : Pos} {q11 : Value → Shared → Prop} (q14 : Hs bb nns nnw (wpAny q0 q1 (eval q7 envq6) (hq_41 q0 q1 envq6 Eq2 q8 q9 q11) Eq2)) : Hs bb nns nnw (wpAny q0 q1 (eval (Expr.BinOp q7 q8 q9 q10) envq6) q11 Eq2) := fun ss SS => @wpAny_BinOp q0 q1 Eq2 ss envq6 q7 q8 q9 q10 q11 (q14 ss SS)
abbrev hq_42 (q0 : Model) (q1 : Around) (Eq2 : Value → Shared → Prop) (q8 : CmpOp) (q11 : Value → Shared → Prop) (q15 : Value) : Value → Shared → Prop := fun (bq17 : Value) (q18 : Shared) ↦ wpAny q0 q1 (compareOp q8 q15 bq17) q11 Eq2 q18
abbrev hq_43 (q0 : Model) (q1 : Around) (envq6 : Env) (Eq2 : Value → Shared → Prop) (q8 : CmpOp) (q9 : Expr) (q11 : Value → Shared → Prop) : Value → Shared → Prop := fun (q15 : Value) (q16 : Shared) ↦
  wpAny q0 q1 (eval q9 envq6) (hq_42 q0 q1 Eq2 q8 q11 q15) Eq2 q16
theorem h_Compare1 {q0 : Model} {q1 : Around} {bb : Shared} {envq6 : Env} {Eq2 : Value → Shared → Prop} {nns : List (Addr × Vars)} {nnw : List (Addr × Sh)} {q7 : Expr} {q8 : CmpOp} {q9 : Expr} {q10 : Pos} {q11 : Value → Shared → Prop} (q14 : Hs bb nns nnw (wpAny q0 q1 (eval q7 envq6) (hq_43 q0 q1 envq6 Eq2 q8 q9 q11) Eq2)) (q19 : (behindInMarks q8 q9 = Bool.false) := by wtm_at "M.r") : Hs bb nns nnw (wpAny q0 q1 (eval (Expr.Compare q7 [q8] [q9] q10) envq6) q11 Eq2) := fun ss SS => @wpAny_Compare1 q0 q1 Eq2 ss envq6 q7 q8 q9 q10 q11 (q14 ss SS) q19
theorem h_assign_Name {q0 : Model} {q1 : Around} {bb : Shared} {envq6 : Env} {Eq2 : Value → Shared → Prop} {nns : List (Addr × Vars)} {nnw : List (Addr × Sh)} {q7 : Str} {q8 : Pos} {q9 : Value} {q10 : Unit → Shared → Prop} (q13 : Hs bb nns nnw (wpAny q0 q1 (storeName envq6 q7 q9) q10 Eq2)) : Hs bb nns nnw (wpAny q0 q1 (assign (Expr.Name q7 q8) envq6 q9) q10 Eq2) := fun ss SS => @wpAny_assign_Name q0 q1 Eq2 ss envq6 q7 q8 q9 q10 (q13 ss SS)
theorem h_bindName {q0 : Model} {q1 : Around} {bb : Shared} {envq6 : Env} {Eq2 : Value → Shared → Prop} {nns : List (Addr × Vars)} {nnw : List (Addr × Sh)} {q7 : Str} {q8 : Value} {q9 : Unit → Shared → Prop} (q12 : Hs bb nns nnw (wpAny q0 q1 (storeName envq6 q7 q8) q9 Eq2)) : Hs bb nns nnw (wpAny q0 q1 (bindName envq6 q7 q8) q9 Eq2) := fun ss SS => @wpAny_bindName q0 q1 Eq2 ss envq6 q7 q8 q9 (q12 ss SS)
theorem h_execs_nil {q0 : Model} {q1 : Around} {bb : Shared} {envq6 : Env} {Eq2 : Value → Shared → Prop} {nns : List (Addr × Vars)} {nnw : List (Addr × Sh)} {q7 : Flow → Shared → Prop} (q10 : Hs bb nns nnw (q7 Flow.next)) : Hs bb nns nnw (wpAny q0 q1 (execs [] envq6) q7 Eq2) := fun ss SS => @wpAny_execs_nil q0 q1 Eq2 ss envq6 q7 (q10 ss SS)
abbrev hq_44 (q0 : Model) (q1 : Around) (Eq2 : Value → Shared → Prop) (q8 : CmpOp) (q12 : Bool → Shared → Prop) (q16 : Value) : Value → Shared → Prop := fun (bq18 : Value) (q19 : Shared) ↦
  wpAny q0 q1 (compareOp q8 q16 bq18) (hq_32 q0 q1 Eq2 q12) Eq2 q19
abbrev hq_45 (q0 : Model) (q1 : Around) (envq6 : Env) (Eq2 : Value → Shared → Prop) (q8 : CmpOp) (q9 : Expr) (q12 : Bool → Shared → Prop) : Value → Shared → Prop := fun (q16 : Value) (q17 : Shared) ↦
  wpAny q0 q1 (eval q9 envq6) (hq_44 q0 q1 Eq2 q8 q12 q16) Eq2 q17
theorem h_isTrue_Compare1 {q0 : Model} {q1 : Around} {bb : Shared} {envq6 : Env} {Eq2 : Value → Shared → Prop} {nns : List (Addr × Vars)} {nnw : List (Addr × Sh)} {q7 : Expr} {q8 : CmpOp} {q9 : Expr} {q10 : Pos} {q11 : PySem.Sem Value} {q12 : Bool → Shared → Prop} (q15 : Hs bb nns nnw (wpAny q0 q1 (eval q7 envq6) (hq_45 q0 q1 envq6 Eq2 q8 q9 q12) Eq2)) (q22 : (behindInMarks q8 q9 = Bool.false) := by wtm_at "M.r") : Hs bb nns nnw (wpAny q0 q1 (isTrue (Expr.Compare q7 [q8] [q9] q10) envq6 q11) q12 Eq2) := fun ss SS => @wpAny_isTrue_Compare1 q0 q1 Eq2 ss envq6 q7 q8 q9 q10 q11 q12 (q15 ss SS) q22
theorem h_truthy_bool {q0 : Model} {q1 : Around} {bb : Shared} {bq6 : Bool} {Eq2 : Value → Shared → Prop} {nns : List (Addr × Vars)} {nnw : List (Addr × Sh)} {q7 : Bool → Shared → Prop} (q10 : Hs bb nns nnw (q7 bq6)) : Hs bb nns nnw (wpAny q0 q1 (truthy (Value.bool bq6)) q7 Eq2) := fun ss SS => @wpAny_truthy_bool q0 q1 Eq2 ss bq6 q7 (q10 ss SS)
abbrev hq_46 (q0 : Program) (q1 : World) (q2 : Around) (envq7 : Env) (Eq3 : Value → Shared → Prop) (q12 : List Stmt) (q13 : Flow → Shared → Prop) : Unit → Shared → Prop := fun (q19 : Unit) (q20 : Shared) ↦ wpAny (model q0 q1) q2 (execs q12 envq7) q13 Eq3 q20
abbrev hq_47 (q0 : Program) (q1 : World) (q2 : Around) (envq7 : Env) (Eq3 : Value → Shared → Prop) (q10 : Str) (q12 : List Stmt) (q13 : Flow → Shared → Prop) : Value → Shared → Prop := fun (q17 : Value) (q18 : Shared) ↦
  wpAny (model q0 q1) q2 (storeName envq7 q10 q17) (hq_46 q0 q1 q2 envq7 Eq3 q12 q13) Eq3 q18
theorem h_x_assign {q0 : Program} {q1 : World} {q2 : Around} {bb : Shared} {envq7 : Env} {Eq3 : Value → Shared → Prop} {nns : List (Addr × Vars)} {nnw : List (Addr × Sh)} {q8 : Pos} {q9 : Pos} {q10 : Str} {q11 : Expr} {q12 : List Stmt} {q13 : Flow → Shared → Prop} (q16 : Hs bb nns nnw (wpAny (model q0 q1) q2 (eval q11 envq7) (hq_47 q0 q1 q2 envq7 Eq3 q10 q12 q13) Eq3)) (q21 : (swapsWith q11 (Option.some (Expr.Name q10 q9)) (Pos.line q8) envq7 = Pure.pure Bool.false) := by wtm_at "M.r") : Hs bb nns nnw (wpAny (model q0 q1) q2 (execs (Stmt.Assign [Expr.Name q10 q9] q11 q8 :: q12) envq7) q13
  Eq3) := fun ss SS => @x_assign q0 q1 q2 Eq3 ss envq7 q8 q9 q10 q11 q12 q13 (q16 ss SS) q21
theorem h_x_assign2 {q0 : Program} {q1 : World} {q2 : Around} {bb : Shared} {envq7 : Env} {Eq3 : Value → Shared → Prop} {nns : List (Addr × Vars)} {nnw : List (Addr × Sh)} {q8 : Pos} {q9 : Pos} {q10 : Str} {q11 : Expr} {q12 : List Stmt} {q13 : Flow → Shared → Prop} (q16 : Hs bb nns nnw (wpAny (model q0 q1) q2 (eval q11 envq7) (hq_47 q0 q1 q2 envq7 Eq3 q10 q12 q13) Eq3)) (q21 : (swapsWith q11 (Option.some (Expr.Name q10 q9)) (Pos.line q8) envq7 = Pure.pure Bool.false) := by exact (sw_cell (by wtm_at "M.a") (by wtm_at "M.mem"))) : Hs bb nns nnw (wpAny (model q0 q1) q2 (execs (Stmt.Assign [Expr.Name q10 q9] q11 q8 :: q12) envq7) q13
  Eq3) := fun ss SS => @x_assign q0 q1 q2 Eq3 ss envq7 q8 q9 q10 q11 q12 q13 (q16 ss SS) q21
abbrev hq_48 (q0 : Program) (q1 : World) (q2 : Around) (envq7 : Env) (Eq3 : Value → Shared → Prop) (q18 : List Stmt) (q19 : Flow → Shared → Prop) : Value → Shared → Prop := fun (q36 : Value) (q37 : Shared) ↦ wpAny (model q0 q1) q2 (execs q18 envq7) q19 Eq3 q37
abbrev hq_49 (q0 : Program) (q1 : World) (q2 : Around) (envq7 : Env) (Eq3 : Value → Shared → Prop) (q9 : Scope) (q10 : Expr) (q11 : Expr) (q12 : Expr) (q13 : List Expr) (q14 : Str) (q15 : Pos) (q16 : Pos) (q18 : List Stmt) (q19 : Flow → Shared → Prop) (q29 : Value) (q31 : Value) : Env → Shared → Prop := fun (q33 : Env) (q34 : Shared) ↦
  codeAny (model q0 q1) q2
    (Code.compStart
      (Expr.ListComp q10 [Comprehension.mk q11 q12 q13 (OfNat.ofNat (nat_lit 0))] q9 q15)
      (OfNat.ofNat (nat_lit 0)) q29 q31
      (Env.mk (relabel q9 envq7) (Env.locals q33) (Env.globals q33) (Env.cells q33)
        (Env.qual q33) (Env.func q33) (Env.code q33) (Env.frame q33) (Env.builtins q33)))
    (compPost (model q0 q1) q2 Eq3 (Option.some (assign (Expr.Name q14 q16) envq7))
      (hq_48 q0 q1 q2 envq7 Eq3 q18 q19) q31 (Env.locals q33))
    q34
abbrev hq_50 (q0 : Program) (q1 : World) (q2 : Around) (envq7 : Env) (Eq3 : Value → Shared → Prop) (q8 : List (Str × Addr)) (q9 : Scope) (q10 : Expr) (q11 : Expr) (q12 : Expr) (q13 : List Expr) (q14 : Str) (q15 : Pos) (q16 : Pos) (q18 : List Stmt) (q19 : Flow → Shared → Prop) (q29 : Value) : Value → Shared → Prop := fun (q31 : Value) (q32 : Shared) ↦
  wpAny (model q0 q1) q2
    (newFunctionEnv q9 (Env.globals envq7) q8 [] (Env.qual envq7) Option.none Value.none
      (Option.some envq7))
    (hq_49 q0 q1 q2 envq7 Eq3 q9 q10 q11 q12 q13 q14 q15 q16 q18 q19 q29 q31) Eq3 q32
abbrev hq_51 (q0 : Program) (q1 : World) (q2 : Around) (envq7 : Env) (Eq3 : Value → Shared → Prop) (q8 : List (Str × Addr)) (q9 : Scope) (q10 : Expr) (q11 : Expr) (q12 : Expr) (q13 : List Expr) (q14 : Str) (q15 : Pos) (q16 : Pos) (q18 : List Stmt) (q19 : Flow → Shared → Prop) : Value → Shared → Prop := fun (q29 : Value) (q30 : Shared) ↦
  wpAny (model q0 q1) q2 (newList [])
    (hq_50 q0 q1 q2 envq7 Eq3 q8 q9 q10 q11 q12 q13 q14 q15 q16 q18 q19 q29) Eq3 q30
abbrev hq_52 (q0 : Program) (q1 : World) (q2 : Around) (envq7 : Env) (Eq3 : Value → Shared → Prop) (q8 : List (Str × Addr)) (q9 : Scope) (q10 : Expr) (q11 : Expr) (q12 : Expr) (q13 : List Expr) (q14 : Str) (q15 : Pos) (q16 : Pos) (q18 : List Stmt) (q19 : Flow → Shared → Prop) : Value → Shared → Prop := fun (q27 : Value) (q28 : Shared) ↦
  wpAny (model q0 q1) q2 (pyIter q27)
    (hq_51 q0 q1 q2 envq7 Eq3 q8 q9 q10 q11 q12 q13 q14 q15 q16 q18 q19) Eq3 q28
theorem h_x_assign_comp {q0 : Program} {q1 : World} {q2 : Around} {bb : Shared} {envq7 : Env} {Eq3 : Value → Shared → Prop} {nns : List (Addr × Vars)} {nnw : List (Addr × Sh)} {q8 : List (Str × Addr)} {q9 : Scope} {q10 : Expr} {q11 : Expr} {q12 : Expr} {q13 : List Expr} {q14 : Str} {q15 : Pos} {q16 : Pos} {q17 : Pos} {q18 : List Stmt} {q19 : Flow → Shared → Prop} (q26 : Hs bb nns nnw (wpAny (model q0 q1) q2 (eval q12 envq7)
  (hq_52 q0 q1 q2 envq7 Eq3 q8 q9 q10 q11 q12 q13 q14 q15 q16 q18 q19) Eq3)) (q22 : (swapsWith (Expr.ListComp q10 [Comprehension.mk q11 q12 q13 (OfNat.ofNat (nat_lit 0))] q9 q15)
    (Option.some (Expr.Name q14 q16)) (Pos.line q17) envq7 =
  Pure.pure Bool.true) := by exact (sw_comp (by wtm_at "M.a") (by wtm_at "M.mem") (by with_unfolding_all rfl) (by with_unfolding_all rfl))) (q23 : (ScOk (Scope.names q9)) := by wtm_at "M.r") (q24 : (Scope.kind q9 = ScopeKind.function) := by wtm_at "M.r") (q25 : (closureFor q9 envq7 = Pure.pure q8) := by exact (clos_of (by wtm_at "M.a") (by with_unfolding_all rfl))) (q38 : (∀ (q39 : Value), foldedSetIterable q12 envq7 q39 = Pure.pure q39) := by with_unfolding_all (intro _; rfl)) : Hs bb nns nnw (wpAny (model q0 q1) q2
  (execs
    (Stmt.Assign [Expr.Name q14 q16]
        (Expr.ListComp q10 [Comprehension.mk q11 q12 q13 (OfNat.ofNat (nat_lit 0))] q9 q15) q17 ::
      q18)
    envq7)
  q19 Eq3) := fun ss SS => @x_assign_comp q0 q1 q2 Eq3 ss envq7 q8 q9 q10 q11 q12 q13 q14 q15 q16 q17 q18 q19 q22 q23 q24 q25 (q26 ss SS) q38
theorem h_x_expr {q0 : Program} {q1 : World} {q2 : Around} {bb : Shared} {envq7 : Env} {namesq9 : List (Str × NameKind)} {csq10 : List (Str × Addr)} {Eq3 : Value → Shared → Prop} {nns : List (Addr × Vars)} {nnw : List (Addr × Sh)} {q8 : Pos} {q11 : Expr} {q12 : List Stmt} {q13 : Flow → Shared → Prop} (q17 : Hs bb nns nnw (wpAny (model q0 q1) q2 (eval q11 envq7) (hq_48 q0 q1 q2 envq7 Eq3 q12 q13) Eq3)) (q16 : (Fn envq7 namesq9 csq10) := by wtm_at "M.a") (q20 : (swapsWith q11 Option.none (Pos.line q8) envq7 = Pure.pure Bool.false) := by wtm_at "M.r") : Hs bb nns nnw (wpAny (model q0 q1) q2 (execs (Stmt.Expr q11 q8 :: q12) envq7) q13 Eq3) := fun ss SS => @x_expr q0 q1 q2 Eq3 ss envq7 q8 namesq9 csq10 q11 q12 q13 q16 (q17 ss SS) q20
abbrev hq_53 (q0 : Program) (q1 : World) (q2 : Around) (envq7 : Env) (Eq3 : Value → Shared → Prop) (q11 : List Stmt) (q13 : Flow → Shared → Prop) : Shared → Prop := fun (q25 : Shared) ↦ wpAny (model q0 q1) q2 (execs q11 envq7) q13 Eq3 q25
abbrev hq_54 (q0 : Program) (q1 : World) (q2 : Around) (envq7 : Env) (Eq3 : Value → Shared → Prop) (q11 : List Stmt) (q13 : Flow → Shared → Prop) : Result → Shared → Prop := fun (q21 : Result) (q22 : Shared) ↦
  match q21 with | .ok q24 => thenF (hq_53 q0 q1 q2 envq7 Eq3 q11 q13) q13 q24 q22 | .error q26 => cameBackBy (model q0 q1) q2 envq7 Eq3 q26 q22
abbrev hq_55 (q0 : Program) (q1 : World) (q2 : Around) (envq7 : Env) (Eq3 : Value → Shared → Prop) (q8 : Expr) (q10 : List Stmt) (q11 : List Stmt) (q13 : Flow → Shared → Prop) : Value → Shared → Prop := fun (q19 : Value) (q20 : Shared) ↦
  codeAny (model q0 q1) q2 (Code.forLoop q8 q19 q10 [] envq7) (hq_54 q0 q1 q2 envq7 Eq3 q11 q13)
    q20
abbrev hq_56 (q0 : Program) (q1 : World) (q2 : Around) (envq7 : Env) (Eq3 : Value → Shared → Prop) (q8 : Expr) (q10 : List Stmt) (q11 : List Stmt) (q13 : Flow → Shared → Prop) : Value → Shared → Prop := fun (q17 : Value) (q18 : Shared) ↦
  wpAny (model q0 q1) q2 (pyIter q17) (hq_55 q0 q1 q2 envq7 Eq3 q8 q10 q11 q13) Eq3 q18
theorem h_x_for {q0 : Program} {q1 : World} {q2 : Around} {bb : Shared} {envq7 : Env} {Eq3 : Value → Shared → Prop} {nns : List (Addr × Vars)} {nnw : List (Addr × Sh)} {q8 : Expr} {q9 : Expr} {q10 : List Stmt} {q11 : List Stmt} {q12 : Pos} {q13 : Flow → Shared → Prop} (q16 : Hs bb nns nnw (wpAny (model q0 q1) q2 (eval q9 envq7) (hq_56 q0 q1 q2 envq7 Eq3 q8 q10 q11 q13) Eq3)) (q27 : (∀ (q28 : Value), foldedSetIterable q9 envq7 q28 = Pure.pure q28) := by with_unfolding_all (intro _; rfl)) : Hs bb nns nnw (wpAny (model q0 q1) q2 (execs (Stmt.For q8 q9 q10 [] q12 :: q11) envq7) q13 Eq3) := fun ss SS => @x_for q0 q1 q2 Eq3 ss envq7 q8 q9 q10 q11 q12 q13 (q16 ss SS) q27
abbrev hq_57 (q0 : Program) (q1 : World) (q2 : Around) (envq7 : Env) (Eq3 : Value → Shared → Prop) (q10 : List Stmt) (q11 : List Stmt) (q12 : List Stmt) (q13 : Flow → Shared → Prop) : Bool → Shared → Prop := fun (q17 : Bool) (q18 : Shared) ↦
  if q17 = Bool.true then
    wpAny (model q0 q1) q2 (execs q10 envq7) (thenF (hq_53 q0 q1 q2 envq7 Eq3 q12 q13) q13)
      Eq3 q18
  else
    wpAny (model q0 q1) q2 (execs q11 envq7) (thenF (hq_53 q0 q1 q2 envq7 Eq3 q12 q13) q13)
      Eq3 q18
theorem h_x_if {q0 : Program} {q1 : World} {q2 : Around} {bb : Shared} {envq7 : Env} {Eq3 : Value → Shared → Prop} {nns : List (Addr × Vars)} {nnw : List (Addr × Sh)} {q8 : Pos} {q9 : Expr} {q10 : List Stmt} {q11 : List Stmt} {q12 : List Stmt} {q13 : Flow → Shared → Prop} (q16 : Hs bb nns nnw (wpAny (model q0 q1) q2 (isTrue q9 envq7 (eval q9 envq7))
  (hq_57 q0 q1 q2 envq7 Eq3 q10 q11 q12 q13) Eq3)) : Hs bb nns nnw (wpAny (model q0 q1) q2 (execs (Stmt.If q9 q10 q11 q8 :: q12) envq7) q13 Eq3) := fun ss SS => @x_if q0 q1 q2 Eq3 ss envq7 q8 q9 q10 q11 q12 q13 (q16 ss SS)
abbrev hq_58 (bq7 : Shared) (Eq3 : Value → Shared → Prop) (nsq8 : List (Addr × Vars)) : Value → Shared → Prop := fun (q21 : Value) (q22 : Shared) ↦
  ∃ (q23 : Addr),
    ∃ (q24 : Option Addr),
      ∃ (q25 : List (Addr × Sh)),
        q21 = Value.ref q23 ∧
          Sx bq7 nsq8 ((q23, aExc q24 Value.none) :: q25) q22 ∧ Eq3 (Value.ref q23) q22
theorem h_x_raise {q0 : Program} {q1 : World} {q2 : Around} {bq7 : Shared} {envq10 : Env} {Eq3 : Value → Shared → Prop} {nsq8 : List (Addr × Vars)} {nwq9 : List (Addr × Sh)} {q11 : Expr} {q12 : Pos} {q13 : List Stmt} {q14 : Flow → Shared → Prop} (q20 : Hs (bq7) (nsq8) (nwq9) (wpAny (model q0 q1) q2 (eval q11 envq10) (hq_58 bq7 Eq3 nsq8) Eq3)) (q17 : (Bs q1 (Shared.heap bq7)) := by wtm_at "M.a") (q19 : (Around.handled q2 = Option.none) := by exact (Ar.hd (by wtm_at "M.a"))) : Hs (bq7) (nsq8) (nwq9) (wpAny (model q0 q1) q2 (execs (Stmt.Raise (Option.some q11) Option.none q12 :: q13) envq10) q14
  Eq3) := fun ss SS => @x_raise q0 q1 q2 Eq3 ss bq7 nsq8 nwq9 envq10 q11 q12 q13 q14 q17 SS q19 (q20 ss SS)
def hq_59 (q11 : Flow → Shared → Prop) : Value → Shared → Prop := fun (q15 : Value) (q16 : Shared) ↦ q11 (Flow.ret q15) q16
theorem u_59 {q11 : Flow → Shared → Prop} {q15 : Value} {b : Shared} {ns : List (Addr × Vars)} {nw : List (Addr × Sh)} (h : Hs b ns nw (q11 (Flow.ret q15))) : Hs b ns nw (hq_59 q11 q15) := h
theorem h_x_return {q0 : Program} {q1 : World} {q2 : Around} {bb : Shared} {envq7 : Env} {Eq3 : Value → Shared → Prop} {nns : List (Addr × Vars)} {nnw : List (Addr × Sh)} {q8 : Pos} {q9 : Expr} {q10 : List Stmt} {q11 : Flow → Shared → Prop} (q14 : Hs bb nns nnw (wpAny (model q0 q1) q2 (eval q9 envq7) (hq_59 q11) Eq3)) : Hs bb nns nnw (wpAny (model q0 q1) q2 (execs (Stmt.Return (Option.some q9) q8 :: q10) envq7) q11 Eq3) := fun ss SS => @x_return q0 q1 q2 Eq3 ss envq7 q8 q9 q10 q11 (q14 ss SS)
abbrev hq_60 (q0 : Program) (q1 : World) (q2 : Around) (envq7 : Env) (Eq3 : Value → Shared → Prop) (q10 : Str) (q13 : List Stmt) (q14 : Flow → Shared → Prop) (q18 : Value) : Value → Shared → Prop := fun (q20 : Value) (q21 : Shared) ↦
  wpAny (model q0 q1) q2 (setAttr q20 q10 q18) (hq_46 q0 q1 q2 envq7 Eq3 q13 q14) Eq3 q21
abbrev hq_61 (q0 : Program) (q1 : World) (q2 : Around) (envq7 : Env) (Eq3 : Value → Shared → Prop) (q10 : Str) (q12 : Expr) (q13 : List Stmt) (q14 : Flow → Shared → Prop) : Value → Shared → Prop := fun (q18 : Value) (q19 : Shared) ↦
  wpAny (model q0 q1) q2 (eval q12 envq7) (hq_60 q0 q1 q2 envq7 Eq3 q10 q13 q14 q18) Eq3 q19
theorem h_x_setattr {q0 : Program} {q1 : World} {q2 : Around} {bb : Shared} {envq7 : Env} {Eq3 : Value → Shared → Prop} {nns : List (Addr × Vars)} {nnw : List (Addr × Sh)} {q8 : Pos} {q9 : Pos} {q10 : Str} {q11 : Expr} {q12 : Expr} {q13 : List Stmt} {q14 : Flow → Shared → Prop} (q17 : Hs bb nns nnw (wpAny (model q0 q1) q2 (eval q11 envq7) (hq_61 q0 q1 q2 envq7 Eq3 q10 q12 q13 q14) Eq3)) (q24 : (swapsWith q11 (Option.some (Expr.Attribute q12 q10 q9)) (Pos.line q8) envq7 = Pure.pure Bool.false) := by wtm_at "M.r") : Hs bb nns nnw (wpAny (model q0 q1) q2
  (execs (Stmt.Assign [Expr.Attribute q12 q10 q9] q11 q8 :: q13) envq7) q14 Eq3) := fun ss SS => @x_setattr q0 q1 q2 Eq3 ss envq7 q8 q9 q10 q11 q12 q13 q14 (q17 ss SS) q24
abbrev hq_62 (q0 : Program) (q1 : World) (q2 : Around) (envq7 : Env) (Eq3 : Value → Shared → Prop) (q13 : List Stmt) (q14 : Flow → Shared → Prop) (q18 : Value) (q20 : Value) : Value → Shared → Prop := fun (q22 : Value) (q23 : Shared) ↦
  wpAny (model q0 q1) q2 (setItem q20 q22 q18) (hq_46 q0 q1 q2 envq7 Eq3 q13 q14) Eq3 q23
abbrev hq_63 (q0 : Program) (q1 : World) (q2 : Around) (envq7 : Env) (Eq3 : Value → Shared → Prop) (q12 : Expr) (q13 : List Stmt) (q14 : Flow → Shared → Prop) (q18 : Value) : Value → Shared → Prop := fun (q20 : Value) (q21 : Shared) ↦
  wpAny (model q0 q1) q2 (eval q12 envq7) (hq_62 q0 q1 q2 envq7 Eq3 q13 q14 q18 q20) Eq3 q21
abbrev hq_64 (q0 : Program) (q1 : World) (q2 : Around) (envq7 : Env) (Eq3 : Value → Shared → Prop) (q11 : Expr) (q12 : Expr) (q13 : List Stmt) (q14 : Flow → Shared → Prop) : Value → Shared → Prop := fun (q18 : Value) (q19 : Shared) ↦
  wpAny (model q0 q1) q2 (eval q11 envq7) (hq_63 q0 q1 q2 envq7 Eq3 q12 q13 q14 q18) Eq3 q19
theorem h_x_setitem {q0 : Program} {q1 : World} {q2 : Around} {bb : Shared} {envq7 : Env} {Eq3 : Value → Shared → Prop} {nns : List (Addr × Vars)} {nnw : List (Addr × Sh)} {q8 : Pos} {q9 : Pos} {q10 : Expr} {q11 : Expr} {q12 : Expr} {q13 : List Stmt} {q14 : Flow → Shared → Prop} (q17 : Hs bb nns nnw (wpAny (model q0 q1) q2 (eval q10 envq7) (hq_64 q0 q1 q2 envq7 Eq3 q11 q12 q13 q14) Eq3)) (q26 : (swapsWith q10 (Option.some (Expr.Subscript q11 q12 q9)) (Pos.line q8) envq7 = Pure.pure Bool.false) := by wtm_at "M.r") : Hs bb nns nnw (wpAny (model q0 q1) q2
  (execs (Stmt.Assign [Expr.Subscript q11 q12 q9] q10 q8 :: q13) envq7) q14 Eq3) := fun ss SS => @x_setitem q0 q1 q2 Eq3 ss envq7 q8 q9 q10 q11 q12 q13 q14 (q17 ss SS) q26
abbrev hq_65 (q0 : Program) (q1 : World) (q2 : Around) (envq7 : Env) (Eq3 : Value → Shared → Prop) (q13 : List Stmt) (q14 : List Str) (q15 : Flow → Shared → Prop) : List Value → Shared → Prop := fun (q21 : List Value) (q22 : Shared) ↦
  wpAny (model q0 q1) q2
    (assignInOrder (List.map (fun (q24 : Str) ↦ bindName envq7 q24) (List.reverse q14))
      (List.reverse q21))
    (hq_46 q0 q1 q2 envq7 Eq3 q13 q15) Eq3 q22
abbrev hq_66 (q0 : Program) (q1 : World) (q2 : Around) (envq7 : Env) (Eq3 : Value → Shared → Prop) (q13 : List Stmt) (q14 : List Str) (q15 : Flow → Shared → Prop) : Value → Shared → Prop := fun (q19 : Value) (q20 : Shared) ↦
  wpAny (model q0 q1) q2 (unpackItems q19 (List.length q14) Option.none)
    (hq_65 q0 q1 q2 envq7 Eq3 q13 q14 q15) Eq3 q20
theorem h_x_swap {q0 : Program} {q1 : World} {q2 : Around} {bb : Shared} {envq7 : Env} {Eq3 : Value → Shared → Prop} {nns : List (Addr × Vars)} {nnw : List (Addr × Sh)} {q8 : List Expr} {q9 : Nat} {q10 : Pos} {q11 : Pos} {q12 : Expr} {q13 : List Stmt} {q14 : List Str} {q15 : Flow → Shared → Prop} (q18 : Hs bb nns nnw (wpAny (model q0 q1) q2 (eval q12 envq7) (hq_66 q0 q1 q2 envq7 Eq3 q13 q14 q15) Eq3)) (q27 : (swapsWithSole [Expr.Tuple q8 q9 q10] q12 (Pos.line q11) envq7 = Pure.pure Bool.false) := by wtm_at "M.r") (q28 : (swappedStores [Expr.Tuple q8 q9 q10] q12 envq7 = Pure.pure (Option.some q14)) := by exact (sw_of (by wtm_at "M.a") (by with_unfolding_all rfl))) : Hs bb nns nnw (wpAny (model q0 q1) q2 (execs (Stmt.Assign [Expr.Tuple q8 q9 q10] q12 q11 :: q13) envq7)
  q15 Eq3) := fun ss SS => @x_swap q0 q1 q2 Eq3 ss envq7 q8 q9 q10 q11 q12 q13 q14 q15 (q18 ss SS) q27 q28
abbrev hq_67 (q0 : Program) (q1 : World) (q2 : Around) (envq7 : Env) (Eq3 : Value → Shared → Prop) (q8 : List Expr) (q9 : Nat) (q10 : Pos) (q13 : List Stmt) (q14 : Flow → Shared → Prop) : Value → Shared → Prop := fun (q18 : Value) (q19 : Shared) ↦
  wpAny (model q0 q1) q2 (assign (Expr.Tuple q8 q9 q10) envq7 q18)
    (hq_46 q0 q1 q2 envq7 Eq3 q13 q14) Eq3 q19
theorem h_x_tup {q0 : Program} {q1 : World} {q2 : Around} {bb : Shared} {envq7 : Env} {Eq3 : Value → Shared → Prop} {nns : List (Addr × Vars)} {nnw : List (Addr × Sh)} {q8 : List Expr} {q9 : Nat} {q10 : Pos} {q11 : Pos} {q12 : Expr} {q13 : List Stmt} {q14 : Flow → Shared → Prop} (q17 : Hs bb nns nnw (wpAny (model q0 q1) q2 (eval q12 envq7) (hq_67 q0 q1 q2 envq7 Eq3 q8 q9 q10 q13 q14) Eq3)) (q22 : (swapsWithSole [Expr.Tuple q8 q9 q10] q12 (Pos.line q11) envq7 = Pure.pure Bool.false) := by wtm_at "M.r") (q23 : (swappedStores [Expr.Tuple q8 q9 q10] q12 envq7 = Pure.pure Option.none) := by exact (sw_of (by wtm_at "M.a") (by with_unfolding_all rfl))) : Hs bb nns nnw (wpAny (model q0 q1) q2 (execs (Stmt.Assign [Expr.Tuple q8 q9 q10] q12 q11 :: q13) envq7)
  q14 Eq3) := fun ss SS => @x_tup q0 q1 q2 Eq3 ss envq7 q8 q9 q10 q11 q12 q13 q14 (q17 ss SS) q22 q23

end
set_option hygiene false
local macro_rules | `(tactic| wtm_at "M.mem") => `(tactic| with_reducible first | apply List.mem_cons_self | (refine List.mem_cons_of_mem _ ?_; wtm_at "M.mem") | assumption)
local macro_rules | `(tactic| wtm_at "M.put") => `(tactic| with_reducible first | apply PutO.head | (apply PutO.tail; wtm_at "M.put"))
local macro_rules | `(tactic| wtm_at "M.putv") => `(tactic| with_reducible first | apply PutV.head | (apply PutV.tail; wtm_at "M.putv"))
local macro_rules | `(tactic| wtm_at "M.a") => `(tactic| with_reducible assumption)
local macro_rules | `(tactic| wtm_at "M.cl") => `(tactic| with_unfolding_all first | assumption | rfl)
local macro_rules | `(tactic| wtm_at "M.vals") => `(tactic| repeat (first | apply List.forall_mem_nil | refine List.forall_mem_cons.mpr ⟨by rfl, ?_⟩))
local macro_rules | `(tactic| wtm_at "M.locs") => `(tactic| repeat (first | apply List.forall_mem_nil | refine List.forall_mem_cons.mpr ⟨by wtm_at "M.mem", ?_⟩))
local macro_rules | `(tactic| wtm_at "M.enter") => `(tactic| (intro _ _ _ V _ _ S; try dsimp only at V S))
local macro_rules | `(tactic| wtm_at "M.mis") => `(tactic| (refine mis_spec (by wtm_at "M.a") (by wtm_at "M.a") (Ar.less (by assumption) (by wtm_at "M.le")) ?_; intro e9 d9 s9 S9; refine ⟨e9, _, _, rfl, S9, ?_⟩; refine leave_first (by wtm_at "M.a") (by assumption) (by wtm_at "M.a") S9 ?_; intro x9 s9 fl9))
local macro_rules | `(tactic| wtm_at "M.sm") => `(tactic| with_reducible first | apply SmD.refl | apply SmD.int | apply SmD.str | (refine SmD.list (by wtm_at "M.mem") (by wtm_at "M.mem") ?_; wtm_at "M.a2") | (refine SmD.tup (by wtm_at "M.mem") (by wtm_at "M.mem") ?_; wtm_at "M.a2"))
local macro_rules | `(tactic| wtm_at "M.a2") => `(tactic| with_reducible first | apply A2.nil | apply A2.refl SmD.refl | (refine A2.cons (by wtm_at "M.sm") ?_; wtm_at "M.a2"))
local macro_rules | `(tactic| wtm_at "M.ex") => `(tactic| with_reducible first | apply Ex.here | (apply Ex.skip; wtm_at "M.ex"))
local macro_rules | `(tactic| wtm_at "M.pk") => `(tactic| with_reducible first | apply Pk.refl | (refine Pk.take (by wtm_at "M.ex") ?_; wtm_at "M.pk") | (apply Pk.take; (focus wtm_at "M.ex"); (focus wtm_at "M.pk")) | (refine Pk.drop ?_; wtm_at "M.pk"))
local macro_rules | `(tactic| wtm_at "M.draw") => `(tactic| refine next_spec (n := 5) (by wtm_at "M.a") (by wtm_at "M.a") (by wtm_at "M.a") (Ar.less (by assumption) (by wtm_at "M.le")) (by wtm_at "M.mem") (by decide) ?_)
local macro_rules | `(tactic| wtm_at "M.putf") => `(tactic| with_reducible first | apply PutF.nil | apply PutF.head | (apply PutF.tail (by with_unfolding_all rfl); wtm_at "M.putf"))
local macro_rules | `(tactic| wtm_at "M.le") => `(tactic| first | exact Nat.add_le_add_left (by decide) _ | exact Nat.le_refl _ | exact Nat.le_add_left_of_le (by decide) | omega)
local macro_rules | `(tactic| wtm_at "M.r") => `(tactic| with_unfolding_all rfl)
local macro_rules | `(tactic| wtm_at "M.k") => `(tactic| with_unfolding_all k_is)
local macro_rules | `(tactic| wtm_at "M.d") => `(tactic| with_unfolding_all decide)
local macro_rules | `(tactic| wtm_at "M.hs") => `(tactic| (wtm_at "M.h1"; intros))
local macro_rules | `(tactic| wtm_at "M.h1") => `(tactic| with_reducible first
  | (show Hs _ _ _ (wpAny _ _ (eval _ _) _ _); wtm_at "M.expr")
  | (show Hs _ _ _ (wpAny _ _ (isTrue _ _ _) _ _); first | refine h_isTrue_not ?_ | refine h_isTrue_and ?_ | refine h_isTrue_or ?_ | refine h_isTrue_and_nil ?_ | refine h_isTrue_or_nil ?_ | (show Hs _ _ _ (wpAny _ _ (isTrue (Expr.Compare _ [_] _ _) _ _) _ _); refine h_isTrue_Compare1 ?_) | (show Hs _ _ _ (wpAny _ _ (isTrue (Expr.Compare _ _ _ _) _ _) _ _); refine h_isTrue_chain ?_) | refine h_isTrue_plain ?_)
  | (show Hs _ _ _ (wpAny _ _ (truthy _) _ _); first | refine h_truthy_bool ?_ | refine h_truthy_int ?_)
  | (show Hs _ _ _ (wpAny _ _ (execs _ _) _ _); wtm_at "M.stmt")
  | (show Hs _ _ _ (wpAny _ _ (storeName _ _ _) _ _); first | refine h_st_loc ?_ | refine h_st_cel ?_)
  | (show Hs _ _ _ (wpAny _ _ (spliced _) _ _); first | refine h_spliced_none ?_ | refine h_spliced_more ?_)
  | (show Hs _ _ _ (wpAny _ _ (binaryOp _ _ _) _ _); first | refine h_i_add ?_ | refine h_i_sub ?_) | (show Hs _ _ _ (wpAny _ _ (binaryOp Operator.Mult _ _) _ _); refine h_i_mul ?_) | (show Hs _ _ _ (wpAny _ _ (binaryOp Operator.Mod _ _) _ _); refine h_i_mod ?_) | (show Hs _ _ _ (wpAny _ _ (binaryOp Operator.LShift _ _) _ _); refine h_i_lsh ?_) | (show Hs _ _ _ (wpAny _ _ (binaryOp Operator.Pow _ _) _ _); refine h_i_pow ?_)
  | (show Hs _ _ _ (wpAny _ _ (unaryOp _ _) _ _); first | refine h_i_neg ?_ | refine h_not_of ?_)
  | (show Hs _ _ _ (wpAny _ _ (compareOp _ _ _) _ _); first | refine h_lt_int ?_ | refine h_eq_int ?_ | refine h_ne_int ?_ | refine h_le_int ?_ | refine h_is_nn ?_ | refine h_isnt_nn ?_ | refine h_ge_int ?_ | refine h_gt_int ?_ | refine h_ne_bool ?_ | refine h_eq_bool ?_) | (show Hs _ _ _ (wpAny _ _ (compareOp CmpOp.In (Value.int _ _) (Value.ref _)) _ _); refine h_c_in ?_)
  | (show Hs _ _ _ (wpAny _ _ (newList _) _ _); refine h_n_list ?_)
  | (show Hs _ _ _ (wpAny _ _ (newTuple _) _ _); refine h_n_tup ?_)
  | (show Hs _ _ _ (wpAny _ _ (subscriptTail _ _ (Value.ref _) (Value.int _ _)) _ _); first | refine h_g_list ?_ | refine h_g_tup ?_)
  | (show Hs _ _ _ (wpAny _ _ (call (Value.type _) _ _) _ _); first | refine h_c_range1 ?_ | refine h_c_range2 ?_)
  | (show Hs _ _ _ (thenF _ _ _); first | refine h_thenN ?_ | refine h_thenR ?_)
  | (refine h_leaveX ?_; try (dsimp only [retOf]))
  | (show Hs _ _ _ (wpAny _ _ (getAttr _ _ _) _ _); refine h_a_get ?_)
  | (show Hs _ _ _ (wpAny _ _ (setAttr _ _ _) _ _); refine h_a_set ?_)
  | (show Hs _ _ _ (wpAny _ _ (getMethod (Value.ref _) _ _) _ _); first | refine h_m_fn ?_ | refine h_list_method ?_ | refine h_list_method2 ?_ | refine h_list_method3 ?_ | refine h_dict_method ?_) | (show Hs _ _ _ (wpAny _ _ (getMethod (Value.type _) _ _) _ _); refine h_exc_method ?_)
  | (show Hs _ _ _ (wpAny _ _ (callWith _ (Value.ref _) _ _ _) _ _); first | (show Hs _ _ _ (wpAny _ _ (callWith _ _ _ (backTo _ (starEach [] _)) _) _ _); refine h_cw0 ?_) | refine h_cw1 ?_)
  | (show Hs _ _ _ (wpAny _ _ (callWith _ (Value.builtin _) _ _ _) _ _); first | refine h_callWith_method0 ?_ | refine h_callWith_method1 ?_)
  | refine u_30 ?_ | refine u_33 ?_ | refine u_34 ?_ | refine u_59 ?_
  | refine h_K (by wtm_at "M.a") ?_
  | refine h_out (by wtm_at "M.a") ?_
  | refine h_ite_t ?_ (by wtm_at "M.r") | refine h_ite_f ?_ (by wtm_at "M.r")
  | wtm_at "M.more")
local macro_rules | `(tactic| wtm_at "M.expr") => `(tactic| first
  | (show Hs _ _ _ (wpAny _ _ (eval (Expr.Name _ _) _) _ _); first | refine h_e_local ?_ | refine h_e_global ?_ | refine h_e_builtin ?_ | refine h_e_cell ?_ | refine h_e_free ?_)
  | (show Hs _ _ _ (wpAny _ _ (eval (Expr.Constant _ _ _) _) _ _); first | refine h_e_int ?_ | refine h_e_str ?_ | refine h_Constant_none ?_ | refine h_Constant_bool ?_ | refine h_e_bytes ?_)
  | (show Hs _ _ _ (wpAny _ _ (eval (Expr.Call (Expr.Name _ _) _ _ _) _) _ _); first | (show Hs _ _ _ (wpAny _ _ (eval (Expr.Call _ [] _ _) _) _ _); refine h_call_g0 ?_) | refine h_call_g ?_ | refine h_call_bi ?_ | refine h_call_ty ?_)
  | (show Hs _ _ _ (wpAny _ _ (eval (Expr.Call _ _ _ _) _) _ _); refine h_MethodCall_ ?_)
  | refine h_BinOp ?_ | refine h_Subscript_ ?_ | refine h_IfExp_ ?_ | refine h_List_ ?_ | refine h_Tuple_ ?_ | refine h_BoolOp_one ?_ | refine h_BoolOp_and ?_ | refine h_BoolOp_or ?_ | refine h_UnaryOp_ ?_
  | (show Hs _ _ _ (wpAny _ _ (eval (Expr.Compare _ _ _ _) _) _ _); first | (show Hs _ _ _ (wpAny _ _ (eval (Expr.Compare _ [_] _ _) _) _ _); refine h_Compare1 ?_) | refine h_Compare_chain ?_)
  | (show Hs _ _ _ (wpAny _ _ (eval (Expr.Attribute _ _ _) _) _ _); refine h_Attribute_any_ ?_)
  | (show Hs _ _ _ (wpAny _ _ (eval (Expr.Dict _ _ _) _) _ _); refine h_d_new ?_)
  | (show Hs _ _ _ (wpAny _ _ (eval (Expr.ListComp _ _ _ _) _) _ _); refine h_e_comp ?_))
local macro_rules | `(tactic| wtm_at "M.stmt") => `(tactic| first
  | ((first | show Hs _ _ _ (wpAny _ _ _ (LoopF _ _ _ _ _) _) | show Hs _ _ _ (wpAny _ _ _ (LoopP _ _ _ _) _) | show Hs _ _ _ (wpAny _ _ _ (fun fl s' => LeaveX _ _ _ (retOf fl) s') _)); refine h_cut ?_)
  | refine h_x_if ?_ | refine h_x_return ?_ | refine h_execs_nil ?_
  | (show Hs _ _ _ (wpAny _ _ (execs (Stmt.Assign [Expr.Name _ _] _ _ :: _) _) _ _); first | refine h_x_assign ?_ | refine h_x_assign2 ?_ | refine h_x_assign_comp ?_)
  | (show Hs _ _ _ (wpAny _ _ (execs (Stmt.Assign [Expr.Subscript _ _ _] _ _ :: _) _) _ _); refine h_x_setitem ?_)
  | (show Hs _ _ _ (wpAny _ _ (execs (Stmt.Assign [Expr.Attribute _ _ _] _ _ :: _) _) _ _); refine h_x_setattr ?_)
  | (show Hs _ _ _ (wpAny _ _ (execs (Stmt.Assign _ _ _ :: _) _) _ _); first | refine h_x_swap ?_ | refine h_x_tup ?_)
  | (show Hs _ _ _ (wpAny _ _ (execs (Stmt.Expr _ _ :: _) _) _ _); refine h_x_expr ?_)
  | (show Hs _ _ _ (wpAny _ _ (execs (Stmt.Raise _ _ _ :: _) _) _ _); refine h_x_raise ?_)
  | (show Hs _ _ _ (wpAny _ _ (execs (Stmt.For _ _ _ _ _ :: _) _) _ _); refine h_x_for ?_))
local macro_rules | `(tactic| wtm_at "M.more") => `(tactic| first
  | refine h_test_link ?_ | ((show Hs _ _ _ (wpAny _ _ (testChain _ _ [_] _) _ _)); with_unfolding_all refine h_test_last ?_) | refine h_chain_link ?_ | ((show Hs _ _ _ (wpAny _ _ (compareChain _ _ [_] _) _ _)); with_unfolding_all refine h_chain_last ?_)
  | ((show Hs _ _ _ (wpAny _ _ (assign (Expr.Name _ _) _ _) _ _)); refine h_assign_Name ?_)
  | refine h_tests_nil ?_ | refine h_tests_one ?_ | ((show Hs _ _ _ (wpAny _ _ (unpackItems _ _ _) _ _)); refine h_u_tup ?_) | ((show Hs _ _ _ (wpAny _ _ (assign (Expr.Tuple _ _ _) _ _) _ _)); refine h_as_tup ?_)
  | ((show Hs _ _ _ (wpAny _ _ (bindName _ _ _) _ _)); refine h_bindName ?_)
  | ((show Hs _ _ _ (wpAny _ _ (assignInOrder _ _) _ _)); with_unfolding_all first | (refine h_assignInOrder_cons ?_; first | (show Hs _ _ _ (wpAny _ _ (bindName _ _ _) _ _)) | (show Hs _ _ _ (wpAny _ _ (assign _ _ _) _ _))) | refine h_assignInOrder_nil ?_))
local macro_rules | `(tactic| wtm_at "M.h") => `(tactic| ((with_reducible refine Hs.enter (by wtm_at "M.a") ?_); wtm_at "M.hs"; (repeat wtm_at "M.hs"); (refine Hs.leave ?_); intro s S))
local macro_rules | `(tactic| wtm_at "M.w0") => `(tactic| with_reducible first | ((show ∀ q, Abs _ q → _); intro _ _) | refine ite_t ?_ (by wtm_at "M.r") | refine ite_f ?_ (by wtm_at "M.r"))
local macro_rules | `(tactic| wtm_at "M.w") => `(tactic| ((try wtm_at "M.w0"); (try wtm_at "M.h")))
set_option hygiene true
section
section
variable {prog : Program} {w : World} {A : Around} {E : Value → Shared → Prop} {s : Shared} {b : Shared} {ns : List (Addr × Vars)} {nw nw' : List (Addr × Sh)} {n : Nat} {x : Str} {t : Tok} {e dx : Addr}

theorem mis_binit {Q : Value → Shared → Prop} (Z : Bs w b.heap) (S : Sx b ns ((e, aExc none .none) :: nw) s) (h : ∀ s', Sx b ns ((e, aExc none .none) :: nw) s' → Q .none s') :
    wpAny (model prog w) A (call (.builtin "Exception.__init__") [.ref e, .str x t]) Q E s := by
  obtain ⟨⟨o, he, a0, rfl⟩, _⟩ := S.st.objs _ (.head _)
  obtain ⟨hh, g, d, tk, os⟩ := s
  refine mis_base_init (S.K Z) he (by simp [sizeLine_eq]) (h _ ⟨?_, S.g, S.o⟩)
  have he' : (hh.push { cls := .type "tuple", data := .seq [Value.str x t].toArray }).get? e = some (exObj none (.ref a0) .none) := Heap.get?_push_of_some _ he
  refine (S.st.ext (h' := hh.push { cls := .type "tuple", data := .seq [Value.str x t].toArray }) fun _ _ q => Heap.get?_push_of_some _ q).upd .head (fun c hc => Heap.get?_update_other _ _ (Ne.symm hc)) ⟨_, Heap.get?_update_self _ he' rfl, hh.objs.size, rfl⟩

set_option maxHeartbeats 4000000 in
theorem mis_spec {Q : Value → Shared → Prop} (Z : Bs w b.heap) (S : Sx b ns nw s) (a : Ar A (n + 3) (ns.map (·.1)))
    (ret : ∀ e dx s', Sx b ns ((e, aExc (some dx) .none) :: (dx, aFld [((Str.ofString "why"), .str x t)]) :: nw) s' → Q (.ref e) s') : wpAny (model PySem.Challenge.pw_nm0155_01 w) A (call (.ref 63) [.str x t]) Q E s := by
  obtain ⟨hh, g, d, tk, os⟩ := s
  refine mis_call (S.K Z) (by simp [sizeLine_eq]) ?_
  have S0 := (S.st.ext (h' := hh.push { cls := .type "tuple", data := .seq [Value.str x t].toArray }) fun _ _ q => Heap.get?_push_of_some _ q).alloc (x := aExc none .none) (o := exObj none (.ref hh.objs.size) .none) ⟨_, rfl⟩
  rw [Heap.size_push] at S0
  have S1 : Sx b ns ((hh.objs.size + 1, aExc none .none) :: nw) ⟨(hh.push { cls := .type "tuple", data := .seq [Value.str x t].toArray }).push (exObj none (.ref hh.objs.size) .none), g, d, tk, os⟩ := ⟨S0, S.g, S.o⟩
  have a1 : Ar (A.under (.builtin "type.__call__" ⟨.ref 63 :: [.str x t], []⟩)) (n + 1) (ns.map (·.1)) := a.under (tc_weight _ _) (tc_units _) rfl
  generalize hh.objs.size + 1 = e at S1 ⊢
  generalize (A.under (.builtin "type.__call__" ⟨.ref 63 :: [.str x t], []⟩)) = A1 at a1 ⊢
  revert S1
  generalize (⟨(hh.push { cls := .type "tuple", data := .seq [Value.str x t].toArray }).push (exObj none (.ref hh.objs.size) .none), g, d, tk, os⟩ : Shared) = s1
  intro S1
  refine call_fn [((Str.ofString "self"), some (.ref e)), ((Str.ofString "why"), some (.str x t))] [((Str.ofString "self"), .ref e), ((Str.ofString "why"), .str x t)] Z S1 a1 (by k_is) (by k_is) (BindsTo.of_eq (by with_unfolding_all rfl)) (by rfl) (by decide) (by rfl) (by wtm_at "M.vals") (by wtm_at "M.locs") (by rfl) (by rfl) (by rfl) ?_
  wtm_at "M.enter"
  wtm_at "M.w"
  refine mis_binit Z (by wtm_at "M.a") fun s' S' => ?_
  wtm_at "M.w"
  refine mis_set Z (by wtm_at "M.a") fun dx s' S' => ?_
  wtm_at "M.w"
  exact ⟨rfl, ret _ _ _ (by wtm_at "M.a")⟩
end

end
section
section
variable {prog : Program} {w : World} {A : Around} {E : Value → Shared → Prop} {s : Shared} {b : Shared} {ns : List (Addr × Vars)} {nw nw' : List (Addr × Sh)} {n : Nat} {x : Str} {t : Tok} {e dx T : Addr} {env : Env} {names : List (Str × NameKind)} {cs : List (Str × Addr)} {dict : Option Addr} {fl : Value} {lv lv' : Vars}

local macro_rules | `(tactic| x_close) => `(tactic| assumption)
set_option maxHeartbeats 4000000 in
theorem why_call {Q : Value → Shared → Prop} {e a0 T dx : Addr} {hs : Int} {n : Nat} {t t' u : Tok} (X : (hd.heap_1 w.params).In s.heap) (he : s.heap.get? e = some ⟨.ref 63, some dx, .fields #[.ref a0, .ref T, .none, .none, .bool false, .none], #[]⟩) (hdx : s.heap.get? dx = some ⟨.type "dict", none, .dict #[⟨hs, .str (Str.ofString "why") t', .str x t⟩] n, #[]⟩)
    (hq : Q (.str x t) s) :
    wpAny (model PySem.Challenge.pw_nm0155_01 w) A (call (.builtin "BaseException.__getattribute__") [.ref e, .str (Str.ofString "why") u]) Q E s := by
  x_run

theorem why_attr {Q : Value → Shared → Prop} {ex : Bool} {h : Heap} {g : Array GenState} {d : Drawn} {tk : Nat} {os : OsState} {e a0 T dx : Addr} {hs : Int} {n : Nat} {t t' : Tok} (X : (hd.heap_1 w.params).In h) (he : h.get? e = some (exObj (some dx) (.ref a0) (.ref T)))
    (hdx : h.get? dx = some (dictOf [⟨hs, .str (Str.ofString "why") t', .str x t⟩] n)) (hq : Q (.str x t) ⟨h, g, d, tk + 1, os⟩) : wpAny (model PySem.Challenge.pw_nm0155_01 w) A (getAttr (.ref e) (Str.ofString "why") ex) Q E ⟨h, g, d, tk, os⟩ := by
  have I : InstAt h e (exObj (some dx) (.ref a0) (.ref T)) 63 (some (dictOf [⟨hs, .str (Str.ofString "why") t', .str x t⟩] n)) := ⟨he, rfl, rfl, hdx⟩
  have L0 := I.type (M := model PySem.Challenge.pw_nm0155_01 w)
  have L1 := looks_findIn (r := some (.builtin "BaseException.__getattribute__")) (M := model PySem.Challenge.pw_nm0155_01 w) X (t := .ref 63) (name := "__getattribute__") (by k_is)
  have L2 := looks_findIn (r := none) (M := model PySem.Challenge.pw_nm0155_01 w) X (t := .ref 63) (name := "__getattr__") (by k_is)
  unfold getAttr getAttrBy
  refine wpAny_bind (wpAny_mkText (wpAny_holding (wpAny_bind (L0.at (wpAny_bind (L1.at ?_))))))
  dsimp only
  rw [show (onTheHeap (Value.ref 63) && (Value.builtin "BaseException.__getattribute__" == Value.builtin "object.__getattribute__")) = false from by decide +kernel, if_neg (by decide)]
  unfold getAttrByItsOwn
  have hx0 : (ex && onTheHeap (Value.builtin "BaseException.__getattribute__")) = false := by cases ex <;> rfl
  have f3 := (Slot.of (T := "Exception") (name := "__getattribute__") (owner := "BaseException") (n := "__getattribute__") (id := "BaseException.__getattribute__") (by rw [typeLookup_type, builtinLookup_eq_fast]; kernel_rfl) (by decide +kernel) (by decide +kernel) (by decide +kernel) (by decide +kernel) (by rw [isSubtype_type]; kernel_rfl)).bind (.ref e)
  repeat (any_goals (first | assumption | with_reducible refine L2.at ?_ | ((with_reducible show wpAny _ _ (call (Value.builtin _) _ _) _ _ _); refine why_call (s := ⟨h, g, d, tk + 1, os⟩) X he hdx ?_) | wp_step))

theorem why_get {Q : Value → Shared → Prop} {ex : Bool} (Z : Bs w b.heap) (S : Sx b ns ((e, aExc (some dx) (.ref T)) :: (T, aTb fl) :: (dx, aFld [((Str.ofString "why"), .str x t)]) :: nw) s)
    (h : ∀ s', Sx b ns ((e, aExc (some dx) (.ref T)) :: (T, aTb fl) :: (dx, aFld [((Str.ofString "why"), .str x t)]) :: nw) s' → Q (.str x t) s') : wpAny (model PySem.Challenge.pw_nm0155_01 w) A (getAttr (.ref e) (Str.ofString "why") ex) Q E s := by
  obtain ⟨⟨o, he, a0, rfl⟩, _⟩ := S.st.objs _ (.head _)
  obtain ⟨⟨o, hdx, es, k, rfl, hes⟩, _⟩ := S.st.objs _ (.tail _ (.tail _ (.head _)))
  cases hes with
  | cons hsh t' _ _ h0 =>
    cases h0
    have hq := h _ (S.tok (tk := s.toks + 1))
    have X := S.K Z
    obtain ⟨hp, g, d, tk, os⟩ := s
    exact why_attr X he hdx hq

theorem mis_matches {M : Model} {h : Heap} {g : Array GenState} {d : Drawn} {tk : Nat} {os : OsState} {oe : Obj} {Q : Bool → Shared → Prop} (hC : h.get? 63 = some misObj) (he : h.get? e = some oe) (hcls : oe.cls = .ref 63) (hq : Q true ⟨h, g, d, tk, os⟩) :
    wpAny M A (excMatches (.ref e) (.ref 63)) Q E ⟨h, g, d, tk, os⟩ := by
  have hcB : ((Value.ref 63) :: [.ref 38, .type "Exception", .type "BaseException", .type "object"]).contains (.type "BaseException") = true := by decide
  have hcC : ((Value.ref 63) :: [.ref 38, .type "Exception", .type "BaseException", .type "object"]).contains (.ref 63) = true := by decide
  have hT : (⟨h, g, d, tk, os⟩ : Shared).TypeIs (.ref 63) "type" := ⟨_, hC, rfl⟩
  have hnt := tc_notTuple
  unfold excMatches
  repeat (any_goals (first | assumption | (with_reducible refine wpAny_loadPart_at he ?_; rw [hcls]) | with_reducible refine wpAny_loadPart_at hC ?_ | (with_reducible refine wpAny_isSubtype_exc hC ?_; first | rw [hcB] | rw [hcC]) | wp_step))

theorem name_goes {Q : Unit → Shared → Prop} {nm : Str} {pos : Pos} (V : Fn env names cs) (hk : (nm, NameKind.local) ∈ names) (S : Sx b ((env.locals, lv) :: ns) nw s) (h : ∀ s', Sx b ((env.locals, []) :: ns) nw s' → Q () s') :
    wpAny (model prog w) A (do bindName env nm .none; unbindBehindTheSuite env nm pos) Q E s := by
  obtain ⟨_, m, hn, hm⟩ := (S.st.held _ (.head _)).1
  refine wpAny_nameGoes (by show env.scope.names.lookup nm = _; rw [V.nm]; exact V.ok.look hk) hn (by rw [V.kind]; rfl) fun h' m' hn' hs' => h _ ⟨S.st.nsAt hs'.2 ⟨List.nodup_nil, m', hn', fun _ hp => nomatch hp⟩, S.g, S.o⟩

/-- except Misused as NAME -/
theorem mis_handle {Q : Flow → Shared → Prop} {nm : Str} {np pos : Pos} {b₀ : Stmt} {suite : List Stmt} {rest : List ExceptHandler} (Z : Bs w b.heap) (V : Fn env names cs) (hk : (nm, NameKind.local) ∈ names) (hg : ((Str.ofString "Misused"), NameKind.globalImplicit) ∈ names)
    (S : Sx b ((env.locals, lv) :: ns) ((e, aExc dict (.ref T)) :: (T, aTb fl) :: nw) s) (P : PutV nm (some (.ref e)) lv lv')
    (h : ∀ A' E' s', Sx b ((env.locals, lv') :: ns) ((e, aExc dict (.ref T)) :: (T, aTb .none) :: nw) s' → wpAny (model prog w) A' (execs (b₀ :: suite) env) (fun f s₄ => wpAny (model prog w) A (do bindName env nm .none; unbindBehindTheSuite env nm pos) (fun _ s₅ => Q f s₅) E s₄) E' s') :
    wpAny (model prog w) A (handleBy (.ref e) env (.ExceptHandler (some (.Name (Str.ofString "Misused") np)) (some nm) (b₀ :: suite) pos :: rest)) Q E s := by
  refine wpAny_handleBy_cons (codeAny_handlers_test (e_global (v := .ref 63) Z V S hg (by wtm_at "M.mem") ?_)) (by intro q; cases q)
  obtain ⟨⟨o, he, a0, rfl⟩, _⟩ := S.st.objs _ (.head _)
  have hC := (S.K Z) _ _ mis_at
  refine mis_matches (h := s.heap) (g := s.gens) (d := s.drawn) (tk := s.toks) (os := s.os) hC he rfl ?_
  refine codeAny_handlers_suite_as (fly_none S fun s' S' => ?_)
  exact st_loc V S' hk P fun s' S' => h _ _ s' S'
end

end
section
def aPen (l : Addr) : Sh := fun o => ∃ k t, 0 ≤ k ∧ aList [.ref l, .int k t] o
structure Pn (b : Shared) (l : Addr) : Prop where
  is : ∃ vs is, b.heap.IsList l vs.toArray ∧ IntsAre vs is ∧ is.length ≤ 63
section
variable {prog : Program} {w : World} {A : Around} {E : Value → Shared → Prop} {s : Shared} {b : Shared} {ns : List (Addr × Vars)} {nw nw' : List (Addr × Sh)} {n : Nat} {env : Env} {names : List (Str × NameKind)} {l pen : Addr} {its : List Value} {v x : Value} {k : Int} {u t : Tok}

theorem pen_0 {Q : Value → Shared → Prop} (S : Sx b ns nw s) (hm : (pen, aPen l) ∈ nw) (h : Q (.ref l) s) {value slice : Expr} (hs : subscripted slice false (.ref pen) (.int 0 u) = operate [.ref pen, .int 0 u] (getItem (.ref pen) (.int 0 u))) : wpAny (model prog w) A (subscriptTail value slice (.ref pen) (.int 0 u)) Q E s := by
  obtain ⟨o, ho, k, t, h0, n, e⟩ := (S.st.objs _ hm).1
  exact get_list (its := [.ref l, .int k t]) ⟨o, ho, by rw [e], n, by rw [e]⟩ (by decide) (by decide) rfl h hs
theorem pen_1 {Q : Value → Shared → Prop} (S : Sx b ns nw s) (hm : (pen, aPen l) ∈ nw) (h : ∀ k t, 0 ≤ k → Q (.int k t) s) {value slice : Expr} (hs : subscripted slice false (.ref pen) (.int 1 u) = operate [.ref pen, .int 1 u] (getItem (.ref pen) (.int 1 u))) : wpAny (model prog w) A (subscriptTail value slice (.ref pen) (.int 1 u)) Q E s := by
  obtain ⟨o, ho, k, t, h0, n, e⟩ := (S.st.objs _ hm).1
  exact get_list (its := [.ref l, .int k t]) ⟨o, ho, by rw [e], n, by rw [e]⟩ (by decide) (by decide) rfl (h k t h0) hs
theorem PutO.refl {a : Addr} {x : Sh} : ∀ {nw : List (Addr × Sh)}, (a, x) ∈ nw → PutO a x x nw nw
  | p :: r, h => by
    by_cases e : p = (a, x)
    · subst e; exact .head
    · exact .tail (PutO.refl ((List.mem_cons.mp h).resolve_left (Ne.symm e)))
theorem pen_set {Q : Unit → Shared → Prop} (S : Sx b ns nw s) (hm : (pen, aPen l) ∈ nw) (hk : 0 ≤ k) (h : ∀ s', Sx b ns nw s' → Q () s') : wpAny (model prog w) A (setItem (.ref pen) (.int 1 u) (.int k t)) Q E s := by
  obtain ⟨o, ho, k', t', h0, n, e⟩ := (S.st.objs _ hm).1
  subst e
  refine ki_setAt ho (by decide) (by decide) (by simp) (h _ ⟨S.st.upd (PutO.refl hm) (fun c hc => Heap.get?_update_other _ _ (Ne.symm hc)) ⟨_, Heap.get?_update_self _ ho rfl, k, t, hk, n, ?_⟩, S.g, S.o⟩)
  simp [Obj.mapSeq]

theorem script_len {Q : Value → Shared → Prop} (P : Pn b l) (S : Sx b ns nw s) (h : ∀ (m : Nat) t s', m ≤ 63 → (∀ k u value slice (Q : Value → Shared → Prop) s', subscripted slice false (.ref l) (.int k u) = operate [.ref l, .int k u] (getItem (.ref l) (.int k u)) → 0 ≤ k → k < (m : Int) → Sx b ns nw s' → (∀ x t, Q (.int x t) s') → wpAny (model prog w) A (subscriptTail value slice (.ref l) (.int k u)) Q E s') → Sx b ns nw s' → Q (.int m t) s') :
    wpAny (model prog w) A (call (.builtin "len") [.ref l]) Q E s := by
  obtain ⟨vs, is, hl, hi, hn⟩ := P.is
  have hvl : vs.length = is.length := hi.length
  refine len_list (its := vs) (hl.at (S.st.keep _)) (by omega) fun t tk => h _ _ _ (by omega) (fun k u value slice Q s' hs h0 h1 S' hq => ?_) S.tok
  have hlt : k.toNat < vs.length := by omega
  obtain ⟨x, t, hx⟩ : ∃ x t, vs[k.toNat]? = some (.int x t) := by
    rw [List.getElem?_eq_getElem hlt]
    obtain ⟨x, t, e, _⟩ := hi.at k.toNat _ (List.getElem?_eq_getElem hlt)
    exact ⟨x, t, by rw [e]⟩
  exact get_list (hl.at (S'.st.keep _)) h0 (by omega) hx (hq x t) hs

set_option maxHeartbeats 4000000 in
theorem next_spec {many : Int} {tm : Tok} {Q : Value → Shared → Prop} (Z : Bs w b.heap) (P : Pn b l) (S : Sx b ns nw s) (a : Ar A (n + 1) (ns.map (·.1))) (hp : (pen, aPen l) ∈ nw) (hm : 0 < many)
    (ret : ∀ v t s', 0 ≤ v → v < many → Sx b ns nw s' → Q (.int v t) s') : wpAny (model PySem.Challenge.pw_nm0155_01 w) A (call (.ref 685) [.ref pen, .int many tm]) Q E s := by
  refine call_fn [((Str.ofString "pen"), some (.ref pen)), ((Str.ofString "many"), some (.int many tm)), ((Str.ofString "at"), none)] [((Str.ofString "pen"), .ref pen), ((Str.ofString "many"), .int many tm)] Z S a (by k_is) (by k_is) (BindsTo.of_eq (by with_unfolding_all rfl)) (by rfl) (by decide) (by rfl) (by wtm_at "M.vals") (by wtm_at "M.locs") (by rfl) (by rfl) (by rfl) ?_
  intro A' env s V tp a S
  wtm_at "M.w"
  refine pen_1 (by wtm_at "M.a") hp (fun k t hk => ?_) (by with_unfolding_all rfl)
  wtm_at "M.w"
  refine pen_set (by wtm_at "M.a") hp (by omega) fun s S => ?_
  wtm_at "M.w"
  refine pen_0 (by wtm_at "M.a") hp ?_ (by with_unfolding_all rfl)
  wtm_at "M.w"
  refine script_len P (by wtm_at "M.a") fun m t s' hm63 hx S' => ?_
  wtm_at "M.w"
  refine ite_of (fun hc => ?_) fun hc => ?_
  · wtm_at "M.w"
    refine pen_0 (by wtm_at "M.a") hp ?_ (by with_unfolding_all rfl)
    wtm_at "M.w"
    refine hx _ _ _ _ _ _ (by with_unfolding_all rfl) hk (of_decide_eq_true hc) (by wtm_at "M.a") fun x t => ?_
    wtm_at "M.w"
    exact ret _ _ _ (Int.emod_nonneg _ (by omega)) (Int.emod_lt_of_pos _ hm) (by wtm_at "M.a")
  · wtm_at "M.w"
    exact ret _ _ _ (Int.emod_nonneg _ (by omega)) (Int.emod_lt_of_pos _ hm) (by wtm_at "M.a")
end

end
section
section
variable {prog : Program} {w : World} {A : Around} {E : Value → Shared → Prop} {s : Shared} {b : Shared} {ns : List (Addr × Vars)} {nw nw' : List (Addr × Sh)} {n : Nat} {env : Env} {names : List (Str × NameKind)} {l pen : Addr} {its : List Value} {v x : Value} {k : Int} {u t : Tok} {cs : List (Str × Addr)}

theorem x_try {body orelse : List Stmt} {h₀ : ExceptHandler} {hs : List ExceptHandler} {pos : Pos} {rest : List Stmt} {Q : Flow → Shared → Prop}
    (h : wpAny (model prog w) A (execs body env) (thenF (fun s₁ => wpAny (model prog w) A (execs orelse env) (thenF (fun s₂ => wpAny (model prog w) A (execs rest env) Q E s₂) Q) E s₁) Q)
      (fun e s₁ => wpAny (model prog w) A (noteFrame e env) (fun _ s₂ => wpAny (model prog w) A (setFlight e none) (fun _ s₃ => wpAny (model prog w) A (handleBy e env (h₀ :: hs)) (thenF (fun s₂ => wpAny (model prog w) A (execs rest env) Q E s₂) Q) E s₃) E s₂) E s₁) s) :
    wpAny (model prog w) A (execs (.Try body (h₀ :: hs) orelse [] pos :: rest) env) Q E s := by
  refine wpAny_execs_cons (wpAny_mono (wpAny_Try_except (Q := thenF (fun s₂ => wpAny (model prog w) A (execs rest env) Q E s₂) Q) (wpAny_mono h (fun f s₁ q => ?_) fun _ _ q => q)) (fun f s q => ?_) fun _ _ q => q)
  · cases f <;> exact q
  · cases f <;> exact q

theorem call_f0 {nm : Str} {np pos : Pos} {f : Addr} {Q : Value → Shared → Prop} {lv : Vars} (V : Fn env names cs) (S : Sx b ((env.locals, lv) :: ns) nw s) (hk : (nm, NameKind.local) ∈ names) (hv : (nm, some (.ref f)) ∈ lv)
    (hf : ∃ o fd, s.heap.get? f = some o ∧ o.data = .func fd) (h : wpAny (model prog w) A (call (.ref f) []) Q E s) : wpAny (model prog w) A (eval (.Call (.Name nm np) [] [] pos) env) Q E s := by
  obtain ⟨o, fd, ho, hd⟩ := hf
  exact Call_ (e_local V S hk hv (callWith_meth0 (first := []) hd ho h))

set_option maxHeartbeats 4000000 in
theorem heard_spec {f : Addr} {Q : Value → Shared → Prop} {G : Value → List (Addr × Sh) → Prop} {F : Str → List (Addr × Sh) → Prop} (Z : Bs w b.heap) (S : Sx b ns nw s) (a : Ar A (n + 1) (ns.map (·.1)))
    {qual : Str} {params : Arguments} {lbody : Expr} {scope : Scope} {clos : List (Str × Addr)} {c : Addr} (hf : (f, aLam qual params lbody scope clos c) ∈ nw)
    (hcall : ∀ A' (p : Addr × Vars) s' Q' E', Ar A' n ((p :: ns).map (·.1)) → Sx b (p :: ns) nw s' → (∀ v nw1 s'', G v nw1 → Sx b (p :: ns) nw1 s'' → Q' v s'') → (∀ ex x nw1 s'', F x nw1 → Fly b (p :: ns) nw1 x ex s'' → E' ex s'') →
      wpAny (model PySem.Challenge.pw_nm0155_01 w) A' (call (.ref f) []) Q' E' s')
    (told : ∀ r k v nw1 s', G v nw1 → Sx b ns ((r, aTup [.str (Str.ofString "told") k, v]) :: nw1) s' → Q (.ref r) s')
    (mis : ∀ r k k' x nw1 s', F x nw1 → Sx b ns ((r, aTup [.str (Str.ofString "misused") k, .str x k']) :: nw1) s' → Q (.ref r) s') :
    wpAny (model PySem.Challenge.pw_nm0155_01 w) A (call (.ref 692) [.ref f]) Q E s := by
  refine call_fn [((Str.ofString "call"), some (.ref f)), ((Str.ofString "fault"), none)] [((Str.ofString "call"), .ref f)] Z S a (by k_is) (by k_is) (BindsTo.of_eq (by with_unfolding_all rfl)) (by rfl) (by decide) (by rfl) (by wtm_at "M.vals") (by wtm_at "M.locs") (by rfl) (by rfl) (by rfl) ?_
  wtm_at "M.enter"
  refine x_try ?_
  wtm_at "M.w"
  rename Sx b (_ :: ns) nw _ => S1
  refine call_f0 (by wtm_at "M.a") S1 (by wtm_at "M.mem") (by wtm_at "M.mem") (by obtain ⟨⟨o, ho, pm, ctv, rfl⟩, _⟩ := S1.st.objs _ hf; exact ⟨_, _, ho, rfl⟩) ?_
  refine hcall _ (_, _) _ _ _ (by assumption) S1 (fun v nw1 s2 hG S2 => ?_) fun ex x nw1 s2 hF fl => ?_
  · wtm_at "M.w"
    exact told _ _ _ _ _ hG (by wtm_at "M.a")
  · obtain ⟨e, dx, T, t, rfl, S3⟩ := fl
    refine note_next (by wtm_at "M.a") (by assumption) (by wtm_at "M.a") S3 fun T' s4 S4 => ?_
    refine fly_none S4 fun s5 S5 => ?_
    refine mis_handle Z (by wtm_at "M.a") (by wtm_at "M.mem") (by wtm_at "M.mem") S5 (by wtm_at "M.putv") fun A2 E2 s6 S6 => ?_
    wtm_at "M.w"
    refine why_get Z (by wtm_at "M.a") fun s7 S7 => ?_
    wtm_at "M.w"
    refine name_goes (by wtm_at "M.a") (by wtm_at "M.mem") (by wtm_at "M.a") fun s8 S8 => ?_
    wtm_at "M.w"
    rename Sx b ns _ _ => S9
    exact mis _ _ _ _ _ _ hF ⟨S9.st.sub (List.Sublist.cons_cons _ (List.Sublist.cons _ (List.Sublist.cons _ (List.Sublist.cons _ (List.Sublist.refl _))))), S9.g, S9.o⟩

theorem heard_same {f : Addr} {Q : Value → Shared → Prop} {G : Value → Prop} {F : Str → Prop} (Z : Bs w b.heap) (S : Sx b ns nw s) (a : Ar A (n + 1) (ns.map (·.1)))
    {qual : Str} {params : Arguments} {lbody : Expr} {scope : Scope} {clos : List (Str × Addr)} {c : Addr} (hf : (f, aLam qual params lbody scope clos c) ∈ nw)
    (hcall : ∀ A' (p : Addr × Vars) s' Q' E', Ar A' n ((p :: ns).map (·.1)) → Sx b (p :: ns) nw s' → (∀ v s'', G v → Sx b (p :: ns) nw s'' → Q' v s'') → (∀ ex x s'', F x → Fly b (p :: ns) nw x ex s'' → E' ex s'') →
      wpAny (model PySem.Challenge.pw_nm0155_01 w) A' (call (.ref f) []) Q' E' s')
    (told : ∀ r k v s', G v → Sx b ns ((r, aTup [.str (Str.ofString "told") k, v]) :: nw) s' → Q (.ref r) s')
    (mis : ∀ r k k' x s', F x → Sx b ns ((r, aTup [.str (Str.ofString "misused") k, .str x k']) :: nw) s' → Q (.ref r) s') :
    wpAny (model PySem.Challenge.pw_nm0155_01 w) A (call (.ref 692) [.ref f]) Q E s :=
  heard_spec (G := fun v nw1 => nw1 = nw ∧ G v) (F := fun x nw1 => nw1 = nw ∧ F x) Z S a hf
    (fun A' p s' Q' E' a' S' h1 h2 => hcall A' p s' Q' E' a' S' (fun v s'' g S'' => h1 v nw s'' ⟨rfl, g⟩ S'') (fun ex x s'' g f => h2 ex x nw s'' ⟨rfl, g⟩ f))
    (fun r k v nw1 s' g S' => by obtain ⟨rfl, g⟩ := g; exact told r k v s' g S') (fun r k k' x nw1 s' g S' => by obtain ⟨rfl, g⟩ := g; exact mis r k k' x s' g S')
end

end
section
section
variable {w : World} {A : Around} {E : Value → Shared → Prop} {s : Shared} {b : Shared} {ns : List (Addr × Vars)} {nw : List (Addr × Sh)} {n : Nat}
theorem Sx.frz1 {p : Addr × Sh} {N : List (Addr × Sh)} (S : Sx b ns nw s) (k : Pk (p :: N) nw) : ∃ N', (∀ r ∈ N, r ∈ N') ∧ (∀ t, Pk t N → Pk t N') ∧ Sx b ns (p :: N') s := ⟨N, fun _ h => h, fun _ h => h, S.pk k⟩
theorem Sx.frz2 {p q : Addr × Sh} {N : List (Addr × Sh)} (S : Sx b ns nw s) (k : Pk (p :: q :: N) nw) : ∃ N', (∀ r ∈ N, r ∈ N') ∧ (∀ t, Pk t N → Pk t N') ∧ Sx b ns (p :: q :: N') s := ⟨N, fun _ h => h, fun _ h => h, S.pk k⟩
theorem Sx.frz3 {p q o : Addr × Sh} {N : List (Addr × Sh)} (S : Sx b ns nw s) (k : Pk (p :: q :: o :: N) nw) : ∃ N', (∀ r ∈ N, r ∈ N') ∧ (∀ t, Pk t N → Pk t N') ∧ Sx b ns (p :: q :: o :: N') s := ⟨N, fun _ h => h, fun _ h => h, S.pk k⟩
theorem Sx.frz4 {p q o u : Addr × Sh} {N : List (Addr × Sh)} (S : Sx b ns nw s) (k : Pk (p :: q :: o :: u :: N) nw) : ∃ N', (∀ r ∈ N, r ∈ N') ∧ (∀ t, Pk t N → Pk t N') ∧ Sx b ns (p :: q :: o :: u :: N') s := ⟨N, fun _ h => h, fun _ h => h, S.pk k⟩
theorem Sx.frz6 {o0 o1 o2 o3 o4 o5 : Addr × Sh} {N : List (Addr × Sh)} (S : Sx b ns nw s) (k : Pk (o0 :: o1 :: o2 :: o3 :: o4 :: o5 :: N) nw) : ∃ N', (∀ r ∈ N, r ∈ N') ∧ (∀ t, Pk t N → Pk t N') ∧ Sx b ns (o0 :: o1 :: o2 :: o3 :: o4 :: o5 :: N') s := ⟨N, fun _ h => h, fun _ h => h, S.pk k⟩
theorem Sx.frz5 {o0 o1 o2 o3 o4 : Addr × Sh} {N : List (Addr × Sh)} (S : Sx b ns nw s) (k : Pk (o0 :: o1 :: o2 :: o3 :: o4 :: N) nw) : ∃ N', (∀ r ∈ N, r ∈ N') ∧ (∀ t, Pk t N → Pk t N') ∧ Sx b ns (o0 :: o1 :: o2 :: o3 :: o4 :: N') s := ⟨N, fun _ h => h, fun _ h => h, S.pk k⟩
theorem Ex.appR {p : Addr × Sh} {l l' : List (Addr × Sh)} (h : Ex p l l') : ∀ T : List (Addr × Sh), Ex p (T ++ l) (T ++ l')
  | [] => h
  | _ :: T => .skip (Ex.appR h T)
theorem Pk.dropApp {t N : List (Addr × Sh)} (h : Pk t N) : ∀ T : List (Addr × Sh), Pk t (T ++ N)
  | [] => h
  | _ :: T => .drop (Pk.dropApp h T)
/-- what _law_heard gives back -/
def Out (G : Value → List (Addr × Sh) → Prop) (F : Str → List (Addr × Sh) → Prop) (R : List Value) (nw1 : List (Addr × Sh)) : Prop :=
  (∃ k v, R = [.str (Str.ofString "told") k, v] ∧ G v nw1) ∨ ∃ k k' x, R = [.str (Str.ofString "misused") k, .str x k'] ∧ F x nw1
abbrev noArgs : Arguments := { posonlyargs := [], args := [], vararg := none, kwonlyargs := [], kw_defaults := [], kwarg := none, defaults := [] }
set_option maxHeartbeats 2000000 in
theorem heard_body {f c : Addr} {qual : Str} {lbody : Expr} {scope : Scope} {clos : List (Str × Addr)} {Q : Value → Shared → Prop} (G : List (Addr × Sh) → Value → List (Addr × Sh) → Prop) (F : List (Addr × Sh) → Str → List (Addr × Sh) → Prop) (Z : Bs w b.heap) (S : Sx b ns nw s) (a : Ar A (n + 2) (ns.map (·.1)))
    (hf : (f, aLam qual noArgs lbody scope clos c) ∈ nw) (hc : (c, aCode qual) ∈ nw) (hsc : ScOk scope.names) (hcell : ∀ x ∈ scope.names, x.2 ≠ .cell) (hkeys : [] = localKeys scope.names) (hco : scope.isCoroutine = false) (hgen : scope.isGenerator = false) (hk : scope.kind = .function)
    (body : ∀ A' env (p : Addr × Vars) s' Q' E', Fn env scope.names clos → Tp A' env → Ar A' n (env.locals :: p.1 :: ns.map (·.1)) → Sx b ((env.locals, []) :: p :: ns) nw s' →
      (∀ v nw1 s'', G nw v nw1 → Sx b ((env.locals, []) :: p :: ns) nw1 s'' → Q' v s'') → (∀ ex x nw1 s'', F nw x nw1 → Fly b ((env.locals, []) :: p :: ns) nw1 x ex s'' → E' ex s'') → wpAny (model PySem.Challenge.pw_nm0155_01 w) A' (eval lbody env) Q' E' s')
    (cont : ∀ r R nw1 s', Out (G nw) (F nw) R nw1 → Sx b ns ((r, aTup R) :: nw1) s' → Q (.ref r) s') :
    wpAny (model PySem.Challenge.pw_nm0155_01 w) A (call (.ref 692) [.ref f]) Q E s :=
  heard_spec (n := n + 1) (G := G nw) (F := F nw) Z S a hf
    (fun A' p s' Q' E' a' S' h1 h2 => lam_call (n := n) [] [] Z S' a' hf hc (fun _ _ => by with_unfolding_all rfl) hsc hcell hkeys (List.forall_mem_nil _) (List.forall_mem_nil _) hco hgen hk
      fun A2 env s2 V tp a2 S2 => body A2 env p s2 _ _ V tp a2 S2 (fun v nw1 s3 g S3 => LeaveX.intro S3 (fun S4 => h1 _ _ _ g S4)) (fun ex x nw1 s3 g fl => leave_next V a2 tp fl fun ex s4 fl4 => h2 _ _ _ _ g fl4))
    (fun r k v nw1 s' g S' => cont _ _ _ _ (.inl ⟨_, _, rfl, g⟩) S') (fun r k k' x nw1 s' g S' => cont _ _ _ _ (.inr ⟨_, _, _, rfl, g⟩) S')
end

end
section
section
variable {prog : Program} {w : World} {A : Around} {E : Value → Shared → Prop} {s : Shared} {b : Shared} {ns : List (Addr × Vars)} {nw nw' : List (Addr × Sh)} {n : Nat} {env : Env} {names : List (Str × NameKind)} {l pen : Addr} {its vs : List Value} {v x : Value} {k : Int} {u t : Tok} {cs : List (Str × Addr)} {tp : Addr}

set_option maxHeartbeats 4000000 in
theorem of_sort_spec {Q : Value → Shared → Prop} (Z : Bs w b.heap) (S : Sx b ns nw s) (a : Ar A (n + 4) (ns.map (·.1))) (ht : (tp, aTup vs) ∈ nw) (hlen : vs.length ≤ 100)
    (ok : ∀ v s', 0 ≤ k → k < vs.length → vs[k.toNat]? = some v → Sx b ns nw s' → Q v s') (bad : ∀ ex s', (k < 0 ∨ (vs.length : Int) ≤ k) → Fly b ns nw (Str.ofString "no such sort") ex s' → E ex s') :
    wpAny (model PySem.Challenge.pw_nm0155_01 w) A (call (.ref 133) [.ref tp, .int k u]) Q E s := by
  refine call_fn [((Str.ofString "lists"), some (.ref tp)), ((Str.ofString "sort"), some (.int k u))] [((Str.ofString "lists"), .ref tp), ((Str.ofString "sort"), .int k u)] Z S a (by k_is) (by k_is) (BindsTo.of_eq (by with_unfolding_all rfl)) (by rfl) (by decide) (by rfl) (by wtm_at "M.vals") (by wtm_at "M.locs") (by rfl) (by rfl) (by rfl) ?_
  wtm_at "M.enter"
  wtm_at "M.w"
  refine ite_of (fun h0 => ?_) fun h0 => ?_
  · wtm_at "M.w"
    refine c_len_tup (by wtm_at "M.a") ht (by omega) fun t s' S' => ?_
    wtm_at "M.w"
    refine ite_of (fun h1 => ?_) fun h1 => ?_
    · wtm_at "M.w"
      wtm_at "M.mis"
      refine bad _ _ ?_ (by assumption)
      simp at h0 h1; omega
    · wtm_at "M.w"
      have h0' : 0 ≤ k := of_decide_eq_true h0
      have h1' : k < vs.length := by simpa using h1
      have hlt : k.toNat < vs.length := by omega
      refine g_tup (by wtm_at "M.a") ht h0' h1' (by omega) (List.getElem?_eq_getElem hlt) ?_ (by with_unfolding_all rfl)
      wtm_at "M.w"
      exact ok _ _ h0' h1' (List.getElem?_eq_getElem hlt) (by wtm_at "M.a")
  · wtm_at "M.w"
    wtm_at "M.mis"
    refine bad _ _ (.inl (by simpa using h0)) (by assumption)
end

end
section
abbrev instF (m kk a0 a1 a2 a3 el da ex : Addr) : List (Str × Value) := [((Str.ofString "module"), .ref m), ((Str.ofString "kinds"), .ref kk), ((Str.ofString "funcs"), .ref a0), ((Str.ofString "tables"), .ref a1), ((Str.ofString "memories"), .ref a2), ((Str.ofString "globals"), .ref a3), ((Str.ofString "elems"), .ref el), ((Str.ofString "datas"), .ref da), ((Str.ofString "exports"), .ref ex)]
section
variable {prog : Program} {w : World} {A : Around} {E : Value → Shared → Prop} {s : Shared} {b : Shared} {ns : List (Addr × Vars)} {nw nw' : List (Addr × Sh)} {n : Nat} {env : Env} {names : List (Str × NameKind)} {l pen : Addr} {its vs : List Value} {v : Value} {k : Int} {u t : Tok} {cs : List (Str × Addr)} {x dx m kk a0 a1 a2 a3 el da ex : Addr}

set_option maxHeartbeats 4000000 in
theorem addresses_spec {Q : Value → Shared → Prop} (Z : Bs w b.heap) (S : Sx b ns nw s) (a : Ar A (n + 5) (ns.map (·.1))) (hx : (x, aIns 423 dx) ∈ nw) (hdx : (dx, aFld (instF m kk a0 a1 a2 a3 el da ex)) ∈ nw)
    (ok : ∀ v s', 0 ≤ k → k < 4 → [Value.ref a0, .ref a1, .ref a2, .ref a3][k.toNat]? = some v → Sx b ns nw s' → Q v s') (bad : ∀ ex s', (k < 0 ∨ 4 ≤ k) → Fly b ns nw (Str.ofString "no such sort") ex s' → E ex s') :
    wpAny (model PySem.Challenge.pw_nm0155_01 w) A (call (.ref 385) [.ref x, .int k u]) Q E s := by
  refine call_fn [((Str.ofString "self"), some (.ref x)), ((Str.ofString "sort"), some (.int k u))] [((Str.ofString "self"), .ref x), ((Str.ofString "sort"), .int k u)] Z S a (by k_is) (by k_is) (BindsTo.of_eq (by with_unfolding_all rfl)) (by rfl) (by decide) (by rfl) (by wtm_at "M.vals") (by wtm_at "M.locs") (by rfl) (by rfl) (by rfl) ?_
  wtm_at "M.enter"
  wtm_at "M.w"
  rename Sx b _ ((_, aTup _) :: _) _ => S1
  refine of_sort_spec Z S1 (by assumption) (by wtm_at "M.mem") (Nat.le_of_ble_eq_true rfl) (fun v s' h0 h1 hv S2 => ?_) fun ex s' hc fl => ?_
  · wtm_at "M.w"
    exact ok _ _ h0 h1 hv (Sx.drop (by wtm_at "M.a"))
  · refine leave_next (by wtm_at "M.a") (by assumption) (by wtm_at "M.a") fl fun ex s' fl => ?_
    exact bad _ _ hc (fl.sub (List.sublist_cons_self _ _))

set_option maxHeartbeats 4000000 in
theorem address_spec {Q : Value → Shared → Prop} {i : Int} {ti : Tok} (Z : Bs w b.heap) (S : Sx b ns nw s) (a : Ar A (n + 6) (ns.map (·.1))) (hx : (x, aIns 423 dx) ∈ nw) (hdx : (dx, aFld (instF m kk a0 a1 a2 a3 el da ex)) ∈ nw)
    (h0 : 0 ≤ k) (h4 : k < 4) (hl : [Value.ref a0, .ref a1, .ref a2, .ref a3][k.toNat]? = some (.ref l)) (hli : (l, aList its) ∈ nw) (hi : 0 ≤ i) (hi2 : i < its.length) (hlen : its.length ≤ 100)
    (ok : ∀ v s', its[i.toNat]? = some v → Sx b ns nw s' → Q v s') :
    wpAny (model PySem.Challenge.pw_nm0155_01 w) A (call (.ref 392) [.ref x, .int k u, .int i ti]) Q E s := by
  refine call_fn [((Str.ofString "self"), some (.ref x)), ((Str.ofString "sort"), some (.int k u)), ((Str.ofString "index"), some (.int i ti))] [((Str.ofString "self"), .ref x), ((Str.ofString "sort"), .int k u), ((Str.ofString "index"), .int i ti)] Z S a (by k_is) (by k_is) (BindsTo.of_eq (by with_unfolding_all rfl)) (by rfl) (by decide) (by rfl) (by wtm_at "M.vals") (by wtm_at "M.locs") (by rfl) (by rfl) (by rfl) ?_
  wtm_at "M.enter"
  wtm_at "M.w"
  refine addresses_spec Z (by wtm_at "M.a") (by assumption) hx hdx (fun v s' _ _ hv S1 => ?_) fun ex s' hc fl => (by omega)
  rw [hl] at hv
  cases hv
  wtm_at "M.w"
  refine g_list (by wtm_at "M.a") hli hi (by omega) (List.getElem?_eq_getElem (by omega)) ?_ (by with_unfolding_all rfl)
  wtm_at "M.w"
  exact ok _ _ (List.getElem?_eq_getElem (by omega)) (by wtm_at "M.a")

end

end
section
section
variable {prog : Program} {w : World} {A : Around} {E : Value → Shared → Prop} {s : Shared} {b : Shared} {ns : List (Addr × Vars)} {nw nw' : List (Addr × Sh)} {n : Nat} {env : Env} {names : List (Str × NameKind)} {l pen : Addr} {its vs : List Value} {v : Value} {k : Int} {u t : Tok} {cs : List (Str × Addr)} {x dx m kk a0 a1 a2 a3 el da ex : Addr}

theorem first_at {y : Int} : ∀ {it : List Int}, it.any (fun z => z == y) = true → ∃ j, j < it.length ∧ it[j]? = some y ∧ ∀ i, i < j → it[i]? ≠ some y
  | [], h => by cases h
  | z :: r, h => by
    by_cases e : z = y
    · exact ⟨0, by simp, by simp [e], fun i hi => by omega⟩
    · have h' : r.any (fun z => z == y) = true := by simpa [List.any_cons, e] using h
      obtain ⟨j, h1, h2, h3⟩ := first_at h'
      refine ⟨j + 1, by simp; omega, by simpa using h2, fun i hi => ?_⟩
      cases i with
      | zero => simpa using e
      | succ i => simpa using h3 i (by omega)

set_option maxHeartbeats 4000000 in
theorem index_of_spec {Q : Value → Shared → Prop} {y : Int} {ti : Tok} {it : List Int} (Z : Bs w b.heap) (S : Sx b ns nw s) (a : Ar A (n + 6) (ns.map (·.1))) (hx : (x, aIns 423 dx) ∈ nw) (hdx : (dx, aFld (instF m kk a0 a1 a2 a3 el da ex)) ∈ nw)
    (h0 : 0 ≤ k) (h4 : k < 4) (hl : [Value.ref a0, .ref a1, .ref a2, .ref a3][k.toNat]? = some (.ref l)) (hli : (l, aList its) ∈ nw) (hi : IntsAre its it) (hlen : its.length ≤ 100)
    (hit : ∀ (j : Nat) t s', j < it.length → it[j]? = some y → (∀ i, i < j → it[i]? ≠ some y) → Sx b ns nw s' → Q (.int j t) s') (miss : ∀ s', (∀ i : Nat, it[i]? ≠ some y) → Sx b ns nw s' → Q .none s') :
    wpAny (model PySem.Challenge.pw_nm0155_01 w) A (call (.ref 399) [.ref x, .int k u, .int y ti]) Q E s := by
  refine call_fn [((Str.ofString "self"), some (.ref x)), ((Str.ofString "sort"), some (.int k u)), ((Str.ofString "address"), some (.int y ti)), ((Str.ofString "some"), none)] [((Str.ofString "self"), .ref x), ((Str.ofString "sort"), .int k u), ((Str.ofString "address"), .int y ti)] Z S a (by k_is) (by k_is) (BindsTo.of_eq (by with_unfolding_all rfl)) (by rfl) (by decide) (by rfl) (by wtm_at "M.vals") (by wtm_at "M.locs") (by rfl) (by rfl) (by rfl) ?_
  wtm_at "M.enter"
  wtm_at "M.w"
  refine addresses_spec Z (by wtm_at "M.a") (by assumption) hx hdx (fun v s' _ _ hv S1 => ?_) fun ex s' hc fl => (by omega)
  rw [hl] at hv
  cases hv
  wtm_at "M.w"
  refine ite_of (fun hc => ?_) fun hc => ?_
  · obtain ⟨j, j1, j2, j3⟩ := first_at hc
    wtm_at "M.w"
    refine c_index (by wtm_at "M.a") hli hi hlen j1 j2 j3 fun t s' S' => ?_
    wtm_at "M.w"
    exact hit _ _ _ j1 j2 j3 (by wtm_at "M.a")
  · wtm_at "M.w"
    refine miss _ (fun i hi' => ?_) (by wtm_at "M.a")
    have := List.any_eq_false.mp hc y (List.mem_of_getElem? hi')
    simp at this
end

end
section
section
variable {w : World} {A : Around} {E : Value → Shared → Prop} {s : Shared} {b : Shared} {ns : List (Addr × Vars)} {nw nw' : List (Addr × Sh)} {n : Nat} {env : Env} {names : List (Str × NameKind)} {l pen d : Addr} {its vs : List Value} {v : Value} {k : Int} {u t : Tok} {cs : List (Str × Addr)} {x dx m kk a0 a1 a2 a3 el da ex : Addr} {kvs kvs2 : List (Str × Value)} {nm : Str}

set_option maxHeartbeats 4000000 in
theorem exported_spec {Q : Value → Shared → Prop} {tn : Tok} {fv : Option (Int × Int)} (Z : Bs w b.heap) (S : Sx b ns nw s) (a : Ar A (n + 5) (ns.map (·.1))) (hx : (x, aIns 423 dx) ∈ nw) (hdx : (dx, aFld (instF m kk a0 a1 a2 a3 el da ex)) ∈ nw)
    (hex : (ex, aDic w kvs) ∈ nw) (hes : (ex == sysModules) = false) (hnl : nm.length ≤ 1000)
    (hv : match fv with | none => valueAt kvs nm = none | some (so, ad) => ∃ tp t1 t2, valueAt kvs nm = some (.ref tp) ∧ (tp, aTup [.int so t1, .int ad t2]) ∈ nw)
    (ok : ∀ ad t s', fv = some (k, ad) → Sx b ns nw s' → Q (.int ad t) s') (bad : ∀ e s', (∀ ad, fv ≠ some (k, ad)) → Fly b ns nw (Str.ofString "no such export: " ++ nm) e s' → E e s') :
    wpAny (model PySem.Challenge.pw_nm0155_01 w) A (call (.ref 406) [.ref x, .str nm tn, .int k u]) Q E s := by
  refine call_fn [((Str.ofString "self"), some (.ref x)), ((Str.ofString "name"), some (.str nm tn)), ((Str.ofString "sort"), some (.int k u))] [((Str.ofString "self"), .ref x), ((Str.ofString "name"), .str nm tn), ((Str.ofString "sort"), .int k u)] Z S a (by k_is) (by k_is) (BindsTo.of_eq (by with_unfolding_all rfl)) (by rfl) (by decide) (by rfl) (by wtm_at "M.vals") (by wtm_at "M.locs") (by rfl) (by rfl) (by rfl) ?_
  have hlen : (Str.ofString "no such export: ").length + nm.length ≤ 10000 := by
    have : (Str.ofString "no such export: ").length = 16 := by rfl
    omega
  wtm_at "M.enter"
  wtm_at "M.w"
  refine d_notin (by wtm_at "M.a") hex hes fun s' S' => ?_
  wtm_at "M.w"
  cases fv with
  | none =>
    rw [hv]
    wtm_at "M.w"
    refine s_cat (by wtm_at "M.a") hlen fun t s' S' => ?_
    wtm_at "M.w"
    wtm_at "M.mis"
    exact bad _ _ (fun ad q => by cases q) (by assumption)
  | some p =>
    obtain ⟨so, ad⟩ := p
    obtain ⟨tp, t1, t2, h1, h2⟩ := hv
    rw [h1]
    wtm_at "M.w"
    refine d_get (by wtm_at "M.a") hex h1 (fun s' S' => ?_) (by with_unfolding_all rfl)
    wtm_at "M.w"
    refine ite_of (fun hc => ?_) fun hc => ?_
    · wtm_at "M.w"
      refine s_cat (by wtm_at "M.a") hlen fun t s' S' => ?_
      wtm_at "M.w"
      wtm_at "M.mis"
      exact bad _ _ (fun ad q => by cases q; simp at hc) (by assumption)
    · wtm_at "M.w"
      refine d_get (by wtm_at "M.a") hex h1 (fun s' S' => ?_) (by with_unfolding_all rfl)
      wtm_at "M.w"
      have e : so = k := by simpa using hc
      subst e
      exact ok _ _ _ rfl (by wtm_at "M.a")
end

end
section
theorem kv_cons {α : Type} {l : List (Str × α)} {n : Str} {r : List Str} (h : l.map (·.1) = n :: r) : ∃ o l', l = (n, o) :: l' ∧ l'.map (·.1) = r := by
  cases l with
  | nil => cases h
  | cons p l' =>
    obtain ⟨x, o⟩ := p
    rw [List.map_cons, List.cons.injEq] at h
    obtain ⟨rfl, h⟩ := h
    exact ⟨o, l', rfl, h⟩
theorem kv1 {α : Type} {l : List (Str × α)} {n1 : Str} (h : l.map (·.1) = [n1]) : ∃ c1, l = [(n1, c1)] := by
  obtain ⟨c, l', rfl, h2⟩ := kv_cons h; rw [List.map_eq_nil_iff.mp h2]; exact ⟨c, rfl⟩
theorem kv2 {α : Type} {l : List (Str × α)} {n1 n2 : Str} (h : l.map (·.1) = [n1, n2]) : ∃ c1 c2, l = [(n1, c1), (n2, c2)] := by
  obtain ⟨c, l', rfl, h2⟩ := kv_cons h; obtain ⟨c1, rfl⟩ := kv1 h2; exact ⟨_, _, rfl⟩
theorem kv3 {α : Type} {l : List (Str × α)} {n1 n2 n3 : Str} (h : l.map (·.1) = [n1, n2, n3]) : ∃ c1 c2 c3, l = [(n1, c1), (n2, c2), (n3, c3)] := by
  obtain ⟨c, l', rfl, h2⟩ := kv_cons h; obtain ⟨c1, c2, rfl⟩ := kv2 h2; exact ⟨_, _, _, rfl⟩
theorem cells4 {cs : List (Str × Addr)} {n1 n2 n3 n4 : Str} (h : cs.map (·.1) = [n1, n2, n3, n4]) : ∃ c1 c2 c3 c4, cs = [(n1, c1), (n2, c2), (n3, c3), (n4, c4)] := by
  obtain ⟨c, l', rfl, h2⟩ := kv_cons h; obtain ⟨c1, c2, c3, rfl⟩ := kv3 h2; exact ⟨_, _, _, _, rfl⟩
theorem cells3 {cs : List (Str × Addr)} {n1 n2 n3 : Str} (h : cs.map (·.1) = [n1, n2, n3]) : ∃ c1 c2 c3, cs = [(n1, c1), (n2, c2), (n3, c3)] := kv3 h
theorem cells2 {cs : List (Str × Addr)} {n1 n2 : Str} (h : cs.map (·.1) = [n1, n2]) : ∃ c1 c2, cs = [(n1, c1), (n2, c2)] := kv2 h
theorem cells1 {cs : List (Str × Addr)} {n1 : Str} (h : cs.map (·.1) = [n1]) : ∃ c1, cs = [(n1, c1)] := kv1 h
theorem vars2 {lv : Vars} {n1 n2 : Str} (h : lv.map (·.1) = [n1, n2]) : ∃ o1 o2, lv = [(n1, o1), (n2, o2)] := kv2 h
theorem vars3 {lv : Vars} {n1 n2 n3 : Str} (h : lv.map (·.1) = [n1, n2, n3]) : ∃ o1 o2 o3, lv = [(n1, o1), (n2, o2), (n3, o3)] := kv3 h
def posn (it : List Int) (y : Int) (m : Nat) : List Int := ((List.range m).filter fun (i : Nat) => it[i]? == some y).map fun (i : Nat) => (i : Int)
theorem posn_yes {it : List Int} {y : Int} {m : Nat} (h : it[m]? = some y) : posn it y (m + 1) = posn it y m ++ [(m : Int)] := by
  unfold posn; rw [List.range_succ, List.filter_append]; simp [h]
theorem posn_no {it : List Int} {y : Int} {m : Nat} (h : it[m]? ≠ some y) : posn it y (m + 1) = posn it y m := by
  unfold posn; rw [List.range_succ, List.filter_append]; simp [h]
theorem posn_none {it : List Int} {y : Int} : ∀ {m : Nat}, (∀ i, i < m → it[i]? ≠ some y) → posn it y m = []
  | 0, _ => rfl
  | m + 1, h => by rw [posn_no (h m (by omega)), posn_none fun i hi => h i (by omega)]
theorem posn_first {it : List Int} {y : Int} {j : Nat} (hj : it[j]? = some y) (hno : ∀ i, i < j → it[i]? ≠ some y) : ∀ {m : Nat}, j < m → ∃ r, posn it y m = (j : Int) :: r
  | 0, h => by omega
  | m + 1, h => by
    by_cases e : m = j
    · subst e; exact ⟨[], by rw [posn_yes hj, posn_none hno]; rfl⟩
    · obtain ⟨r, hr⟩ := posn_first hj hno (m := m) (by omega)
      by_cases q : it[m]? = some y
      · exact ⟨r ++ [(m : Int)], by rw [posn_yes q, hr]; rfl⟩
      · exact ⟨r, by rw [posn_no q, hr]⟩
theorem posn_len {it : List Int} {y : Int} {m : Nat} : (posn it y m).length ≤ m := by
  unfold posn; rw [List.length_map]; exact Nat.le_trans (List.length_filter_le _ _) (by simp)
theorem ints_snoc {vs : List Value} {ns : List Int} {k : Int} {t : Tok} (h : IntsAre vs ns) : IntsAre (vs ++ [.int k t]) (ns ++ [k]) := h.append (.cons _ _ .nil)
theorem take_snoc {α : Type} {l : List α} {i : Nat} {x : α} (h : l[i]? = some x) : l.take i ++ [x] = l.take (i + 1) := by
  rw [List.take_add_one, h]; rfl
section
variable {w : World} {A : Around} {E : Value → Shared → Prop} {s : Shared} {b : Shared} {ns : List (Addr × Vars)} {nw nw' : List (Addr × Sh)} {n : Nat} {x dx m kk a0 a1 a2 a3 el da ex rw r0 r1 r2 r3 : Addr} {v0 v1 v2 v3 : List Value} {i0 i1 i2 i3 : List Int}

/-- a table of a code object, whatever it holds -/
def aTbs : Sh := fun o => ∃ ps, o = tabObj ps
theorem Sx.shape {p : Addr} {f g : Sh} (h : ∀ o, f o → g o) (S : Sx b ns ((p, f) :: nw) s) : Sx b ns ((p, g) :: nw) s :=
  ⟨⟨S.st.keep, S.st.held, fun q hq => by
    cases hq with
    | head => obtain ⟨⟨o, e, r⟩, z⟩ := S.st.objs _ (.head _); exact ⟨⟨o, e, h _ r⟩, z⟩
    | tail _ hq => exact S.st.objs _ (.tail _ hq), S.st.nd⟩, S.g, S.o⟩
theorem Sx.tb {p : Addr} {ps : Array Value} (S : Sx b ns ((p, anObj (tabObj ps)) :: nw) s) : Sx b ns ((p, aTbs) :: nw) s := S.shape fun _ h => ⟨_, h⟩

set_option maxHeartbeats 4000000 in
theorem lists_spec {Q : Value → Shared → Prop} (Z : Bs w b.heap) (S : Sx b ns ((694, anObj (tabObj #[])) :: nw) s) (a : Ar A (n + 20) (ns.map (·.1))) (hx : (x, aIns 423 dx) ∈ nw) (hdx : (dx, aFld (instF m kk a0 a1 a2 a3 el da ex)) ∈ nw)
    (h0 : (a0, aList v0) ∈ nw) (h1 : (a1, aList v1) ∈ nw) (h2 : (a2, aList v2) ∈ nw) (h3 : (a3, aList v3) ∈ nw) (hr : (rw, aList [.ref r0, .ref r1, .ref r2, .ref r3]) ∈ nw) (k0 : (r0, aList v0) ∈ nw) (k1 : (r1, aList v1) ∈ nw) (k2 : (r2, aList v2) ∈ nw) (k3 : (r3, aList v3) ∈ nw)
    (j0 : IntsAre v0 i0) (j1 : IntsAre v1 i1) (j2 : IntsAre v2 i2) (j3 : IntsAre v3 i3) (l0 : v0.length ≤ 4) (l1 : v1.length ≤ 4) (l2 : v2.length ≤ 4) (l3 : v3.length ≤ 4)
    (ret : ∀ s', Sx b ns ((694, aTbs) :: nw) s' → Q (.bool true) s') : wpAny (model PySem.Challenge.pw_nm0155_01 w) A (call (.ref 697) [.ref x, .ref rw]) Q E s := by
  refine call_fnC [((Str.ofString "heard"), none), ((Str.ofString "places"), none), ((Str.ofString "told"), none)] [((Str.ofString "sort"), none), ((Str.ofString "address"), none), ((Str.ofString "rows"), some (.ref rw)), ((Str.ofString "made"), some (.ref x))] [((Str.ofString "made"), .ref x), ((Str.ofString "rows"), .ref rw)] Z S a (by k_is) (by k_is) (BindsTo.of_eq (by with_unfolding_all rfl)) (by rfl) (by rfl) (by rfl) (by wtm_at "M.vals") (by rfl) (by show List.Nodup [(Str.ofString "sort"), (Str.ofString "address"), (Str.ofString "rows"), (Str.ofString "made")]; decide) (by wtm_at "M.vals") (by rfl) (by rfl) (by rfl) ?_
  intro A' env s cs hcs hcode hq V tp a S
  obtain ⟨c1, c2, c3, c4, rfl⟩ := cells4 hcs
  dsimp only [cellEntries, List.cons_append, List.nil_append] at V S
  have pick : ∀ {k : Int}, 0 ≤ k → k < 4 → ∃ l r vs it, [Value.ref a0, .ref a1, .ref a2, .ref a3][k.toNat]? = some (.ref l) ∧ [Value.ref r0, .ref r1, .ref r2, .ref r3][k.toNat]? = some (.ref r) ∧ (l, aList vs) ∈ nw ∧ (r, aList vs) ∈ nw ∧ IntsAre vs it ∧ vs.length ≤ 4 := by
    intro k h h'
    have : k = 0 ∨ k = 1 ∨ k = 2 ∨ k = 3 := by omega
    rcases this with rfl | rfl | rfl | rfl
    · exact ⟨_, _, _, _, rfl, rfl, h0, k0, j0, l0⟩
    · exact ⟨_, _, _, _, rfl, rfl, h1, k1, j1, l1⟩
    · exact ⟨_, _, _, _, rfl, rfl, h2, k2, j2, l2⟩
    · exact ⟨_, _, _, _, rfl, rfl, h3, k3, j3, l3⟩
  wtm_at "M.w"
  refine p_range (m := 8) (by wtm_at "M.a") (by decide) (by decide) (by decide) fun I s S => ?_
  refine x_loop (wk_range a.hd I _ _) (fun i ns' nw' => ∃ hv st tb, ns' = (env.locals, [((Str.ofString "heard"), hv), ((Str.ofString "places"), none), ((Str.ofString "told"), none)]) :: ns ∧
    nw' = (c1, aCell st) :: (c2, aCell none) :: (c3, aCell (some (.ref rw))) :: (c4, aCell (some (.ref x))) :: tb ∧ (tb = (694, anObj (tabObj #[])) :: nw ∨
     ∃ c, tb = (694, anObj (tabObj (#[] ++ #[rawInt ((339 : Nat) : Int), rawInt ((27 : Nat) : Int), .ref c]))) :: (c, aCode (env.qual ++ Str.ofString "<lambda>")) :: nw)) (fun _ _ _ _ => trivial) S ⟨_, _, _, rfl, rfl, .inl rfl⟩ (fun i ns' nw' s v E' hi hJ hv S => ?_) (fun ns' nw' s hJ S => ?_) (fun _ => rfl)
  · clear ret
    obtain ⟨t, rfl⟩ := hv
    obtain ⟨hv, st, tb, rfl, rfl, hT⟩ := hJ
    wtm_at "M.w"
    refine lam_any (c := 696) (P := 694) Z (by wtm_at "M.a") (by wtm_at "M.a") hcode Z.cd.2.2.2.1 (by rcases hT with rfl | ⟨c, rfl⟩; exact .inl (by wtm_at "M.pk"); exact .inr ⟨c, by wtm_at "M.pk"⟩) (clos_of V (by with_unfolding_all rfl)) (by rfl) fun c f s S => ?_
    clear hT
    wtm_at "M.w"
    rename Sx b _ _ _ => S
    refine heard_same (G := fun v => 0 ≤ (-2 + (i : Int)) ∧ (-2 + (i : Int)) < 4 ∧ [Value.ref a0, .ref a1, .ref a2, .ref a3][(-2 + (i : Int)).toNat]? = some v) (F := fun x => x = Str.ofString "no such sort" ∧ ((-2 + (i : Int)) < 0 ∨ 4 ≤ (-2 + (i : Int)))) (n := n + 12) Z S (a.less (by wtm_at "M.le")) (.head _) (fun A₁ p s₁ Q₁ E₁ a₁ S₁ h₁ h₂ => ?_) (fun r k v s₁ g S₁ => ?_) (fun r k k' y s₁ g S₁ => ?_)
    · refine lam_call (n := n + 11) [] [] Z S₁ a₁ (by wtm_at "M.mem") (by wtm_at "M.mem") (fun _ _ => by with_unfolding_all rfl) (by rfl) (by decide) (by rfl) (by wtm_at "M.vals") (by wtm_at "M.locs") (by rfl) (by rfl) (by rfl) ?_
      wtm_at "M.enter"
      wtm_at "M.w"
      refine addresses_spec (n := n) Z (by wtm_at "M.a") (Ar.less (by assumption) (by wtm_at "M.le")) (by wtm_at "M.mem") (by wtm_at "M.mem") (fun v s₂ g0 g1 g2 S₂ => ?_) fun ex s₂ hc fl => ?_
      · wtm_at "M.w"
        exact h₁ _ _ ⟨g0, g1, g2⟩ (by wtm_at "M.a")
      · exact leave_next (by wtm_at "M.a") (by assumption) (by wtm_at "M.a") fl fun ex s' fl => h₂ _ _ _ ⟨rfl, hc⟩ fl
    · obtain ⟨g0, g1, g2⟩ := g
      obtain ⟨l, r', vs, it, p1, p2, p3, p4, p5, p6⟩ := pick g0 g1
      rw [p1] at g2
      cases g2
      wtm_at "M.w"
      refine ite_t ?_ (decide_eq_true g0)
      wtm_at "M.w"
      refine ite_t ?_ (decide_eq_true g1)
      wtm_at "M.w"
      refine g_list (by wtm_at "M.a") (by wtm_at "M.mem") g0 (by omega) p2 ?_ (by with_unfolding_all rfl)
      wtm_at "M.w"
      refine cmp_net 3 (by wtm_at "M.a") a (by wtm_at "M.mem") (by wtm_at "M.mem") (by wtm_at "M.a2") ?_
      wtm_at "M.w"
      exact LoopF.next ⟨_, _, _, rfl, rfl, .inr ⟨c, rfl⟩⟩ (Sx.pk (by wtm_at "M.a") (by wtm_at "M.pk"))
    · obtain ⟨rfl, g⟩ := g
      wtm_at "M.w"
      refine ite_of (fun q0 => ?_) fun q0 => ?_
      · wtm_at "M.w"
        refine ite_f ?_ (decide_eq_false (by have := of_decide_eq_true q0; omega))
        wtm_at "M.w"
        refine cmp_net 3 (by wtm_at "M.a") a (by wtm_at "M.mem") (by wtm_at "M.mem") (by wtm_at "M.a2") ?_
        wtm_at "M.w"
        exact LoopF.next ⟨_, _, _, rfl, rfl, .inr ⟨c, rfl⟩⟩ (Sx.pk (by wtm_at "M.a") (by wtm_at "M.pk"))
      · wtm_at "M.w"
        refine cmp_net 3 (by wtm_at "M.a") a (by wtm_at "M.mem") (by wtm_at "M.mem") (by wtm_at "M.a2") ?_
        wtm_at "M.w"
        exact LoopF.next ⟨_, _, _, rfl, rfl, .inr ⟨c, rfl⟩⟩ (Sx.pk (by wtm_at "M.a") (by wtm_at "M.pk"))
  · obtain ⟨hv, st, tb, rfl, rfl, hJ⟩ := hJ
    have S : Sx b ((env.locals, [((Str.ofString "heard"), hv), ((Str.ofString "places"), none), ((Str.ofString "told"), none)]) :: ns) ((694, aTbs) :: (c1, aCell st) :: (c2, aCell none) :: (c3, aCell (some (.ref rw))) :: (c4, aCell (some (.ref x))) :: nw) s := by
      rcases hJ with rfl | ⟨c, rfl⟩
      · exact (S.pk (nw' := (694, anObj (tabObj #[])) :: (c1, aCell st) :: (c2, aCell none) :: (c3, aCell (some (.ref rw))) :: (c4, aCell (some (.ref x))) :: nw) (by wtm_at "M.pk")).tb
      · exact (S.pk (nw' := (694, anObj (tabObj _)) :: (c1, aCell st) :: (c2, aCell none) :: (c3, aCell (some (.ref rw))) :: (c4, aCell (some (.ref x))) :: nw) (by wtm_at "M.pk")).tb
    clear hJ
    obtain ⟨nw, up, S, ret⟩ : ∃ N, (∀ p ∈ nw, p ∈ N) ∧ Sx b ((env.locals, [((Str.ofString "heard"), hv), ((Str.ofString "places"), none), ((Str.ofString "told"), none)]) :: ns) ((c1, aCell st) :: (c2, aCell none) :: (c3, aCell (some (.ref rw))) :: (c4, aCell (some (.ref x))) :: N) s ∧ (∀ s', Sx b ns N s' → Q (.bool true) s') :=
      ⟨(694, aTbs) :: nw, fun _ h => List.mem_cons_of_mem _ h, S.pk (by wtm_at "M.pk"), ret⟩
    replace hx := up _ hx
    replace hdx := up _ hdx
    replace hr := up _ hr
    replace pick : ∀ {k : Int}, 0 ≤ k → k < 4 → ∃ l r vs it, [Value.ref a0, .ref a1, .ref a2, .ref a3][k.toNat]? = some (.ref l) ∧ [Value.ref r0, .ref r1, .ref r2, .ref r3][k.toNat]? = some (.ref r) ∧ (l, aList vs) ∈ nw ∧ (r, aList vs) ∈ nw ∧ IntsAre vs it ∧ vs.length ≤ 4 := fun h h' => by
      obtain ⟨l, r, vs, it, p1, p2, p3, p4, p5, p6⟩ := pick h h'
      exact ⟨l, r, vs, it, p1, p2, up _ p3, up _ p4, p5, p6⟩
    clear up
    wtm_at "M.w"
    refine p_range (m := 4) (by wtm_at "M.a") (by decide) (by decide) (by decide) fun I s S => ?_
    refine x_loop (wk_range a.hd I _ _) (fun i ns' nw' => ∃ pv tv st at', ns' = (env.locals, [((Str.ofString "heard"), hv), ((Str.ofString "places"), pv), ((Str.ofString "told"), tv)]) :: ns ∧
      nw' = (c1, aCell st) :: (c2, aCell at') :: (c3, aCell (some (.ref rw))) :: (c4, aCell (some (.ref x))) :: nw) (fun _ _ _ _ => trivial) S ⟨_, _, _, _, rfl, rfl⟩ (fun i ns' nw' s v E' hi hJ hv S => ?_) (fun ns' nw' s hJ S => ?_) (fun _ => rfl)
    · clear ret
      obtain ⟨ts, rfl⟩ := hv
      obtain ⟨pv, tv, st, at', rfl, rfl⟩ := hJ
      obtain ⟨l, r', vs, it, p1, p2, p3, p4, p5, p6⟩ := pick (k := 0 + (i : Int)) (by omega) (by omega)
      wtm_at "M.w"
      refine g_list (by wtm_at "M.a") (by wtm_at "M.mem") (by omega) (by omega) p2 ?_ (by with_unfolding_all rfl)
      wtm_at "M.w"
      refine c_len (by wtm_at "M.a") (by wtm_at "M.mem") (by omega) fun t s S => ?_
      wtm_at "M.w"
      refine p_range (m := vs.length) (by wtm_at "M.a") (by omega) (by decide) (by omega) fun I2 s S => ?_
      refine comp_block (n := vs.length) (names' := [((Str.ofString ".0"), .local), ((Str.ofString "index"), .local), ((Str.ofString "made"), .cell), ((Str.ofString "sort"), .cell)]) [((Str.ofString ".0"), none), ((Str.ofString "index"), none)] V (wk_range a.hd I2 0 vs.length) (by rfl) (by rfl) (by rfl) (by rfl) (by decide) (by rfl) (by wtm_at "M.vals") (fun j ys nw' => ys = vs.take j ∧ nw' = _) (fun _ _ _ _ => trivial) (fun _ _ _ => trivial) (fun j ys nw' h => by rw [h.1, List.length_take]; omega) S ⟨by simp, rfl⟩ (fun j ys nw' s v E' C lv cenv D hj hJ hv hC V' hlv S => ?_) (fun ys nw' s D hJ S => ?_) (fun _ => rfl)
      · obtain ⟨rfl, rfl⟩ := hJ
        obtain ⟨t, rfl⟩ := hv
        obtain ⟨o1, o2, rfl⟩ := vars2 (n1 := (Str.ofString ".0")) (n2 := (Str.ofString "index")) hlv
        subst hC
        wtm_at "M.w"
        refine address_spec (n := n + 10) Z (by wtm_at "M.a") (Ar.less (m := n + 10 + 6) (a.more (L := cenv.locals)) (by wtm_at "M.le")) (by wtm_at "M.mem") (by wtm_at "M.mem") (by omega) (by omega) p1 (by wtm_at "M.mem") (by omega) (by omega) (by omega) fun v s hv S => ?_
        rw [show (0 + (j : Int)).toNat = j from by omega] at hv
        wtm_at "M.w"
        exact ⟨_, _, rfl, ⟨take_snoc hv, rfl⟩, (by wtm_at "M.a")⟩
      · obtain ⟨rfl, rfl⟩ := hJ
        rw [List.take_length] at S
        wtm_at "M.w"
        refine g_list (by wtm_at "M.a") (by wtm_at "M.mem") (by omega) (by omega) p2 ?_ (by with_unfolding_all rfl)
        wtm_at "M.w"
        refine cmp_nel 3 (by wtm_at "M.a") a (by wtm_at "M.mem") (by wtm_at "M.mem") (by wtm_at "M.a2") ?_
        wtm_at "M.w"
        refine p_range (m := 5) (by wtm_at "M.a") (by decide) (by decide) (by decide) fun I3 s S => ?_
        refine x_loop (wk_range a.hd I3 _ _) (fun q ns' nw' => ∃ pv tv at', ns' = (env.locals, [((Str.ofString "heard"), hv), ((Str.ofString "places"), pv), ((Str.ofString "told"), tv)]) :: ns ∧
          nw' = (I, aRI 0 4 (i + 1)) :: (c1, aCell (some (Value.int (0 + (i : Int)) ts))) :: (c2, aCell at') :: (c3, aCell (some (.ref rw))) :: (c4, aCell (some (.ref x))) :: nw) (fun _ _ _ _ => trivial) (S.pk (nw' := (I3, _) :: (I, _) :: (c1, _) :: (c2, _) :: (c3, _) :: (c4, _) :: nw) (by wtm_at "M.pk")) ⟨_, _, _, rfl, rfl⟩ (fun q ns' nw' s v E' hq hJ hv S => ?_) (fun ns' nw' s hJ S => ?_) (fun _ => rfl)
        · obtain ⟨tq, rfl⟩ := hv
          obtain ⟨pv, tv, at', rfl, rfl⟩ := hJ
          wtm_at "M.w"
          refine g_list (by wtm_at "M.a") (by wtm_at "M.mem") (by omega) (by omega) p2 ?_ (by with_unfolding_all rfl)
          wtm_at "M.w"
          refine c_len (by wtm_at "M.a") (by wtm_at "M.mem") (by omega) fun t s S => ?_
          wtm_at "M.w"
          refine p_range (m := vs.length) (by wtm_at "M.a") (by omega) (by decide) (by omega) fun I4 s S => ?_
          refine comp_blockS (n := vs.length) (names' := [((Str.ofString ".0"), .local), ((Str.ofString "index"), .local), ((Str.ofString "address"), .cell), ((Str.ofString "rows"), .cell), ((Str.ofString "sort"), .cell)]) [((Str.ofString ".0"), none), ((Str.ofString "index"), none)] V (wk_range a.hd I4 0 vs.length) (by wtm_at "M.mem") (fun D => by wtm_at "M.putv") (by rfl) (by rfl) (by rfl) (by rfl) (by decide) (by rfl) (by wtm_at "M.vals") (fun j ys nw' => IntsAre ys (posn it (0 + (q : Int)) j) ∧ j ≤ 4 ∧ nw' = _) (fun _ _ _ _ => trivial) (fun _ _ _ => trivial) (fun j ys nw' h => ?_) S ⟨.nil, by omega, rfl⟩ (fun j ys nw' s v E' C lv cenv D hj hJ hv hC V' hlv S => ?_) (fun ys nw' s D hJ S => ?_) (fun _ => rfl)
          · have := h.1.length
            have := posn_len (it := it) (y := 0 + (q : Int)) (m := j)
            have := h.2.1
            omega
          · obtain ⟨hI, hj4, rfl⟩ := hJ
            obtain ⟨t, rfl⟩ := hv
            obtain ⟨o1, o2, rfl⟩ := vars2 (n1 := (Str.ofString ".0")) (n2 := (Str.ofString "index")) hlv
            subst hC
            wtm_at "M.w"
            refine g_list (by wtm_at "M.a") (by wtm_at "M.mem") (by omega) (by omega) p2 ?_ (by with_unfolding_all rfl)
            wtm_at "M.w"
            have hj : vs[j]? = some vs[j] := List.getElem?_eq_getElem hj
            obtain ⟨z, tz, e1, e2⟩ := p5.at j _ hj
            rw [e1] at hj
            refine g_list (by wtm_at "M.a") (by wtm_at "M.mem") (by omega) (by omega) (by rw [show (0 + (j : Int)).toNat = j from by omega]; exact hj) ?_ (by with_unfolding_all rfl)
            wtm_at "M.w"
            refine ite_of (fun hz => ?_) fun hz => ?_
            · wtm_at "M.w"
              refine ⟨_, _, rfl, ⟨?_, by omega, rfl⟩, by wtm_at "M.a"⟩
              rw [posn_yes (by rw [e2]; simpa using hz), show (0 + (j : Int)) = (j : Int) from by omega]
              exact ints_snoc hI
            · refine ⟨_, _, rfl, ⟨?_, by omega, rfl⟩, by wtm_at "M.a"⟩
              rw [posn_no (by rw [e2]; simpa using hz)]
              exact hI
          · obtain ⟨hI, hj4, rfl⟩ := hJ
            have hlen := p5.length
            have hyl := hI.length
            wtm_at "M.w"
            refine index_of_spec (n := n + 10) Z (by wtm_at "M.a") (by exact a.less (m := n + 10 + 6) (by wtm_at "M.le")) (by wtm_at "M.mem") (by wtm_at "M.mem") (by omega) (by omega) p1 (by wtm_at "M.mem") p5 (by omega) (fun j t s g1 g2 g3 S => ?_) fun s g S => ?_
            · obtain ⟨rr, hp⟩ := posn_first g2 g3 (m := vs.length) (by omega)
              rw [hp] at hI hyl
              obtain ⟨t', ys', rfl, _⟩ := hI.cons_inv
              wtm_at "M.w"
              refine cmp_ne_len (by wtm_at "M.a") a (by wtm_at "M.mem") (by wtm_at "M.mem") (by simp) ?_
              wtm_at "M.w"
              refine ite_f ?_ (by simp)
              wtm_at "M.w"
              exact LoopF.next ⟨_, _, _, rfl, rfl⟩ (Sx.pk (by wtm_at "M.a") (by wtm_at "M.pk"))
            · have hp := posn_none (it := it) (y := 0 + (q : Int)) (m := vs.length) fun i _ => g i
              rw [hp] at hI
              cases hI
              wtm_at "M.w"
              refine cmp_nel 3 (by wtm_at "M.a") a (by wtm_at "M.mem") (by wtm_at "M.mem") (by wtm_at "M.a2") ?_
              wtm_at "M.w"
              refine n_none_none ?_
              wtm_at "M.w"
              exact LoopF.next ⟨_, _, _, rfl, rfl⟩ (Sx.pk (by wtm_at "M.a") (by wtm_at "M.pk"))
        · obtain ⟨pv, tv, at', rfl, rfl⟩ := hJ
          wtm_at "M.w"
          exact LoopF.next ⟨_, _, _, _, rfl, rfl⟩ (Sx.pk (by wtm_at "M.a") (by wtm_at "M.pk"))
    · obtain ⟨pv, tv, st, at', rfl, rfl⟩ := hJ
      wtm_at "M.w"
      exact ret _ (Sx.pk (by wtm_at "M.a") (by wtm_at "M.pk"))
end

end
section
section
variable {w : World} {A : Around} {E : Value → Shared → Prop} {s : Shared} {b : Shared} {ns : List (Addr × Vars)} {nw nw' : List (Addr × Sh)} {n : Nat} {x dx m kk a0 a1 a2 a3 el da ex pen l : Addr}

def Due (kvs : List (Str × Value)) (nw : List (Addr × Sh)) : Prop := ∀ nm v, valueAt kvs nm = some v → ∃ tp so ad t1 t2, v = .ref tp ∧ (tp, aTup [.int so t1, .int ad t2]) ∈ nw

theorem valueAt_map {k : Str} {v u : Value} {nm : Str} : ∀ {kvs : List (Str × Value)}, valueAt (kvs.map fun kv => if kv.1 = k then (kv.1, v) else kv) nm = some u → u = v ∨ valueAt kvs nm = some u
  | [], h => by cases h
  | (k', v') :: r, h => by
    unfold valueAt at h ⊢
    rw [List.map_cons, List.find?_cons] at h
    rw [List.find?_cons]
    by_cases e : k' = k
    · subst e
      simp only [if_true] at h
      by_cases e2 : k' = nm
      · simp only [e2, decide_true] at h ⊢
        simp at h; exact .inl h.symm
      · simp only [e2, decide_false] at h ⊢
        exact valueAt_map h
    · rw [if_neg (show ¬ (k', v').1 = k from e)] at h
      by_cases e2 : k' = nm
      · simp only [e2, decide_true] at h ⊢
        exact .inr h
      · simp only [e2, decide_false] at h ⊢
        exact valueAt_map h
theorem valueAt_stored_or {kvs : List (Str × Value)} {k : Str} {v u : Value} {nm : Str} (h : valueAt (stored kvs k v) nm = some u) : u = v ∨ valueAt kvs nm = some u := by
  unfold stored at h
  split at h
  · exact valueAt_map h
  · unfold valueAt at h ⊢
    rw [List.find?_append] at h
    cases q : List.find? (fun kv => decide (kv.1 = nm)) kvs with
    | some p => rw [q] at h; exact .inr h
    | none =>
      rw [q] at h
      simp only [Option.none_or, List.find?_cons, List.find?_nil] at h
      split at h
      · simp at h; exact .inl h.symm
      · cases h
theorem Due.stored {kvs : List (Str × Value)} {nw : List (Addr × Sh)} {k : Str} {tp : Addr} {so ad : Int} {t1 t2 : Tok} (h : Due kvs nw) : Due (PySem.stored kvs k (.ref tp)) ((tp, aTup [.int so t1, .int ad t2]) :: nw) := fun nm v hv => by
  rcases valueAt_stored_or hv with rfl | hv
  · exact ⟨_, _, _, _, _, rfl, .head _⟩
  · obtain ⟨tp, so, ad, t1, t2, e, m⟩ := h nm v hv
    exact ⟨tp, so, ad, t1, t2, e, .tail _ m⟩
set_option maxHeartbeats 4000000 in
theorem exports_spec {Q : Value → Shared → Prop} (Z : Bs w b.heap) (P : Pn b l) (S : Sx b ns ((699, anObj (tabObj #[])) :: (ex, aDic w []) :: nw) s) (a : Ar A (n + 20) (ns.map (·.1))) (hp : (pen, aPen l) ∈ nw) (hx : (x, aIns 423 dx) ∈ nw) (hdx : (dx, aFld (instF m kk a0 a1 a2 a3 el da ex)) ∈ nw) (hes : (ex == sysModules) = false)
    (ret : ∀ s', Sx b ns ((699, aTbs) :: nw) s' → Q (.bool true) s') : wpAny (model PySem.Challenge.pw_nm0155_01 w) A (call (.ref 704) [.ref pen, .ref x]) Q E s := by
  refine call_fnC [((Str.ofString "pen"), some (.ref pen)), ((Str.ofString "names"), none), ((Str.ofString "due"), none), ((Str.ofString "turn"), none), ((Str.ofString "heard"), none), ((Str.ofString "is_there"), none)] [((Str.ofString "sort"), none), ((Str.ofString "name"), none), ((Str.ofString "made"), some (.ref x))] [((Str.ofString "pen"), .ref pen), ((Str.ofString "made"), .ref x)] Z S a (by k_is) (by k_is) (BindsTo.of_eq (by with_unfolding_all rfl)) (by rfl) (by rfl) (by rfl) (by wtm_at "M.vals") (by rfl) (by show List.Nodup [(Str.ofString "sort"), (Str.ofString "name"), (Str.ofString "made")]; decide) (by wtm_at "M.vals") (by rfl) (by rfl) (by rfl) ?_
  intro A' env s cs hcs hcode hq V tp a S
  obtain ⟨c1, c2, c3, rfl⟩ := cells3 hcs
  dsimp only [cellEntries, List.cons_append, List.nil_append] at V S
  wtm_at "M.w"
  wtm_at "M.draw"
  intro v t s hv0 hv1 S
  wtm_at "M.w"
  refine p_range (m := v.toNat) (by wtm_at "M.a") (by omega) (by decide) (by omega) fun I s S => ?_
  obtain ⟨nl, d, t1, t2, t3, t4, hds, S⟩ : ∃ nl d t1 t2 t3 t4, (d == sysModules) = false ∧ Sx b ((env.locals, [((Str.ofString "pen"), some (.ref pen)), ((Str.ofString "names"), some (.ref nl)), ((Str.ofString "due"), some (.ref d)), ((Str.ofString "turn"), none), ((Str.ofString "heard"), none), ((Str.ofString "is_there"), none)]) :: ns)
    ((I, aRI 0 v.toNat 0) :: (nl, aList [.str (Str.ofString "a") t1, .str (Str.ofString "b") t2, .str (Str.ofString "a b") t3, .str (Str.ofString "") t4]) :: (d, aDic w []) :: (c1, aCell none) :: (c2, aCell none) :: (c3, aCell (some (.ref x))) :: (699, anObj (tabObj #[])) :: (ex, aDic w []) :: nw) s := ⟨_, _, _, _, _, _, by assumption, S.pk (by wtm_at "M.pk")⟩
  have pick : ∀ {k : Int}, 0 ≤ k → k < 4 → ∃ nm t, [Value.str (Str.ofString "a") t1, .str (Str.ofString "b") t2, .str (Str.ofString "a b") t3, .str (Str.ofString "") t4][k.toNat]? = some (.str nm t) ∧ nm.length ≤ 10 := by
    intro k h h'
    have : k = 0 ∨ k = 1 ∨ k = 2 ∨ k = 3 := by omega
    rcases this with rfl | rfl | rfl | rfl
    · exact ⟨_, _, rfl, by decide⟩
    · exact ⟨_, _, rfl, by decide⟩
    · exact ⟨_, _, rfl, by decide⟩
    · exact ⟨_, _, rfl, by decide⟩
  refine x_loop (wk_range a.hd I _ _) (fun i ns' nw' => ∃ tv kvs nwT, ns' = (env.locals, [((Str.ofString "pen"), some (.ref pen)), ((Str.ofString "names"), some (.ref nl)), ((Str.ofString "due"), some (.ref d)), ((Str.ofString "turn"), tv), ((Str.ofString "heard"), none), ((Str.ofString "is_there"), none)]) :: ns ∧
    nw' = (nl, aList [.str (Str.ofString "a") t1, .str (Str.ofString "b") t2, .str (Str.ofString "a b") t3, .str (Str.ofString "") t4]) :: (d, aDic w kvs) :: (c1, aCell none) :: (c2, aCell none) :: (c3, aCell (some (.ref x))) :: (699, anObj (tabObj #[])) :: (ex, aDic w []) :: nwT ∧ (∃ T, nwT = T ++ nw) ∧ Due kvs nwT ∧ kvs.length ≤ i) (fun _ _ _ _ => trivial) S ⟨_, [], _, rfl, rfl, ⟨[], rfl⟩, (fun _ _ h => by cases h), Nat.le_refl _⟩ (fun i ns' nw' s v E' hi hJ hv S => ?_) (fun ns' nw' s hJ S => ?_) (fun _ => rfl)
  · clear ret
    obtain ⟨tv, rfl⟩ := hv
    obtain ⟨tv, kvs, nwT, rfl, rfl, ⟨T, rfl⟩, hD, hk⟩ := hJ
    have hp' := List.mem_append_right T hp
    wtm_at "M.w"
    wtm_at "M.draw"
    intro so t5 s s0 s1 S
    wtm_at "M.w"
    wtm_at "M.draw"
    intro ad t6 s q0 q1 S
    wtm_at "M.w"
    wtm_at "M.draw"
    intro kk t7 s k0 k1 S
    obtain ⟨nm, tn, e1, e2⟩ := pick k0 k1
    wtm_at "M.w"
    refine g_list (by wtm_at "M.a") (by wtm_at "M.mem") k0 (by omega) e1 ?_ (by with_unfolding_all rfl)
    wtm_at "M.w"
    refine d_set (by wtm_at "M.a") (by wtm_at "M.put") (by omega) fun s S => ?_
    wtm_at "M.w"
    exact LoopF.next ⟨_, _, (_, _) :: (T ++ nw), rfl, rfl, ⟨_ :: T, rfl⟩, hD.stored, Nat.le_trans (stored_length_le _ _ _) (by omega)⟩ (S.pk (by wtm_at "M.pk"))
  · clear pick
    obtain ⟨tv, kvs, nwT, rfl, rfl, ⟨T, rfl⟩, hD, hk⟩ := hJ
    have hp' := List.mem_append_right T hp
    have hx' := List.mem_append_right T hx
    have hdx' := List.mem_append_right T hdx
    obtain ⟨_, _, _, _, _, _, _, _, hnd⟩ := Heap.dictOf_iff.mp (S.dic (kvs := kvs) (d := d) (by wtm_at "M.mem"))
    wtm_at "M.w"
    refine d_update (kvs := []) (kvs2 := kvs) (by wtm_at "M.a") (by wtm_at "M.put") (by wtm_at "M.mem") (S.st.two (i := 6) (j := 1) rfl rfl (by decide)) hds (by simp; omega) fun s S => ?_
    rw [merged_nil_of_nodup _ hnd] at S
    wtm_at "M.w"
    refine p_list (by wtm_at "M.a") (by wtm_at "M.mem") fun I s S => ?_
    refine x_loop (wk_list a.hd I nl _) (fun i ns' nw' => ∃ hv iv st nt tb, ns' = (env.locals, [((Str.ofString "pen"), some (.ref pen)), ((Str.ofString "names"), some (.ref nl)), ((Str.ofString "due"), some (.ref d)), ((Str.ofString "turn"), tv), ((Str.ofString "heard"), hv), ((Str.ofString "is_there"), iv)]) :: ns ∧
      nw' = (nl, aList [.str (Str.ofString "a") t1, .str (Str.ofString "b") t2, .str (Str.ofString "a b") t3, .str (Str.ofString "") t4]) :: (d, aDic w kvs) :: (c1, aCell st) :: (c2, aCell nt) :: (c3, aCell (some (.ref x))) :: (ex, aDic w kvs) :: tb ∧
      (tb = (699, anObj (tabObj #[])) :: (T ++ nw) ∨ ∃ c, tb = (699, anObj (tabObj (#[] ++ #[rawInt ((358 : Nat) : Int), rawInt ((31 : Nat) : Int), .ref c]))) :: (c, aCode (env.qual ++ Str.ofString "<lambda>")) :: (T ++ nw))) (fun _ _ _ h => by obtain ⟨_, _, _, _, _, _, rfl, _⟩ := h; exact .head _) (S.pk (nw' := (I, _) :: (nl, _) :: (d, _) :: (c1, _) :: (c2, _) :: (c3, _) :: (ex, _) :: (699, _) :: (T ++ nw)) (by wtm_at "M.pk")) ⟨_, _, _, _, _, rfl, rfl, .inl rfl⟩ (fun i ns' nw' s v E' hi hJ hv S => ?_) (fun ns' nw' s hJ S => ?_) (fun _ => rfl)
    · clear ret
      obtain ⟨hv', iv, st, nt, tb, rfl, rfl, hT⟩ := hJ
      obtain ⟨nm, tn, rfl, hnl⟩ : ∃ nm t, v = .str nm t ∧ nm.length ≤ 10 := by
        have hi' : i = 0 ∨ i = 1 ∨ i = 2 ∨ i = 3 := by simp at hi; omega
        rcases hi' with rfl | rfl | rfl | rfl <;> (cases hv; exact ⟨_, _, rfl, by decide⟩)
      have hcat : (Str.ofString "no such export: ").length + nm.length ≤ 10000 := by
        have h16 : (Str.ofString "no such export: ").length = 16 := by rfl
        omega
      wtm_at "M.w"
      refine p_range (m := 4) (by wtm_at "M.a") (by decide) (by decide) (by decide) fun I3 s S => ?_
      refine x_loop (wk_range a.hd I3 _ _) (fun q ns' nw' => ∃ hv iv st tb, ns' = (env.locals, [((Str.ofString "pen"), some (.ref pen)), ((Str.ofString "names"), some (.ref nl)), ((Str.ofString "due"), some (.ref d)), ((Str.ofString "turn"), tv), ((Str.ofString "heard"), hv), ((Str.ofString "is_there"), iv)]) :: ns ∧
        nw' = (I, aLI nl (i + 1)) :: (nl, aList [.str (Str.ofString "a") t1, .str (Str.ofString "b") t2, .str (Str.ofString "a b") t3, .str (Str.ofString "") t4]) :: (d, aDic w kvs) :: (c1, aCell st) :: (c2, aCell (some (.str nm tn))) :: (c3, aCell (some (.ref x))) :: (ex, aDic w kvs) :: tb ∧
        (tb = (699, anObj (tabObj #[])) :: (T ++ nw) ∨ ∃ c, tb = (699, anObj (tabObj (#[] ++ #[rawInt ((358 : Nat) : Int), rawInt ((31 : Nat) : Int), .ref c]))) :: (c, aCode (env.qual ++ Str.ofString "<lambda>")) :: (T ++ nw))) (fun _ _ _ _ => trivial) S ⟨_, _, _, _, rfl, rfl, hT⟩ (fun q ns' nw' s v E' hq' hJ hv S => ?_) (fun ns' nw' s hJ S => ?_) (fun _ => rfl)
      · clear hT
        obtain ⟨hv', iv, st, tb, rfl, rfl, hT⟩ := hJ
        obtain ⟨tq, rfl⟩ := hv
        obtain ⟨fv, hfv⟩ : ∃ fv : Option (Int × Int), match fv with | none => valueAt kvs nm = none | some (so, ad) => ∃ tp t1 t2, valueAt kvs nm = some (.ref tp) ∧ (tp, aTup [.int so t1, .int ad t2]) ∈ T ++ nw := by
          cases q : valueAt kvs nm with
          | none => exact ⟨none, rfl⟩
          | some v =>
            obtain ⟨tp, so, ad, t1, t2, rfl, m⟩ := hD _ _ q
            exact ⟨some (so, ad), tp, t1, t2, rfl, m⟩
        wtm_at "M.w"
        refine lam_any (c := 703) (P := 699) Z (by wtm_at "M.a") (by wtm_at "M.a") hcode Z.cd.2.2.1 (by rcases hT with rfl | ⟨c, rfl⟩; exact .inl (by wtm_at "M.pk"); exact .inr ⟨c, by wtm_at "M.pk"⟩) (clos_of V (by with_unfolding_all rfl)) (by rfl) fun c f s S => ?_
        clear hT
        wtm_at "M.w"
        refine heard_same (G := fun v => ∃ ad t, fv = some (0 + (q : Int), ad) ∧ v = .int ad t) (F := fun y => y = Str.ofString "no such export: " ++ nm ∧ ∀ ad, fv ≠ some (0 + (q : Int), ad)) (n := n + 12) Z (by wtm_at "M.a") (by exact a.less (by wtm_at "M.le")) (.head _) (fun A₁ p s₁ Q₁ E₁ a₁ S₁ h₁ h₂ => ?_) (fun r k v s₁ g S₁ => ?_) (fun r k k' y s₁ g S₁ => ?_)
        · refine lam_call (n := n + 11) [] [] Z S₁ a₁ (by wtm_at "M.mem") (by wtm_at "M.mem") (fun _ _ => by with_unfolding_all rfl) (by rfl) (by decide) (by rfl) (by wtm_at "M.vals") (by wtm_at "M.locs") (by rfl) (by rfl) (by rfl) ?_
          wtm_at "M.enter"
          wtm_at "M.w"
          refine exported_spec (n := n) (kvs := kvs) (fv := fv) Z (by wtm_at "M.a") (Ar.less (by assumption) (by wtm_at "M.le")) (by wtm_at "M.mem") (by wtm_at "M.mem") (by wtm_at "M.mem") hes (by omega) ?_ (fun ad t s₂ g S₂ => ?_) fun e s₂ hc fl => ?_
          · cases fv with
            | none => exact hfv
            | some p => obtain ⟨tp, t1, t2, e, m⟩ := hfv; exact ⟨tp, t1, t2, e, by wtm_at "M.mem"⟩
          · wtm_at "M.w"
            exact h₁ _ _ ⟨_, _, g, rfl⟩ (by wtm_at "M.a")
          · exact leave_next (by wtm_at "M.a") (by assumption) (by wtm_at "M.a") fl fun ex s' fl => h₂ _ _ _ ⟨rfl, hc⟩ fl
        · obtain ⟨ad, t, rfl, rfl⟩ := g
          obtain ⟨tp, u1, u2, e1, m⟩ := hfv
          wtm_at "M.w"
          refine d_in (kvs := kvs) (by wtm_at "M.a") (by wtm_at "M.mem") hds fun s S => ?_
          rw [e1]
          wtm_at "M.w"
          refine d_get (kvs := kvs) (by wtm_at "M.a") (by wtm_at "M.mem") e1 (fun s S => ?_) (by with_unfolding_all rfl)
          wtm_at "M.w"
          refine ite_t ?_ (by simp)
          wtm_at "M.w"
          refine d_get (kvs := kvs) (by wtm_at "M.a") (by wtm_at "M.mem") e1 (fun s S => ?_) (by with_unfolding_all rfl)
          wtm_at "M.w"
          refine cmp_net 3 (by wtm_at "M.a") a (by wtm_at "M.mem") (by wtm_at "M.mem") (by wtm_at "M.a2") ?_
          wtm_at "M.w"
          exact LoopF.next ⟨_, _, _, _, rfl, rfl, .inr ⟨c, rfl⟩⟩ (Sx.pk (by wtm_at "M.a") (by wtm_at "M.pk"))
        · obtain ⟨rfl, g⟩ := g
          wtm_at "M.w"
          refine d_in (kvs := kvs) (by wtm_at "M.a") (by wtm_at "M.mem") hds fun s S => ?_
          cases fv with
          | none =>
            rw [hfv]
            wtm_at "M.w"
            refine s_cat (by wtm_at "M.a") hcat fun t s S => ?_
            wtm_at "M.w"
            refine cmp_net 3 (by wtm_at "M.a") a (by wtm_at "M.mem") (by wtm_at "M.mem") (by wtm_at "M.a2") ?_
            wtm_at "M.w"
            exact LoopF.next ⟨_, _, _, _, rfl, rfl, .inr ⟨c, rfl⟩⟩ (Sx.pk (by wtm_at "M.a") (by wtm_at "M.pk"))
          | some p =>
            obtain ⟨so, ad⟩ := p
            obtain ⟨tp, u1, u2, e1, m⟩ := hfv
            rw [e1]
            wtm_at "M.w"
            refine d_get (kvs := kvs) (by wtm_at "M.a") (by wtm_at "M.mem") e1 (fun s S => ?_) (by with_unfolding_all rfl)
            wtm_at "M.w"
            refine ite_f ?_ (by have := g ad; simp at this ⊢; exact this)
            wtm_at "M.w"
            refine s_cat (by wtm_at "M.a") hcat fun t s S => ?_
            wtm_at "M.w"
            refine cmp_net 3 (by wtm_at "M.a") a (by wtm_at "M.mem") (by wtm_at "M.mem") (by wtm_at "M.a2") ?_
            wtm_at "M.w"
            exact LoopF.next ⟨_, _, _, _, rfl, rfl, .inr ⟨c, rfl⟩⟩ (Sx.pk (by wtm_at "M.a") (by wtm_at "M.pk"))
      · obtain ⟨hv', iv, st, tb, rfl, rfl, hT⟩ := hJ
        wtm_at "M.w"
        exact LoopF.next ⟨_, _, _, _, _, rfl, rfl, hT⟩ (Sx.pk (by wtm_at "M.a") (by wtm_at "M.pk"))
    · obtain ⟨hv', iv, st, nt, tb, rfl, rfl, hT⟩ := hJ
      have S : Sx b ((env.locals, [((Str.ofString "pen"), some (.ref pen)), ((Str.ofString "names"), some (.ref nl)), ((Str.ofString "due"), some (.ref d)), ((Str.ofString "turn"), tv), ((Str.ofString "heard"), hv'), ((Str.ofString "is_there"), iv)]) :: ns) ((699, aTbs) :: (T ++ nw)) s := by
        rcases hT with rfl | ⟨c, rfl⟩ <;> exact (S.pk (nw' := (699, anObj (tabObj _)) :: (T ++ nw)) (by wtm_at "M.pk")).tb
      wtm_at "M.w"
      exact ret _ (Sx.sub (by wtm_at "M.a") (.cons_cons _ (List.sublist_append_right _ _)))
end

end
section
abbrev modF (k i f t m g e el da cu : Addr) : List (Str × Value) := [((Str.ofString "kinds"), .ref k), ((Str.ofString "imports"), .ref i), ((Str.ofString "funcs"), .ref f), ((Str.ofString "tables"), .ref t), ((Str.ofString "memories"), .ref m), ((Str.ofString "globals"), .ref g), ((Str.ofString "exports"), .ref e), ((Str.ofString "start"), .none), ((Str.ofString "elems"), .ref el), ((Str.ofString "datas"), .ref da), ((Str.ofString "customs"), .ref cu)]
section
variable {w : World} {A : Around} {E : Value → Shared → Prop} {s : Shared} {b : Shared} {ns : List (Addr × Vars)} {nw nw' : List (Addr × Sh)} {n : Nat}

set_option maxHeartbeats 4000000 in
theorem module_spec {Q : Value → Shared → Prop} (Z : Bs w b.heap) (S : Sx b ns nw s) (a : Ar A (n + 5) (ns.map (·.1)))
    (ret : ∀ x dx k i f t m g e el da cu s', Sx b ns ((x, aIns 674 dx) :: (dx, aFld (modF k i f t m g e el da cu)) :: (k, aList []) :: nw) s' → Q (.ref x) s') : wpAny (model PySem.Challenge.pw_nm0155_01 w) A (call (.ref 674) []) Q E s := by
  refine make Z S a (by k_is) (fI := 575) (by k_is) (by k_is) fun A' x dx s a S => ?_
  refine call_fnR [((Str.ofString "self"), some (.ref x))] [((Str.ofString "self"), .ref x)] Z S a (by k_is) (by k_is) (BindsTo.of_eq (by with_unfolding_all rfl)) (by rfl) (by decide) (by rfl) (by wtm_at "M.vals") (by wtm_at "M.locs") (by rfl) (by rfl) (by rfl) ?_
  wtm_at "M.enter"
  wtm_at "M.w"
  exact ⟨rfl, ret _ _ _ _ _ _ _ _ _ _ _ _ _ (Sx.pk (by wtm_at "M.a") (by wtm_at "M.pk"))⟩

set_option maxHeartbeats 4000000 in
theorem instance_spec {Q : Value → Shared → Prop} {mo md k i f t m g e el da cu : Addr} {ks : List Value} (Z : Bs w b.heap) (S : Sx b ns nw s) (a : Ar A (n + 5) (ns.map (·.1))) (hm : (mo, aIns 674 md) ∈ nw) (hmd : (md, aFld (modF k i f t m g e el da cu)) ∈ nw) (hk : (k, aList ks) ∈ nw) (hl : ks.length ≤ 100)
    (ret : ∀ x dx kk a0 a1 a2 a3 el da ex s', (ex == sysModules) = false → Sx b ns ((x, aIns 423 dx) :: (dx, aFld (instF mo kk a0 a1 a2 a3 el da ex)) :: (kk, aList ks) :: (a0, aList []) :: (a1, aList []) :: (a2, aList []) :: (a3, aList []) :: (el, aList []) :: (da, aList []) :: (ex, aDic w []) :: nw) s' → Q (.ref x) s') :
    wpAny (model PySem.Challenge.pw_nm0155_01 w) A (call (.ref 423) [.ref mo]) Q E s := by
  refine make Z S a (by k_is) (fI := 378) (by k_is) (by k_is) fun A' x dx s a S => ?_
  refine call_fnR [((Str.ofString "self"), some (.ref x)), ((Str.ofString "module"), some (.ref mo))] [((Str.ofString "self"), .ref x), ((Str.ofString "module"), .ref mo)] Z S a (by k_is) (by k_is) (BindsTo.of_eq (by with_unfolding_all rfl)) (by rfl) (by decide) (by rfl) (by wtm_at "M.vals") (by wtm_at "M.locs") (by rfl) (by rfl) (by rfl) ?_
  wtm_at "M.enter"
  wtm_at "M.w"
  refine c_listL (by wtm_at "M.a") (by wtm_at "M.mem") (by omega) fun kk s S => ?_
  wtm_at "M.w"
  exact ⟨rfl, ret _ _ _ _ _ _ _ _ _ _ _ (by assumption) (Sx.pk (by wtm_at "M.a") (by wtm_at "M.pk"))⟩

set_option maxHeartbeats 4000000 in
theorem drop_elem_spec {Q : Value → Shared → Prop} {x dx m kk a0 a1 a2 a3 el da ex : Addr} {its : List Value} {k : Int} {u : Tok} (Z : Bs w b.heap) (S : Sx b ns nw s) (a : Ar A (n + 2) (ns.map (·.1))) (hx : (x, aIns 423 dx) ∈ nw) (hdx : (dx, aFld (instF m kk a0 a1 a2 a3 el da ex)) ∈ nw)
    (P : PutO el (aList its) (aList (its.set k.toNat .none)) nw nw') (h0 : 0 ≤ k) (h1 : k < its.length) (h2 : its.length ≤ 100) (ret : ∀ s', Sx b ns nw' s' → Q .none s') :
    wpAny (model PySem.Challenge.pw_nm0155_01 w) A (call (.ref 413) [.ref x, .int k u]) Q E s := by
  refine call_fn [((Str.ofString "self"), some (.ref x)), ((Str.ofString "index"), some (.int k u))] [((Str.ofString "self"), .ref x), ((Str.ofString "index"), .int k u)] Z S a (by k_is) (by k_is) (BindsTo.of_eq (by with_unfolding_all rfl)) (by rfl) (by decide) (by rfl) (by wtm_at "M.vals") (by wtm_at "M.locs") (by rfl) (by rfl) (by rfl) ?_
  wtm_at "M.enter"
  wtm_at "M.w"
  refine u_list (by wtm_at "M.a") P h0 (by omega) h1 fun s S => ?_
  wtm_at "M.w"
  exact ret _ (by wtm_at "M.a")

set_option maxHeartbeats 4000000 in
theorem drop_data_spec {Q : Value → Shared → Prop} {x dx m kk a0 a1 a2 a3 el da ex : Addr} {its : List Value} {k : Int} {u : Tok} (Z : Bs w b.heap) (S : Sx b ns nw s) (a : Ar A (n + 2) (ns.map (·.1))) (hx : (x, aIns 423 dx) ∈ nw) (hdx : (dx, aFld (instF m kk a0 a1 a2 a3 el da ex)) ∈ nw)
    (P : PutO da (aList its) (aList (its.set k.toNat .none)) nw nw') (h0 : 0 ≤ k) (h1 : k < its.length) (h2 : its.length ≤ 100) (ret : ∀ s', Sx b ns nw' s' → Q .none s') :
    wpAny (model PySem.Challenge.pw_nm0155_01 w) A (call (.ref 420) [.ref x, .int k u]) Q E s := by
  refine call_fn [((Str.ofString "self"), some (.ref x)), ((Str.ofString "index"), some (.int k u))] [((Str.ofString "self"), .ref x), ((Str.ofString "index"), .int k u)] Z S a (by k_is) (by k_is) (BindsTo.of_eq (by with_unfolding_all rfl)) (by rfl) (by decide) (by rfl) (by wtm_at "M.vals") (by wtm_at "M.locs") (by rfl) (by rfl) (by rfl) ?_
  wtm_at "M.enter"
  wtm_at "M.w"
  refine u_list (by wtm_at "M.a") P h0 (by omega) h1 fun s S => ?_
  wtm_at "M.w"
  exact ret _ (by wtm_at "M.a")
end

end
section
section
variable {w : World} {A : Around} {E : Value → Shared → Prop} {s : Shared} {b : Shared} {ns : List (Addr × Vars)} {nw nw' : List (Addr × Sh)} {n : Nat} {env : Env} {its : List Value} {l l2 : Addr}
def aSl (u : Value) : Sh := fun o => o = { cls := .type "slice", data := .fields #[.none, u, .none] }
theorem e_slice {e : Expr} {p : Pos} {Q : Value → Shared → Prop} (_S : Sx b ns nw s) (h : wpAny (model PySem.Challenge.pw_nm0155_01 w) A (eval e env) (fun u s₂ => ∃ ns nw, Sx b ns nw s₂ ∧ ∀ sl s', Sx b ns ((sl, aSl u) :: nw) s' → Q (.ref sl) s') E s) :
    wpAny (model PySem.Challenge.pw_nm0155_01 w) A (eval (.Slice none (some e) none p) env) Q E s := by
  refine wpAny_Slice (wpAny_evalPart_none (wpAny_evalPart_some (wpAny_mono h (fun u s₂ q => ?_) fun _ _ q => q)))
  obtain ⟨ns, nw, S, k⟩ := q
  exact wpAny_evalPart_none (k _ _ ⟨S.st.alloc rfl, S.g, S.o⟩)
theorem pick_upto {k : Int} (h0 : 0 ≤ k) (h1 : k ≤ its.length) : slicePick its.toArray none (some k) none = (its.take k.toNat).toArray := by
  rw [kmk_pick_nat (a := 0) (b := k.toNat)]
  · simp
  · simp only [sliceBounds]
    simp
    omega
theorem g_slice {sl : Addr} {k : Int} {t : Tok} {value slice : Expr} {Q : Value → Shared → Prop} (S : Sx b ns nw s) (hl : (l, aList its) ∈ nw) (hs : (sl, aSl (.int k t)) ∈ nw) (h0 : 0 ≤ k) (h1 : k ≤ its.length) (hz : its.length ≤ 1000) (h : ∀ D s', Sx b ns ((D, aList (its.take k.toNat)) :: nw) s' → Q (.ref D) s')
    (hsub : subscripted slice false (.ref l) (.ref sl) = operate [.ref sl, .ref l] (getItem (.ref l) (.ref sl))) : wpAny (model PySem.Challenge.pw_nm0155_01 w) A (subscriptTail value slice (.ref l) (.ref sl)) Q E s := by
  obtain ⟨⟨o, ho, rfl⟩, _⟩ := S.st.objs _ hs
  have hL := S.st.isList hl
  refine tail_any hL.typeIs slot_list_getitem.lookup (wpAny_getItem_list_slice (hsz := by rw [List.size_toArray, sizeLine_eq]; omega) hL ⟨_, ho, rfl, rfl⟩ .none (.int k t) .none (by decide) ?_) hsub
  rw [pick_upto h0 h1]
  exact h _ _ ⟨S.st.alloc ⟨0, rfl⟩, S.g, S.o⟩
theorem dic_any {d : Addr} (S : Sx b ns nw s) (hd : (d, aDic w []) ∈ nw) (prog : Program) (w' : World) : s.heap.DictOf (strKind prog w') d [] := by
  obtain ⟨⟨o, ho, es, ep, h1, h2, h3, h4, h5⟩, _⟩ := S.st.objs _ hd
  have he : es = #[] := by
    cases q : es.toList with
    | nil => exact Array.toList_inj.mp q
    | cons x r => rw [q] at h4; cases h4
  subst he
  exact ⟨o, #[], ep, ho, h1, h2, (fun e he => by simp at he), .nil, List.nodup_nil⟩
open PySem.SeqAt PySem.MeetsSeq in
theorem dic_eqAt {c1 c2 : Addr} (S : Sx b ns nw s) (hc : (c1, aDic w []) ∈ nw) (hc2 : (c2, aDic w []) ∈ nw) (g1 : (c1 == sysModules) = false) (g2 : (c2 == sysModules) = false) (hne : c1 ≠ c2) (hu : A.units < cLine) : EqAt A s (.ref c1) (.ref c2) true :=
  EqAt.of_refs hne fun prog w' E Q hq => (show wpAny _ _ (compareOp .Eq (.ref c1) (.ref c2)) _ _ _ from keq_eq (r := true) g1 g2 (dic_any S hc prog w') (dic_any S hc2 prog w') hu (fun _ => .nil) hq)
open PySem.SeqAt PySem.MeetsSeq in
theorem cmp_three {a1 b1 c1 a2 b2 c2 : Addr} {m : Nat} {Ls : List Addr} {Q : Value → Shared → Prop} (S : Sx b ns nw s) (a : Ar A m Ls) (h1 : (l, aList [.ref a1, .ref b1, .ref c1]) ∈ nw) (h2 : (l2, aList [.ref a2, .ref b2, .ref c2]) ∈ nw)
    (ha : (a1, aList []) ∈ nw) (ha2 : (a2, aList []) ∈ nw) (hb : (b1, aList []) ∈ nw) (hb2 : (b2, aList []) ∈ nw) (hc : (c1, aDic w []) ∈ nw) (hc2 : (c2, aDic w []) ∈ nw) (g1 : (c1 == sysModules) = false) (g2 : (c2 == sysModules) = false) (hne : c1 ≠ c2) (hq : Q (.bool false) s) :
    wpAny (model PySem.Challenge.pw_nm0155_01 w) A (compareOp .NotEq (.ref l) (.ref l2)) Q E s := by
  show wpAny _ _ (richCompare .NotEq (.ref l) (.ref l2)) _ _ _
  have hu := a.uni
  have := RcNeAt.lists (e := fun _ => true) (A := A) (S.st.isList h1) (S.st.isList h2) rfl (by omega) (fun j j1 j2 => ?_)
  · rw [all_true] at this
    exact this _ w E Q hq
  · have hj : j = 0 ∨ j = 1 ∨ j = 2 := by simp at j1; omega
    rcases hj with rfl | rfl | rfl
    · exact SmD.eqAt S (SmD.list (d := 0) ha ha2 .nil) (by show A.units + 1 + 1 < _; omega)
    · exact SmD.eqAt S (SmD.list (d := 0) hb hb2 .nil) (by show A.units + 1 + 1 < _; omega)
    · exact dic_eqAt S hc hc2 g1 g2 hne (by show A.units + 1 < _; omega)
end

end
section
def bitsN (k : Int) : Int := if k == -1 then 32 else 64
def fitsV (k : Int) : Value → Bool
  | .none => isR k
  | .int n _ => decide (0 ≤ n) && (isR k || ((k == -1 || k == -2) && decide (n < 2 ^ (bitsN k).toNat)))
  | _ => false
section
variable {w : World} {A : Around} {E : Value → Shared → Prop} {s : Shared} {b : Shared} {ns : List (Addr × Vars)} {nw nw' : List (Addr × Sh)} {n : Nat} {k : Int} {u : Tok} {v : Value} {Q : Value → Shared → Prop}

set_option maxHeartbeats 4000000 in
theorem is_ref_spec (Z : Bs w b.heap) (S : Sx b ns nw s) (a : Ar A (n + 2) (ns.map (·.1))) (ret : ∀ s', Sx b ns nw s' → Q (.bool (isR k)) s') :
    wpAny (model PySem.Challenge.pw_nm0155_01 w) A (call (.ref 95) [.int k u]) Q E s := by
  refine call_fn [((Str.ofString "kind"), some (.int k u))] [((Str.ofString "kind"), .int k u)] Z S a (by k_is) (by k_is) (BindsTo.of_eq (by with_unfolding_all rfl)) (by rfl) (by decide) (by rfl) (by wtm_at "M.vals") (by wtm_at "M.locs") (by rfl) (by rfl) (by rfl) ?_
  wtm_at "M.enter"
  wtm_at "M.w"
  refine hn_in Z (by wtm_at "M.a") fun s S => ?_
  wtm_at "M.w"
  exact ret _ (by wtm_at "M.a")

set_option maxHeartbeats 4000000 in
theorem bits_spec (Z : Bs w b.heap) (S : Sx b ns nw s) (a : Ar A (n + 2) (ns.map (·.1))) (ret : ∀ t s', Sx b ns nw s' → Q (.int (bitsN k) t) s') :
    wpAny (model PySem.Challenge.pw_nm0155_01 w) A (call (.ref 102) [.int k u]) Q E s := by
  refine call_fn [((Str.ofString "kind"), some (.int k u))] [((Str.ofString "kind"), .int k u)] Z S a (by k_is) (by k_is) (BindsTo.of_eq (by with_unfolding_all rfl)) (by rfl) (by decide) (by rfl) (by wtm_at "M.vals") (by wtm_at "M.locs") (by rfl) (by rfl) (by rfl) ?_
  unfold bitsN at ret
  wtm_at "M.enter"
  wtm_at "M.w"
  refine ite_of (fun h0 => ?_) fun h0 => ?_
  · rw [if_pos (by simpa using h0)] at ret
    wtm_at "M.w"
    exact ret _ _ (by wtm_at "M.a")
  · rw [if_neg (by simpa using h0)] at ret
    wtm_at "M.w"
    exact ret _ _ (by wtm_at "M.a")

theorem fits_int {k m : Int} {t : Tok} : fitsV k (.int m t) = (decide (0 ≤ m) && (isR k || ((k == -1 || k == -2) && decide (m < 2 ^ (bitsN k).toNat)))) := rfl
theorem any12 {k : Int} : ([-1, -2].any fun x => x == k) = (k == -1 || k == -2) := by
  rw [List.any_cons, List.any_cons, List.any_nil, Bool.or_false]
  have e : ∀ x : Int, (x == k) = (k == x) := fun x => by rw [Bool.eq_iff_iff, beq_iff_eq, beq_iff_eq]; exact eq_comm
  rw [e, e]
theorem bits_le {k : Int} : 0 ≤ bitsN k ∧ bitsN k ≤ 1000000 := by unfold bitsN; split <;> omega
set_option maxHeartbeats 4000000 in
theorem does_fit_spec (Z : Bs w b.heap) (S : Sx b ns nw s) (a : Ar A (n + 4) (ns.map (·.1))) (p : Plain nw v) (ret : ∀ s', Sx b ns nw s' → Q (.bool (fitsV k v)) s') :
    wpAny (model PySem.Challenge.pw_nm0155_01 w) A (call (.ref 121) [.int k u, v]) Q E s := by
  refine call_fn [((Str.ofString "kind"), some (.int k u)), ((Str.ofString "value"), some v)] [((Str.ofString "kind"), .int k u), ((Str.ofString "value"), v)] Z S a (by k_is) (by k_is) (BindsTo.of_eq (by with_unfolding_all rfl)) (by rfl) (by decide) (by rfl) (by wtm_at "M.vals") (by wtm_at "M.locs") (by rfl) (by rfl) (by rfl) ?_
  wtm_at "M.enter"
  wtm_at "M.w"
  refine is_ref_spec (n := n) Z (by wtm_at "M.a") (Ar.less (by assumption) (by wtm_at "M.le")) fun s S => ?_
  cases p with
  | none =>
    wtm_at "M.w"
    refine ite_of (fun h0 => ?_) fun h0 => ?_
    · wtm_at "M.w"
      have e : fitsV k Value.none = true := h0
      rw [e] at ret
      exact ret _ (by wtm_at "M.a")
    · wtm_at "M.w"
      refine inst_int (by wtm_at "M.a") .none fun s S => ?_
      wtm_at "M.w"
      have e : fitsV k Value.none = false := h0
      rw [e] at ret
      exact ret _ (by wtm_at "M.a")
  | @int m tm =>
    wtm_at "M.w"
    refine ite_of (fun h0 => ?_) fun h0 => ?_ <;> (
      wtm_at "M.w"
      refine inst_int (by wtm_at "M.a") .int fun s S => ?_
      wtm_at "M.w"
      refine inst_bool (by wtm_at "M.a") .int fun s S => ?_
      wtm_at "M.w"
      refine ite_of (fun h1 => ?_) fun h1 => ?_
      · wtm_at "M.w"
        have e : fitsV k (Value.int m tm) = false := by
          have : ¬ 0 ≤ m := by have := of_decide_eq_true h1; omega
          rw [fits_int, decide_eq_false this]; rfl
        rw [e] at ret
        exact ret _ (by wtm_at "M.a")
      · have hm : decide (0 ≤ m) = true := by
          have := of_decide_eq_false h1; exact decide_eq_true (by omega)
        wtm_at "M.w"
        refine is_ref_spec (n := n) Z (by wtm_at "M.a") (Ar.less (by assumption) (by wtm_at "M.le")) fun s S => ?_
        wtm_at "M.w"
        first
        | (refine ite_t ?_ (by exact h0)
           wtm_at "M.w"
           have e : fitsV k (Value.int m tm) = true := by rw [fits_int, hm, h0]; rfl
           rw [e, h0.symm] at ret
           exact ret _ (by wtm_at "M.a"))
        | (refine ite_f ?_ (by exact h0)
           wtm_at "M.w"
           refine in_tup (by wtm_at "M.a") (by wtm_at "M.mem") (.cons _ _ (.cons _ _ .nil)) ?_
           wtm_at "M.w"
           rw [any12]
           refine ite_of (fun h2 => ?_) fun h2 => ?_
           · wtm_at "M.w"
             refine bits_spec (n := n) Z (by wtm_at "M.a") (Ar.less (by assumption) (by wtm_at "M.le")) fun t s S => ?_
             refine i_lsh S bits_le.1 bits_le.2 (by decide) fun t s S => ?_
             wtm_at "M.w"
             have e : fitsV k (Value.int m tm) = decide (m < 1 * 2 ^ (bitsN k).toNat) := by rw [fits_int, hm, h0, h2, Int.one_mul]; rfl
             rw [e] at ret
             exact ret _ (Sx.drop (by wtm_at "M.a"))
           · wtm_at "M.w"
             have e : fitsV k (Value.int m tm) = false := by rw [fits_int, hm, h0, h2]; rfl
             rw [h2]
             rw [e] at ret
             exact ret _ (Sx.drop (by wtm_at "M.a"))))
  | bool =>
    wtm_at "M.w"
    refine ite_of (fun h0 => ?_) fun h0 => ?_ <;> (
      wtm_at "M.w"
      refine inst_int (by wtm_at "M.a") .bool fun s S => ?_
      wtm_at "M.w"
      refine inst_bool (by wtm_at "M.a") .bool fun s S => ?_
      wtm_at "M.w"
      exact ret _ (by wtm_at "M.a"))
  | str =>
    wtm_at "M.w"
    refine ite_of (fun h0 => ?_) fun h0 => ?_ <;> (
      wtm_at "M.w"
      refine inst_int (by wtm_at "M.a") .str fun s S => ?_
      wtm_at "M.w"
      exact ret _ (by wtm_at "M.a"))
  | list m =>
    wtm_at "M.w"
    refine ite_of (fun h0 => ?_) fun h0 => ?_ <;> (
      wtm_at "M.w"
      refine inst_int (by wtm_at "M.a") (.list m) fun s S => ?_
      wtm_at "M.w"
      exact ret _ (by wtm_at "M.a"))
end

end
section
section
variable {w : World} {A : Around} {E : Value → Shared → Prop} {s : Shared} {b : Shared} {ns : List (Addr × Vars)} {nw nw' : List (Addr × Sh)} {n : Nat} {k : Int} {u : Tok} {v : Value} {Q : Value → Shared → Prop}
theorem anyR {k : Int} : ([-16, -17].any fun x => x == k) = isR k := by
  rw [List.any_cons, List.any_cons, List.any_nil, Bool.or_false]
  have e : ∀ x : Int, (x == k) = (k == x) := fun x => by rw [Bool.eq_iff_iff, beq_iff_eq, beq_iff_eq]; exact eq_comm
  rw [e, e]; rfl
theorem fits_no {k m : Int} {t : Tok} (h0 : isR k = false) (h1 : (k == -1 || k == -2) = false) : fitsV k (.int m t) = false := by rw [fits_int, h0, h1]; simp
set_option maxHeartbeats 4000000 in
theorem law_fits_spec (Z : Bs w b.heap) (S : Sx b ns nw s) (a : Ar A (n + 4) (ns.map (·.1))) (p : Plain nw v) (ret : ∀ s', Sx b ns nw s' → Q (.bool (fitsV k v)) s') :
    wpAny (model PySem.Challenge.pw_nm0155_01 w) A (call (.ref 728) [.int k u, v]) Q E s := by
  refine call_fn [((Str.ofString "kind"), some (.int k u)), ((Str.ofString "value"), some v)] [((Str.ofString "kind"), .int k u), ((Str.ofString "value"), v)] Z S a (by k_is) (by k_is) (BindsTo.of_eq (by with_unfolding_all rfl)) (by rfl) (by decide) (by rfl) (by wtm_at "M.vals") (by wtm_at "M.locs") (by rfl) (by rfl) (by rfl) ?_
  wtm_at "M.enter"
  wtm_at "M.w"
  refine in_tup (by wtm_at "M.a") (by wtm_at "M.mem") (.cons _ _ (.cons _ _ .nil)) ?_
  wtm_at "M.w"
  rw [show ([- (16:Int), -17].any fun x => x == k) = isR k from anyR]
  refine ite_of (fun h0 => ?_) fun h0 => ?_
  · wtm_at "M.w"
    cases p with
    | none =>
      refine ite_t ?_ rfl
      wtm_at "M.w"
      have e : fitsV k .none = true := h0
      rw [e] at ret
      exact ret _ (Sx.drop (by wtm_at "M.a"))
    | @int m tm =>
      refine ite_f ?_ rfl
      wtm_at "M.w"
      refine inst_int (by wtm_at "M.a") .int fun s S => ?_
      wtm_at "M.w"
      refine inst_bool (by wtm_at "M.a") .int fun s S => ?_
      wtm_at "M.w"
      have e : fitsV k (.int m tm) = decide (0 ≤ m) := by rw [fits_int, h0, Bool.true_or, Bool.and_true]
      rw [e] at ret
      exact ret _ (Sx.drop (by wtm_at "M.a"))
    | bool =>
      refine ite_f ?_ rfl
      wtm_at "M.w"
      refine inst_int (by wtm_at "M.a") .bool fun s S => ?_
      wtm_at "M.w"
      refine inst_bool (by wtm_at "M.a") .bool fun s S => ?_
      wtm_at "M.w"
      exact ret _ (Sx.drop (by wtm_at "M.a"))
    | str =>
      refine ite_f ?_ rfl
      wtm_at "M.w"
      refine inst_int (by wtm_at "M.a") .str fun s S => ?_
      wtm_at "M.w"
      exact ret _ (Sx.drop (by wtm_at "M.a"))
    | list m =>
      refine ite_f ?_ rfl
      wtm_at "M.w"
      refine inst_int (by wtm_at "M.a") (.list (.tail _ m)) fun s S => ?_
      wtm_at "M.w"
      exact ret _ (Sx.drop (by wtm_at "M.a"))
  · wtm_at "M.w"
    refine notin_tup (by wtm_at "M.a") (by wtm_at "M.mem") (.cons _ _ (.cons _ _ .nil)) ?_
    wtm_at "M.w"
    rw [show ([- (1:Int), -2].any fun x => x == k) = (k == -1 || k == -2) from any12]
    refine ite_of (fun h1 => ?_) fun h1 => ?_
    · wtm_at "M.w"
      have e : fitsV k v = false := by
        have h1 : (k == -1 || k == -2) = false := by simpa using h1
        cases p with
        | none => exact h0
        | int => exact fits_no h0 h1
        | _ => rfl
      rw [e] at ret
      exact ret _ (Sx.drop (Sx.drop (by wtm_at "M.a")))
    · have h1 : (k == -1 || k == -2) = true := by rw [Bool.not_eq_false'] at h1; exact h1
      wtm_at "M.w"
      cases p with
      | none =>
        refine inst_int (by wtm_at "M.a") .none fun s S => ?_
        wtm_at "M.w"
        have e : fitsV k .none = false := h0
        rw [e] at ret
        exact ret _ (Sx.drop (Sx.drop (by wtm_at "M.a")))
      | @int m tm =>
        refine inst_int (by wtm_at "M.a") .int fun s S => ?_
        wtm_at "M.w"
        refine inst_bool (by wtm_at "M.a") .int fun s S => ?_
        wtm_at "M.w"
        refine ite_of (fun h2 => ?_) fun h2 => ?_
        · wtm_at "M.w"
          refine ite_of (fun h3 => ?_) fun h3 => ?_
          · wtm_at "M.w"
            have e : fitsV k (.int m tm) = decide (m < 2 ^ (32 : Int).toNat) := by rw [fits_int, h0, h1, h2, show bitsN k = 32 from if_pos (by simpa using h3)]; simp
            rw [e] at ret
            exact ret _ (Sx.drop (Sx.drop (by wtm_at "M.a")))
          · wtm_at "M.w"
            have e : fitsV k (.int m tm) = decide (m < 2 ^ (64 : Int).toNat) := by rw [fits_int, h0, h1, h2, show bitsN k = 64 from if_neg (by simpa using h3)]; simp
            rw [e] at ret
            exact ret _ (Sx.drop (Sx.drop (by wtm_at "M.a")))
        · wtm_at "M.w"
          have e : fitsV k (.int m tm) = false := by rw [fits_int, h2]; rfl
          rw [h2]
          rw [e] at ret
          exact ret _ (Sx.drop (Sx.drop (by wtm_at "M.a")))
      | bool =>
        refine inst_int (by wtm_at "M.a") .bool fun s S => ?_
        wtm_at "M.w"
        refine inst_bool (by wtm_at "M.a") .bool fun s S => ?_
        wtm_at "M.w"
        exact ret _ (Sx.drop (Sx.drop (by wtm_at "M.a")))
      | str =>
        refine inst_int (by wtm_at "M.a") .str fun s S => ?_
        wtm_at "M.w"
        exact ret _ (Sx.drop (Sx.drop (by wtm_at "M.a")))
      | list m =>
        refine inst_int (by wtm_at "M.a") (.list (.tail _ (.tail _ m))) fun s S => ?_
        wtm_at "M.w"
        exact ret _ (Sx.drop (Sx.drop (by wtm_at "M.a")))
end

end
section
def fitL (ks : List Int) (vs : List Value) : Bool := ks.length == vs.length && ((ks.zip vs).map fun p => fitsV p.1 p.2).all id
section
variable {prog : Program} {w : World} {A : Around} {E : Value → Shared → Prop} {s : Shared} {b : Shared} {ns : List (Addr × Vars)} {nw nw' : List (Addr × Sh)} {n : Nat} {k : Int} {u : Tok} {v : Value} {Q : Value → Shared → Prop} {its vs : List Value} {ks : List Int} {l t : Addr}
theorem c_all {bs : List Bool} (S : Sx b ns nw s) (hm : (l, aList (bs.map Value.bool)) ∈ nw) (hA : A.handled = none) (h : ∀ s', Sx b ns nw s' → Q (.bool (bs.all id)) s') : wpAny (model prog w) A (call (.builtin "all") [.ref l]) Q E s := by
  have hl := S.st.isList hm
  refine call_all_walk (wpAny_pyIter_list hl ?_)
  refine ⟨s.heap.objs.size, [s.heap.objs.size, l], [s.heap.objs.size], _, _, _, fun i => (bs[i]?).getD true, rfl, Walks.list (A := A.in1) hA _ l (Nat.ne_of_lt (S.st.ltNw hm)) _,
    ⟨⟨_, Heap.get?_push_size _ rfl, rfl, rfl⟩, hl.push _⟩, fun i v s' Q' E' hP hQ => ?_, fun h' tk hk => ?_⟩
  · have hP : (bs.map Value.bool)[i]? = some v := by simpa using hP
    rw [List.getElem?_map] at hP
    cases q : bs[i]? with
    | none => rw [q] at hP; cases hP
    | some c =>
      rw [q] at hP; cases hP
      dsimp only at hQ
      rw [q] at hQ
      exact wpAny_truthy_bool hQ
  · have e : ((List.range (bs.map Value.bool).toArray.size).all fun i => (bs[i]?).getD true) = bs.all id := by
      rw [List.size_toArray, List.length_map]; exact LSm.range_all bs
    rw [e]
    exact h _ (S.ext (LSm.kept_iter hk))
theorem Plain.mono {v : Value} {nw nw' : List (Addr × Sh)} (h : Plain nw v) (k : ∀ p, p ∈ nw → p ∈ nw') : Plain nw' v := by
  cases h with
  | none => exact .none
  | int => exact .int
  | bool => exact .bool
  | str => exact .str
  | list m => exact .list (k _ m)
theorem fitL_ne (h : (ks.length == vs.length) = false) : fitL ks vs = false := by unfold fitL; rw [h]; rfl
theorem fitL_eq (h : (ks.length == vs.length) = true) : fitL ks vs = ((ks.zip vs).map fun p => fitsV p.1 p.2).all id := by unfold fitL; rw [h]; rfl

set_option maxHeartbeats 4000000 in
theorem do_fit_spec (Z : Bs w b.heap) (S : Sx b ns nw s) (a : Ar A (n + 8) (ns.map (·.1))) (ht : (t, aTup its) ∈ nw) (hi : IntsAre its ks) (hv : (l, aList vs) ∈ nw) (hp : ∀ v ∈ vs, Plain nw v) (h1 : its.length ≤ 100) (h2 : vs.length ≤ 100) (ret : ∀ s', Sx b ns nw s' → Q (.bool (fitL ks vs)) s') :
    wpAny (model PySem.Challenge.pw_nm0155_01 w) A (call (.ref 126) [.ref t, .ref l]) Q E s := by
  refine call_fn [((Str.ofString "kinds"), some (.ref t)), ((Str.ofString "values"), some (.ref l))] [((Str.ofString "kinds"), .ref t), ((Str.ofString "values"), .ref l)] Z S a (by k_is) (by k_is) (BindsTo.of_eq (by with_unfolding_all rfl)) (by rfl) (by decide) (by rfl) (by wtm_at "M.vals") (by wtm_at "M.locs") (by rfl) (by rfl) (by rfl) ?_
  have hlen := hi.length
  intro A' env s V tp a S
  dsimp only at V S
  wtm_at "M.w"
  refine c_len_tup (by wtm_at "M.a") ht (by omega) fun t1 s S => ?_
  wtm_at "M.w"
  refine c_len (by wtm_at "M.a") hv (by omega) fun t2 s S => ?_
  wtm_at "M.w"
  refine ite_of (fun h0 => ?_) fun h0 => ?_
  · wtm_at "M.w"
    rw [fitL_ne (by simp at h0 ⊢; omega)] at ret
    exact ret _ (by wtm_at "M.a")
  · wtm_at "M.w"
    have he : its.length = vs.length := by simp at h0; omega
    rw [fitL_eq (by simp; omega)] at ret
    refine c_zip (by wtm_at "M.a") ht hv fun z TI TO i1 i2 s S => ?_
    refine p_zip S (.head _) ?_
    have hz : (ks.zip vs).length = its.length := by rw [List.length_zip]; omega
    refine comp_pairs (n := its.length) (names' := [((Str.ofString ".0"), .local), ((Str.ofString "kind"), .local), ((Str.ofString "value"), .local), ((Str.ofString "does_fit"), .globalImplicit)]) [((Str.ofString ".0"), none), ((Str.ofString "kind"), none), ((Str.ofString "value"), none)] V (wt_zip a.hd he) (by rfl) (by rfl) (by rfl) (by rfl) (by decide) (by rfl) (by wtm_at "M.vals")
      (fun i ys nw' => ys = (((ks.zip vs).map fun p => fitsV p.1 p.2).take i).map Value.bool ∧ i ≤ its.length ∧ nw' = nw) (fun _ _ _ h => by rw [h.2.2]; exact ⟨ht, hv⟩) (fun _ _ h => ⟨.tail _ h.1, .tail _ h.2⟩) (fun i ys nw' h => by rw [h.1]; simp; omega) ⟨_, _, rfl⟩ S ⟨rfl, by omega, rfl⟩ (fun _ => rfl) (fun _ => rfl) (fun i ys nw' xs s v1 v2 E' C lv cenv D hi' hJ hP hX hC V' hlv S => ?_) (fun ys nw' s D hJ S9 => ?_)
    · obtain ⟨rfl, hi100, rfl⟩ := hJ
      obtain ⟨x, y, rfl⟩ := hX
      obtain ⟨hx, hy⟩ := hP
      obtain ⟨kk, tk, rfl, hk⟩ := hi.at i _ hx
      obtain ⟨o1, o2, o3, rfl⟩ := vars3 (n1 := (Str.ofString ".0")) (n2 := (Str.ofString "kind")) (n3 := (Str.ofString "value")) hlv
      subst hC
      dsimp only [List.cons_append, List.nil_append] at S
      wtm_at "M.w"
      refine does_fit_spec (n := n) Z (by wtm_at "M.a") (Ar.less (m := n + 4) (a.more (L := cenv.locals)) (by wtm_at "M.le")) ((hp _ (List.mem_of_getElem? hy)).mono fun p h => .tail _ (.tail _ (.tail _ (.tail _ (.tail _ (.tail _ h)))))) fun s S => ?_
      wtm_at "M.w"
      rename Sx b _ _ _ => S
      refine ⟨_, zipX z TI TO i1 i2 t l .none (i + 1) x y, _, rfl, ⟨?_, by omega, rfl⟩, ⟨_, _, rfl⟩, S⟩
      have e : ((ks.zip vs).map fun p => fitsV p.1 p.2)[i]? = some (fitsV kk v2) := by
        rw [List.getElem?_map, List.getElem?_zip_eq_some (z := (kk, v2)) |>.mpr ⟨hk, hy⟩]; rfl
      rw [← take_snoc e, List.map_append]; rfl
    · obtain ⟨rfl, hi100, rfl⟩ := hJ
      rw [List.take_of_length_le (by simp; omega)] at S9
      wtm_at "M.w"
      refine c_all (by wtm_at "M.a") (.head _) a.hd fun s S => ?_
      wtm_at "M.w"
      exact ret _ (Sx.drop (by wtm_at "M.a"))
set_option maxHeartbeats 4000000 in
theorem law_do_fit_spec (Z : Bs w b.heap) (S : Sx b ns nw s) (a : Ar A (n + 8) (ns.map (·.1))) (ht : (t, aTup its) ∈ nw) (hi : IntsAre its ks) (hv : (l, aList vs) ∈ nw) (hp : ∀ v ∈ vs, Plain nw v) (h1 : its.length ≤ 100) (h2 : vs.length ≤ 100) (ret : ∀ s', Sx b ns nw s' → Q (.bool (fitL ks vs)) s') :
    wpAny (model PySem.Challenge.pw_nm0155_01 w) A (call (.ref 733) [.ref t, .ref l]) Q E s := by
  refine call_fn [((Str.ofString "kinds"), some (.ref t)), ((Str.ofString "values"), some (.ref l))] [((Str.ofString "kinds"), .ref t), ((Str.ofString "values"), .ref l)] Z S a (by k_is) (by k_is) (BindsTo.of_eq (by with_unfolding_all rfl)) (by rfl) (by decide) (by rfl) (by wtm_at "M.vals") (by wtm_at "M.locs") (by rfl) (by rfl) (by rfl) ?_
  have hlen := hi.length
  intro A' env s V tp a S
  dsimp only at V S
  wtm_at "M.w"
  refine c_len_tup (by wtm_at "M.a") ht (by omega) fun t1 s S => ?_
  wtm_at "M.w"
  refine c_len (by wtm_at "M.a") hv (by omega) fun t2 s S => ?_
  wtm_at "M.w"
  refine ite_of (fun h0 => ?_) fun h0 => ?_
  · wtm_at "M.w"
    have he : its.length = vs.length := by simp at h0; omega
    rw [fitL_eq (by simp; omega)] at ret
    refine c_zip (by wtm_at "M.a") ht hv fun z TI TO i1 i2 s S => ?_
    refine p_zip S (.head _) ?_
    have hz : (ks.zip vs).length = its.length := by rw [List.length_zip]; omega
    refine comp_pairs (n := its.length) (names' := [((Str.ofString ".0"), .local), ((Str.ofString "kind"), .local), ((Str.ofString "value"), .local), ((Str.ofString "_law_fits"), .globalImplicit)]) [((Str.ofString ".0"), none), ((Str.ofString "kind"), none), ((Str.ofString "value"), none)] V (wt_zip a.hd he) (by rfl) (by rfl) (by rfl) (by rfl) (by decide) (by rfl) (by wtm_at "M.vals")
      (fun i ys nw' => ys = (((ks.zip vs).map fun p => fitsV p.1 p.2).take i).map Value.bool ∧ i ≤ its.length ∧ nw' = nw) (fun _ _ _ h => by rw [h.2.2]; exact ⟨ht, hv⟩) (fun _ _ h => ⟨.tail _ h.1, .tail _ h.2⟩) (fun i ys nw' h => by rw [h.1]; simp; omega) ⟨_, _, rfl⟩ S ⟨rfl, by omega, rfl⟩ (fun _ => rfl) (fun _ => rfl) (fun i ys nw' xs s v1 v2 E' C lv cenv D hi' hJ hP hX hC V' hlv S => ?_) (fun ys nw' s D hJ S9 => ?_)
    · obtain ⟨rfl, hi100, rfl⟩ := hJ
      obtain ⟨x, y, rfl⟩ := hX
      obtain ⟨hx, hy⟩ := hP
      obtain ⟨kk, tk, rfl, hk⟩ := hi.at i _ hx
      obtain ⟨o1, o2, o3, rfl⟩ := vars3 (n1 := (Str.ofString ".0")) (n2 := (Str.ofString "kind")) (n3 := (Str.ofString "value")) hlv
      subst hC
      dsimp only [List.cons_append, List.nil_append] at S
      wtm_at "M.w"
      refine law_fits_spec (n := n) Z (by wtm_at "M.a") (Ar.less (m := n + 4) (a.more (L := cenv.locals)) (by wtm_at "M.le")) ((hp _ (List.mem_of_getElem? hy)).mono fun p h => .tail _ (.tail _ (.tail _ (.tail _ (.tail _ (.tail _ h)))))) fun s S => ?_
      wtm_at "M.w"
      rename Sx b _ _ _ => S
      refine ⟨_, zipX z TI TO i1 i2 t l .none (i + 1) x y, _, rfl, ⟨?_, by omega, rfl⟩, ⟨_, _, rfl⟩, S⟩
      have e : ((ks.zip vs).map fun p => fitsV p.1 p.2)[i]? = some (fitsV kk v2) := by
        rw [List.getElem?_map, List.getElem?_zip_eq_some (z := (kk, v2)) |>.mpr ⟨hk, hy⟩]; rfl
      rw [← take_snoc e, List.map_append]; rfl
    · obtain ⟨rfl, hi100, rfl⟩ := hJ
      rw [List.take_of_length_le (by simp; omega)] at S9
      wtm_at "M.w"
      refine c_all (by wtm_at "M.a") (.head _) a.hd fun s S => ?_
      wtm_at "M.w"
      exact ret _ (Sx.drop (by wtm_at "M.a"))
  · wtm_at "M.w"
    rw [fitL_ne (by simp at h0 ⊢; omega)] at ret
    rw [h0]
    exact ret _ (by wtm_at "M.a")
end

end
section
abbrev sizF (v0 v1 v2 v3 v4 : Value) : List (Str × Value) := [((Str.ofString "page"), v0), ((Str.ofString "pages"), v1), ((Str.ofString "elements"), v2), ((Str.ofString "depth"), v3), ((Str.ofString "fuel"), v4)]
abbrev stoF (sz f t m g : Addr) : List (Str × Value) := [((Str.ofString "sizes"), .ref sz), ((Str.ofString "funcs"), .ref f), ((Str.ofString "tables"), .ref t), ((Str.ofString "memories"), .ref m), ((Str.ofString "globals"), .ref g)]
section
variable {prog : Program} {w : World} {A : Around} {E : Value → Shared → Prop} {s : Shared} {b : Shared} {ns : List (Addr × Vars)} {nw nw' : List (Addr × Sh)} {n : Nat} {k : Int} {u : Tok} {v v0 v1 v2 v3 v4 : Value} {Q : Value → Shared → Prop} {its vs : List Value} {ks : List Int} {l t sz sd : Addr}

set_option maxHeartbeats 4000000 in
theorem sizes_spec (Z : Bs w b.heap) (S : Sx b ns nw s) (a : Ar A (n + 5) (ns.map (·.1)))
    (ret : ∀ x dx s', Sx b ns ((x, aIns 84 dx) :: (dx, aFld (sizF v0 v1 v2 v3 v4)) :: nw) s' → Q (.ref x) s') : wpAny (model PySem.Challenge.pw_nm0155_01 w) A (call (.ref 84) [v0, v1, v2, v3, v4]) Q E s := by
  refine make Z S a (by k_is) (fI := 81) (by k_is) (by k_is) fun A' x dx s a S => ?_
  refine call_fnR [((Str.ofString "self"), some (.ref x)), ((Str.ofString "page"), some v0), ((Str.ofString "pages"), some v1), ((Str.ofString "elements"), some v2), ((Str.ofString "depth"), some v3), ((Str.ofString "fuel"), some v4)] [((Str.ofString "self"), .ref x), ((Str.ofString "page"), v0), ((Str.ofString "pages"), v1), ((Str.ofString "elements"), v2), ((Str.ofString "depth"), v3), ((Str.ofString "fuel"), v4)] Z S a (by k_is) (by k_is) (BindsTo.of_defaults rfl ((S.K Z) 74 _ (by k_is)) rfl (by with_unfolding_all rfl) (by with_unfolding_all rfl)) (by rfl) (by decide) (by rfl) (by wtm_at "M.vals") (by wtm_at "M.locs") (by rfl) (by rfl) (by rfl) ?_
  wtm_at "M.enter"
  wtm_at "M.w"
  exact ⟨rfl, ret _ _ _ (Sx.pk (by wtm_at "M.a") (by wtm_at "M.pk"))⟩

set_option maxHeartbeats 4000000 in
theorem sizes0_spec (Z : Bs w b.heap) (S : Sx b ns nw s) (a : Ar A (n + 5) (ns.map (·.1)))
    (ret : ∀ x dx t0 t1 t2 t3 s', Sx b ns ((x, aIns 84 dx) :: (dx, aFld (sizF (.int 65536 t0) (.int 65536 t1) (.int 4294967295 t2) (.int 200 t3) .none)) :: nw) s' → Q (.ref x) s') : wpAny (model PySem.Challenge.pw_nm0155_01 w) A (call (.ref 84) []) Q E s := by
  refine make Z S a (by k_is) (fI := 81) (by k_is) (by k_is) fun A' x dx s a S => ?_
  refine call_fnR [((Str.ofString "self"), some (.ref x)), ((Str.ofString "page"), some (.int 65536 _)), ((Str.ofString "pages"), some (.int 65536 _)), ((Str.ofString "elements"), some (.int 4294967295 _)), ((Str.ofString "depth"), some (.int 200 _)), ((Str.ofString "fuel"), some .none)] [((Str.ofString "self"), .ref x), ((Str.ofString "page"), (.int 65536 _)), ((Str.ofString "pages"), (.int 65536 _)), ((Str.ofString "elements"), (.int 4294967295 _)), ((Str.ofString "depth"), (.int 200 _)), ((Str.ofString "fuel"), .none)] Z S a (by k_is) (by k_is) (BindsTo.of_defaults rfl ((S.K Z) 74 _ (by k_is)) rfl (by with_unfolding_all rfl) (by with_unfolding_all rfl)) (by rfl) (by decide) (by rfl) (by wtm_at "M.vals") (by wtm_at "M.locs") (by rfl) (by rfl) (by rfl) ?_
  wtm_at "M.enter"
  wtm_at "M.w"
  exact ⟨rfl, ret _ _ _ _ _ _ _ (Sx.pk (by wtm_at "M.a") (by wtm_at "M.pk"))⟩

set_option maxHeartbeats 4000000 in
theorem store_spec (Z : Bs w b.heap) (S : Sx b ns nw s) (a : Ar A (n + 5) (ns.map (·.1)))
    (ret : ∀ x dx f t m g s', Sx b ns ((x, aIns 557 dx) :: (dx, aFld (stoF sz f t m g)) :: (f, aList []) :: (t, aList []) :: (m, aList []) :: (g, aList []) :: nw) s' → Q (.ref x) s') : wpAny (model PySem.Challenge.pw_nm0155_01 w) A (call (.ref 557) [.ref sz]) Q E s := by
  refine make Z S a (by k_is) (fI := 442) (by k_is) (by k_is) fun A' x dx s a S => ?_
  refine call_fnR [((Str.ofString "self"), some (.ref x)), ((Str.ofString "sizes"), some (.ref sz))] [((Str.ofString "self"), .ref x), ((Str.ofString "sizes"), .ref sz)] Z S a (by k_is) (by k_is) (BindsTo.of_defaults rfl ((S.K Z) 435 _ (by k_is)) rfl (by with_unfolding_all rfl) (by with_unfolding_all rfl)) (by rfl) (by decide) (by rfl) (by wtm_at "M.vals") (by wtm_at "M.locs") (by rfl) (by rfl) (by rfl) ?_
  wtm_at "M.enter"
  wtm_at "M.w"
  exact ⟨rfl, ret _ _ _ _ _ _ _ (Sx.pk (by wtm_at "M.a") (by wtm_at "M.pk"))⟩

set_option maxHeartbeats 4000000 in
theorem store0_spec (Z : Bs w b.heap) (S : Sx b ns nw s) (a : Ar A (n + 12) (ns.map (·.1)))
    (ret : ∀ x dx sz sd t0 t1 t2 t3 f t m g s', Sx b ns ((x, aIns 557 dx) :: (dx, aFld (stoF sz f t m g)) :: (f, aList []) :: (t, aList []) :: (m, aList []) :: (g, aList []) :: (sz, aIns 84 sd) :: (sd, aFld (sizF (.int 65536 t0) (.int 65536 t1) (.int 4294967295 t2) (.int 200 t3) .none)) :: nw) s' → Q (.ref x) s') : wpAny (model PySem.Challenge.pw_nm0155_01 w) A (call (.ref 557) []) Q E s := by
  refine make (n := n + 10) Z S a (by k_is) (fI := 442) (by k_is) (by k_is) fun A' x dx s a S => ?_
  refine call_fnR (n := n + 9) [((Str.ofString "self"), some (.ref x)), ((Str.ofString "sizes"), some .none)] [((Str.ofString "self"), .ref x), ((Str.ofString "sizes"), .none)] Z S a (by k_is) (by k_is) (BindsTo.of_defaults rfl ((S.K Z) 435 _ (by k_is)) rfl (by with_unfolding_all rfl) (by with_unfolding_all rfl)) (by rfl) (by decide) (by rfl) (by wtm_at "M.vals") (by wtm_at "M.locs") (by rfl) (by rfl) (by rfl) ?_
  wtm_at "M.enter"
  wtm_at "M.w"
  refine sizes0_spec (n := n) Z (by wtm_at "M.a") (Ar.less (by assumption) (by wtm_at "M.le")) fun sz sd t0 t1 t2 t3 s S => ?_
  wtm_at "M.w"
  exact ⟨rfl, ret _ _ _ _ _ _ _ _ _ _ _ _ _ (Sx.pk (by wtm_at "M.a") (by wtm_at "M.pk"))⟩
end

end
section
section
variable {prog : Program} {w : World} {A : Around} {E : Value → Shared → Prop} {s : Shared} {b : Shared} {ns : List (Addr × Vars)} {nw nw' : List (Addr × Sh)} {n : Nat} {k : Int} {u : Tok} {v : Value} {Q : Value → Shared → Prop} {its vs : List Value} {l sz sd x dx f t m g : Addr}

theorem PutO.new {a : Addr} {x y : Sh} (P : PutO a x y nw nw') : (a, y) ∈ nw' := by
  induction P with
  | head => exact .head _
  | tail _ ih => exact .tail _ ih
set_option maxHeartbeats 4000000 in
theorem things_spec (Z : Bs w b.heap) (S : Sx b ns nw s) (a : Ar A (n + 5) (ns.map (·.1))) (hx : (x, aIns 557 dx) ∈ nw) (hdx : (dx, aFld (stoF sz f t m g)) ∈ nw)
    (ok : ∀ v s', 0 ≤ k → k < 4 → [Value.ref f, .ref t, .ref m, .ref g][k.toNat]? = some v → Sx b ns nw s' → Q v s') (bad : ∀ ex s', (k < 0 ∨ 4 ≤ k) → Fly b ns nw (Str.ofString "no such sort") ex s' → E ex s') :
    wpAny (model PySem.Challenge.pw_nm0155_01 w) A (call (.ref 449) [.ref x, .int k u]) Q E s := by
  refine call_fn [((Str.ofString "self"), some (.ref x)), ((Str.ofString "sort"), some (.int k u))] [((Str.ofString "self"), .ref x), ((Str.ofString "sort"), .int k u)] Z S a (by k_is) (by k_is) (BindsTo.of_eq (by with_unfolding_all rfl)) (by rfl) (by decide) (by rfl) (by wtm_at "M.vals") (by wtm_at "M.locs") (by rfl) (by rfl) (by rfl) ?_
  wtm_at "M.enter"
  wtm_at "M.w"
  rename Sx b _ ((_, aTup _) :: _) _ => S1
  refine of_sort_spec Z S1 (by assumption) (by wtm_at "M.mem") (Nat.le_of_ble_eq_true rfl) (fun v s' h0 h1 hv S2 => ?_) fun ex s' hc fl => ?_
  · wtm_at "M.w"
    exact ok _ _ h0 h1 hv (Sx.drop (by wtm_at "M.a"))
  · refine leave_next (by wtm_at "M.a") (by assumption) (by wtm_at "M.a") fl fun ex s' fl => ?_
    exact bad _ _ hc (fl.sub (List.sublist_cons_self _ _))

set_option maxHeartbeats 4000000 in
theorem thing_spec {i : Int} {ti : Tok} (Z : Bs w b.heap) (S : Sx b ns nw s) (a : Ar A (n + 6) (ns.map (·.1))) (hx : (x, aIns 557 dx) ∈ nw) (hdx : (dx, aFld (stoF sz f t m g)) ∈ nw) (hl : (f, aList its) ∈ nw) (hlen : its.length ≤ 1000)
    (ok : ∀ v s', 0 ≤ i → i < its.length → its[i.toNat]? = some v → Sx b ns nw s' → Q v s') (bad : ∀ ex s', (i < 0 ∨ (its.length : Int) ≤ i) → Fly b ns nw (Str.ofString "no such address") ex s' → E ex s') :
    wpAny (model PySem.Challenge.pw_nm0155_01 w) A (call (.ref 456) [.ref x, .int 0 u, .int i ti]) Q E s := by
  refine call_fn [((Str.ofString "self"), some (.ref x)), ((Str.ofString "sort"), some (.int 0 u)), ((Str.ofString "address"), some (.int i ti)), ((Str.ofString "some"), none)] [((Str.ofString "self"), .ref x), ((Str.ofString "sort"), .int 0 u), ((Str.ofString "address"), .int i ti)] Z S a (by k_is) (by k_is) (BindsTo.of_eq (by with_unfolding_all rfl)) (by rfl) (by decide) (by rfl) (by wtm_at "M.vals") (by wtm_at "M.locs") (by rfl) (by rfl) (by rfl) ?_
  wtm_at "M.enter"
  wtm_at "M.w"
  refine things_spec (n := n) Z (by wtm_at "M.a") (Ar.less (by assumption) (by wtm_at "M.le")) hx hdx (fun v s _ _ hv S => ?_) fun ex s' hc fl => (by omega)
  cases hv
  wtm_at "M.w"
  refine ite_of (fun h0 => ?_) fun h0 => ?_
  · wtm_at "M.w"
    refine c_len (by wtm_at "M.a") hl (by omega) fun t2 s S => ?_
    wtm_at "M.w"
    refine ite_of (fun h1 => ?_) fun h1 => ?_
    · wtm_at "M.w"
      wtm_at "M.mis"
      refine bad _ _ (.inr ?_) (by assumption)
      simp at h1; omega
    · have h0' : 0 ≤ i := of_decide_eq_true h0
      have h1' : i < its.length := by simpa using h1
      wtm_at "M.w"
      refine g_list (by wtm_at "M.a") hl h0' (by omega) (List.getElem?_eq_getElem (by omega)) ?_ (by with_unfolding_all rfl)
      wtm_at "M.w"
      exact ok _ _ h0' h1' (List.getElem?_eq_getElem (by omega)) (by wtm_at "M.a")
  · wtm_at "M.w"
    wtm_at "M.mis"
    refine bad _ _ (.inl (by simpa using h0)) (by assumption)

set_option maxHeartbeats 4000000 in
theorem added_spec (Z : Bs w b.heap) (S : Sx b ns nw s) (a : Ar A (n + 6) (ns.map (·.1))) (hx : (x, aIns 557 dx) ∈ nw) (hdx : (dx, aFld (stoF sz f t m g)) ∈ nw) (h0 : 0 ≤ k) (h4 : k < 4) (hl : [Value.ref f, .ref t, .ref m, .ref g][k.toNat]? = some (.ref l))
    (P : PutO l (aList its) (aList (its ++ [v])) nw nw') (hlen : its.length ≤ 1000) (ret : ∀ t s', Sx b ns nw' s' → Q (.int its.length t) s') :
    wpAny (model PySem.Challenge.pw_nm0155_01 w) A (call (.ref 463) [.ref x, .int k u, v]) Q E s := by
  refine call_fn [((Str.ofString "self"), some (.ref x)), ((Str.ofString "sort"), some (.int k u)), ((Str.ofString "thing"), some v), ((Str.ofString "some"), none)] [((Str.ofString "self"), .ref x), ((Str.ofString "sort"), .int k u), ((Str.ofString "thing"), v)] Z S a (by k_is) (by k_is) (BindsTo.of_eq (by with_unfolding_all rfl)) (by rfl) (by decide) (by rfl) (by wtm_at "M.vals") (by wtm_at "M.locs") (by rfl) (by rfl) (by rfl) ?_
  wtm_at "M.enter"
  wtm_at "M.w"
  refine things_spec (n := n) Z (by wtm_at "M.a") (Ar.less (by assumption) (by wtm_at "M.le")) hx hdx (fun v s _ _ hv S => ?_) fun ex s' hc fl => (by omega)
  rw [hl] at hv
  cases hv
  have hm := P.mem
  wtm_at "M.w"
  refine c_append (by wtm_at "M.a") P (by omega) fun s S => ?_
  wtm_at "M.w"
  refine c_len (by wtm_at "M.a") P.new (by rw [List.length_append]; simp; omega) fun t2 s S => ?_
  wtm_at "M.w"
  have e : ((its ++ [v]).length : Int) - 1 = its.length := by rw [List.length_append]; simp
  rw [e]
  exact ret _ _ (by wtm_at "M.a")

set_option maxHeartbeats 4000000 in
theorem add_func_spec (Z : Bs w b.heap) (S : Sx b ns nw s) (a : Ar A (n + 7) (ns.map (·.1))) (hx : (x, aIns 557 dx) ∈ nw) (hdx : (dx, aFld (stoF sz f t m g)) ∈ nw) (P : PutO f (aList its) (aList (its ++ [v])) nw nw') (hlen : its.length ≤ 1000) (ret : ∀ t s', Sx b ns nw' s' → Q (.int its.length t) s') :
    wpAny (model PySem.Challenge.pw_nm0155_01 w) A (call (.ref 470) [.ref x, v]) Q E s := by
  refine call_fn [((Str.ofString "self"), some (.ref x)), ((Str.ofString "func"), some v)] [((Str.ofString "self"), .ref x), ((Str.ofString "func"), v)] Z S a (by k_is) (by k_is) (BindsTo.of_eq (by with_unfolding_all rfl)) (by rfl) (by decide) (by rfl) (by wtm_at "M.vals") (by wtm_at "M.locs") (by rfl) (by rfl) (by rfl) ?_
  wtm_at "M.enter"
  wtm_at "M.w"
  refine added_spec (n := n) Z (by wtm_at "M.a") (Ar.less (by assumption) (by wtm_at "M.le")) hx hdx (by decide) (by decide) rfl P hlen fun t s S => ?_
  wtm_at "M.w"
  exact ret _ _ (by wtm_at "M.a")

set_option maxHeartbeats 4000000 in
theorem add_table_spec (Z : Bs w b.heap) (S : Sx b ns nw s) (a : Ar A (n + 7) (ns.map (·.1))) (hx : (x, aIns 557 dx) ∈ nw) (hdx : (dx, aFld (stoF sz f t m g)) ∈ nw) (P : PutO t (aList its) (aList (its ++ [v])) nw nw') (hlen : its.length ≤ 1000) (ret : ∀ t s', Sx b ns nw' s' → Q (.int its.length t) s') :
    wpAny (model PySem.Challenge.pw_nm0155_01 w) A (call (.ref 477) [.ref x, v]) Q E s := by
  refine call_fn [((Str.ofString "self"), some (.ref x)), ((Str.ofString "table"), some v)] [((Str.ofString "self"), .ref x), ((Str.ofString "table"), v)] Z S a (by k_is) (by k_is) (BindsTo.of_eq (by with_unfolding_all rfl)) (by rfl) (by decide) (by rfl) (by wtm_at "M.vals") (by wtm_at "M.locs") (by rfl) (by rfl) (by rfl) ?_
  wtm_at "M.enter"
  wtm_at "M.w"
  refine added_spec (n := n) Z (by wtm_at "M.a") (Ar.less (by assumption) (by wtm_at "M.le")) hx hdx (by decide) (by decide) rfl P hlen fun t s S => ?_
  wtm_at "M.w"
  exact ret _ _ (by wtm_at "M.a")

set_option maxHeartbeats 4000000 in
theorem add_memory_spec (Z : Bs w b.heap) (S : Sx b ns nw s) (a : Ar A (n + 7) (ns.map (·.1))) (hx : (x, aIns 557 dx) ∈ nw) (hdx : (dx, aFld (stoF sz f t m g)) ∈ nw) (P : PutO m (aList its) (aList (its ++ [v])) nw nw') (hlen : its.length ≤ 1000) (ret : ∀ t s', Sx b ns nw' s' → Q (.int its.length t) s') :
    wpAny (model PySem.Challenge.pw_nm0155_01 w) A (call (.ref 484) [.ref x, v]) Q E s := by
  refine call_fn [((Str.ofString "self"), some (.ref x)), ((Str.ofString "memory"), some v)] [((Str.ofString "self"), .ref x), ((Str.ofString "memory"), v)] Z S a (by k_is) (by k_is) (BindsTo.of_eq (by with_unfolding_all rfl)) (by rfl) (by decide) (by rfl) (by wtm_at "M.vals") (by wtm_at "M.locs") (by rfl) (by rfl) (by rfl) ?_
  wtm_at "M.enter"
  wtm_at "M.w"
  refine added_spec (n := n) Z (by wtm_at "M.a") (Ar.less (by assumption) (by wtm_at "M.le")) hx hdx (by decide) (by decide) rfl P hlen fun t s S => ?_
  wtm_at "M.w"
  exact ret _ _ (by wtm_at "M.a")

set_option maxHeartbeats 4000000 in
theorem marks_spec {l0 l1 l2 l3 : List Value} (Z : Bs w b.heap) (S : Sx b ns nw s) (a : Ar A (n + 2) (ns.map (·.1))) (hx : (x, aIns 557 dx) ∈ nw) (hdx : (dx, aFld (stoF sz f t m g)) ∈ nw) (m0 : (f, aList l0) ∈ nw) (m1 : (t, aList l1) ∈ nw) (m2 : (m, aList l2) ∈ nw) (m3 : (g, aList l3) ∈ nw)
    (h0 : l0.length ≤ 1000) (h1 : l1.length ≤ 1000) (h2 : l2.length ≤ 1000) (h3 : l3.length ≤ 1000)
    (ret : ∀ r t0 t1 t2 t3 s', Sx b ns ((r, aTup [.int l0.length t0, .int l1.length t1, .int l2.length t2, .int l3.length t3]) :: nw) s' → Q (.ref r) s') :
    wpAny (model PySem.Challenge.pw_nm0155_01 w) A (call (.ref 547) [.ref x]) Q E s := by
  refine call_fn [((Str.ofString "self"), some (.ref x))] [((Str.ofString "self"), .ref x)] Z S a (by k_is) (by k_is) (BindsTo.of_eq (by with_unfolding_all rfl)) (by rfl) (by decide) (by rfl) (by wtm_at "M.vals") (by wtm_at "M.locs") (by rfl) (by rfl) (by rfl) ?_
  wtm_at "M.enter"
  wtm_at "M.w"
  refine c_len (by wtm_at "M.a") m0 (by omega) fun t2 s S => ?_
  wtm_at "M.w"
  refine c_len (by wtm_at "M.a") m1 (by omega) fun t2 s S => ?_
  wtm_at "M.w"
  refine c_len (by wtm_at "M.a") m2 (by omega) fun t2 s S => ?_
  wtm_at "M.w"
  refine c_len (by wtm_at "M.a") m3 (by omega) fun t2 s S => ?_
  wtm_at "M.w"
  exact ret _ _ _ _ _ _ (by wtm_at "M.a")
end

end
section
section
variable {prog : Program} {w : World} {A : Around} {E : Value → Shared → Prop} {s : Shared} {b : Shared} {ns : List (Addr × Vars)} {nw : List (Addr × Sh)} {nw' : Addr → List (Addr × Sh)} {n : Nat} {u : Tok} {v v2 v3 v4 : Value} {Q : Value → Shared → Prop} {its : List Value} {l sz sd x dx f t m g : Addr} {es least : Int} {tp tq tl : Tok}
theorem l_mul {k : Int} (S : Sx b ns nw s) (hm : (l, aList [v]) ∈ nw) (h0 : 0 ≤ k) (h1 : k ≤ 1000) (h : ∀ D s', Sx b ns nw s' → Q (.ref D) s') : wpAny (model prog w) A (binaryOp .Mult (.ref l) (.int k u)) Q E s := by
  obtain ⟨c, hl⟩ := S.st.listObj hm
  refine wpAny_binaryOp_repeat_ref (T := "list") (U := "int") (by decide) ⟨_, hl, rfl⟩ (fun s' => typeIs_int s' k u) noFill_list_mul F.fills_int_mul F.slot_int_rmul repeat_list F.slot_int_index.lookup
    (call_meets F.slot_int_rmul (typeIs_int s k u) F.entry_int_rmul (F.args_int_rmul_2 _ _) (int___rmul___int_list k u l [v].toArray c)
      ⟨hl, rfl, ⟨_, hl, rfl⟩, call_meets F.slot_list_mul ⟨_, hl, rfl⟩ F.entry_list_mul (F.args_list_mul_2 _ _)
        (AutoListH.list___mul___list_int_3 l [v].toArray c k u (by simp [Builtin.List.listFitsIndex]; omega) (by simp; omega) (by simp [Builtin.List.listTooLong, sizeLine_eq]; omega))
        ⟨hl, h _ _ ⟨S.st.ext fun _ _ e => Heap.get?_push_of_some _ e, S.g, S.o⟩⟩⟩)

set_option maxHeartbeats 4000000 in
theorem table_spec {kv : Value} (Z : Bs w b.heap) (S : Sx b ns nw s) (a : Ar A (n + 6) (ns.map (·.1))) (hsz : (sz, aIns 84 sd) ∈ nw) (hsd : (sd, aFld (sizF v2 v3 (.int es tp) v4 v)) ∈ nw) (h0 : 0 ≤ least) (h1 : least ≤ 10) {mv : Value}
    (ok : ∀ x s', least ≤ es → Sx b ns nw s' → Q (.ref x) s') (bad : ∀ ex s', es < least → Fly b ns nw (Str.ofString "more elements than are let") ex s' → E ex s') :
    wpAny (model PySem.Challenge.pw_nm0155_01 w) A (call (.ref 325) [kv, .int least tl, mv, .ref sz]) Q E s := by
  refine make Z S a (by k_is) (fI := 252) (by k_is) (by k_is) fun A' x dx s a S => ?_
  refine call_fnR [((Str.ofString "self"), some (.ref x)), ((Str.ofString "kind"), some kv), ((Str.ofString "least"), some (.int least tl)), ((Str.ofString "most"), some mv), ((Str.ofString "sizes"), some (.ref sz))] [((Str.ofString "self"), .ref x), ((Str.ofString "kind"), kv), ((Str.ofString "least"), .int least tl), ((Str.ofString "most"), mv), ((Str.ofString "sizes"), .ref sz)] Z S a (by k_is) (by k_is) (BindsTo.of_eq (by with_unfolding_all rfl)) (by rfl) (by decide) (by rfl) (by wtm_at "M.vals") (by wtm_at "M.locs") (by rfl) (by rfl) (by rfl) ?_
  wtm_at "M.enter"
  wtm_at "M.w"
  refine ite_of (fun hc => ?_) fun hc => ?_
  · wtm_at "M.w"
    wtm_at "M.mis"
    rename Fly _ _ _ _ _ _ => fl
    exact bad _ _ (of_decide_eq_true hc) (fl.sub (.cons _ (.cons _ (.refl _))))
  · wtm_at "M.w"
    refine l_mul (by wtm_at "M.a") (by wtm_at "M.mem") h0 (by omega) fun D s S => ?_
    wtm_at "M.w"
    have hc := of_decide_eq_false hc
    exact ⟨rfl, ok _ _ (by omega) (Sx.pk (by wtm_at "M.a") (by wtm_at "M.pk"))⟩

set_option maxHeartbeats 4000000 in
theorem make_table_spec {ab : Addr} {kv mv : Value} (Z : Bs w b.heap) (S : Sx b ns nw s) (a : Ar A (n + 10) (ns.map (·.1))) (hx : (x, aIns 557 dx) ∈ nw) (hdx : (dx, aFld (stoF sz f t m g)) ∈ nw) (hsz : (sz, aIns 84 sd) ∈ nw) (hsd : (sd, aFld (sizF v2 v3 (.int es tp) v4 v)) ∈ nw) (h0 : 0 ≤ least) (h1 : least ≤ 10)
    (hab : (ab, aTup [kv, .int least tl, mv]) ∈ nw) (P : ∀ mo, PutO t (aList its) (aList (its ++ [.ref mo])) nw (nw' mo)) (hlen : its.length ≤ 1000)
    (ok : ∀ mo t s', least ≤ es → Sx b ns (nw' mo) s' → Q (.int its.length t) s') (bad : ∀ ex s', es < least → Fly b ns nw (Str.ofString "more elements than are let") ex s' → E ex s') :
    wpAny (model PySem.Challenge.pw_nm0155_01 w) A (call (.ref 498) [.ref x, .ref ab]) Q E s := by
  refine call_fn [((Str.ofString "self"), some (.ref x)), ((Str.ofString "about"), some (.ref ab))] [((Str.ofString "self"), .ref x), ((Str.ofString "about"), .ref ab)] Z S a (by k_is) (by k_is) (BindsTo.of_eq (by with_unfolding_all rfl)) (by rfl) (by decide) (by rfl) (by wtm_at "M.vals") (by wtm_at "M.locs") (by rfl) (by rfl) (by rfl) ?_
  wtm_at "M.enter"
  wtm_at "M.w"
  refine table_spec (n := n) Z (by wtm_at "M.a") (Ar.less (by assumption) (by wtm_at "M.le")) hsz hsd h0 h1 (fun mo s hle S => ?_) fun ex s hlt fl => ?_
  · wtm_at "M.w"
    refine add_table_spec (n := n) Z (by wtm_at "M.a") (Ar.less (by assumption) (by wtm_at "M.le")) hx hdx (P mo) hlen fun t s S => ?_
    wtm_at "M.w"
    exact ok _ _ _ hle (by wtm_at "M.a")
  · exact leave_next (by wtm_at "M.a") (by assumption) (by wtm_at "M.a") fl fun ex s' fl => bad _ _ hlt fl
end

end
section
section
variable {w : World} {A : Around} {E : Value → Shared → Prop} {s : Shared} {b : Shared} {ns : List (Addr × Vars)} {nw : List (Addr × Sh)} {nw' : Addr → Addr → List (Addr × Sh)} {n : Nat} {u : Tok} {v v2 v3 v4 : Value} {Q : Value → Shared → Prop} {its : List Value} {sz sd x dx f t m g C l fl : Addr} {nm : Str} {l' : List (Str × Value)} {pos : Pos} {env : Env}
theorem m_val {pl : Sem Bool} {Q : Value × List Value → Shared → Prop} (Z : Bs w b.heap) (S : Sx b ns nw s) (hx : (x, aIns C dx) ∈ nw) (hdx : (dx, aFld l') ∈ nw) (hv : l'.lookup nm = some v)
    (hg : findIn (hd.heap_1 w.params) (.ref C) "__getattribute__" = some (some (.builtin "object.__getattribute__"))) (hk : findIn (hd.heap_1 w.params) (.ref C) "__getattr__" = some none) (hdi : hasDictIn (hd.heap_1 w.params) C = true) (hf : findIn (hd.heap_1 w.params) (.ref C) nm = some none)
    (hh : handedIn v = true) (h : ∀ s', Sx b ns nw s' → Q (v, []) s') : wpAny (model PySem.Challenge.pw_nm0155_01 w) A (getMethod (.ref x) nm pl) Q E s := by
  obtain ⟨es, n, I, ho, he⟩ := S.inst hx hdx
  exact method_usual (S.K Z) I hg hk hf rfl (a_get Z S hx hdx hv hg hdi hf hh h)
theorem cw_fn {e : Expr} {rest : List Expr} {first : List Value} {qual : Str} {params : Arguments} {body : Expr} {scope : Scope} {clos : List (Str × Addr)} {c : Addr} (S : Sx b ns nw s) (hf : (f, aLam qual params body scope clos c) ∈ nw)
    (h : wpAny (model PySem.Challenge.pw_nm0155_01 w) A (spliced (backTo pos (starEach (e :: rest) env))) (fun vs s₁ => ∃ ns nw, Sx b ns nw s₁ ∧ (f, aLam qual params body scope clos c) ∈ nw ∧ wpAny (model PySem.Challenge.pw_nm0155_01 w) A (call (.ref f) (first ++ vs)) Q E s₁) E s)
    (he : starEach (e :: rest) env = (false, eval e env) :: starEach rest env) (hplain : (backTo pos (starEach rest env)).any (·.1) = false) : wpAny (model PySem.Challenge.pw_nm0155_01 w) A (callWith pos (.ref f) first (backTo pos (starEach (e :: rest) env)) []) Q E s := by
  rw [he] at h ⊢
  refine callWith_of (P := fun h => ∃ o fd, h.get? f = some o ∧ o.data = .func fd) (by show ((false || (backTo pos (starEach rest env)).any (·.1)) || false) = false; rw [hplain]; rfl)
    (fun h ⟨o, fd, e, hd⟩ => ⟨.frame, .inl rfl, (Looks.ld (part := none) e).andThen (by rw [hd]; exact .now)⟩) (Calls.evalArgs_plain (wpAny_mono h (fun vs s₁ q => ?_) fun _ _ x => x))
  obtain ⟨ns, nw, S, m, k⟩ := q
  obtain ⟨⟨o, ho, pm, ctv, rfl⟩, _⟩ := S.st.objs _ m
  exact ⟨⟨_, _, ho, rfl⟩, k⟩

abbrev hosF (kt f : Addr) : List (Str × Value) := [((Str.ofString "kind"), .ref kt), ((Str.ofString "action"), .ref f)]
set_option maxHeartbeats 4000000 in
theorem make_host_spec {kt : Addr} (Z : Bs w b.heap) (S : Sx b ns nw s) (a : Ar A (n + 10) (ns.map (·.1))) (hx : (x, aIns 557 dx) ∈ nw) (hdx : (dx, aFld (stoF sz f t m g)) ∈ nw) {fa : Addr}
    (P : ∀ ho hd, PutO f (aList its) (aList (its ++ [.ref ho])) ((ho, aIns 360 hd) :: (hd, aFld (hosF kt fa)) :: nw) (nw' ho hd)) (hlen : its.length ≤ 1000) (ret : ∀ ho hd t s', Sx b ns (nw' ho hd) s' → Q (.int its.length t) s') :
    wpAny (model PySem.Challenge.pw_nm0155_01 w) A (call (.ref 519) [.ref x, .ref kt, .ref fa]) Q E s := by
  refine call_fn [((Str.ofString "self"), some (.ref x)), ((Str.ofString "kind"), some (.ref kt)), ((Str.ofString "action"), some (.ref fa))] [((Str.ofString "self"), .ref x), ((Str.ofString "kind"), .ref kt), ((Str.ofString "action"), .ref fa)] Z S a (by k_is) (by k_is) (BindsTo.of_eq (by with_unfolding_all rfl)) (by rfl) (by decide) (by rfl) (by wtm_at "M.vals") (by wtm_at "M.locs") (by rfl) (by rfl) (by rfl) ?_
  wtm_at "M.enter"
  wtm_at "M.w"
  refine make (n := n + 6) Z (by wtm_at "M.a") (Ar.less (by assumption) (by wtm_at "M.le")) (by k_is) (fI := 343) (by k_is) (by k_is) fun A2 ho hd s a2 S2 => ?_
  refine call_fnR (n := n + 5) [((Str.ofString "self"), some (.ref ho)), ((Str.ofString "kind"), some (.ref kt)), ((Str.ofString "action"), some (.ref fa))] [((Str.ofString "self"), .ref ho), ((Str.ofString "kind"), .ref kt), ((Str.ofString "action"), .ref fa)] Z S2 a2 (by k_is) (by k_is) (BindsTo.of_eq (by with_unfolding_all rfl)) (by rfl) (by decide) (by rfl) (by wtm_at "M.vals") (by wtm_at "M.locs") (by rfl) (by rfl) (by rfl) ?_
  wtm_at "M.enter"
  wtm_at "M.w"
  refine ⟨rfl, ?_⟩
  wtm_at "M.w"
  refine add_func_spec (n := n) Z (by wtm_at "M.a") (Ar.less (by assumption) (by wtm_at "M.le")) (by wtm_at "M.mem") (by wtm_at "M.mem") (P ho hd) hlen fun t s S => ?_
  wtm_at "M.w"
  exact ret _ _ _ _ (by wtm_at "M.a")

set_option maxHeartbeats 4000000 in
theorem is_host_spec (Z : Bs w b.heap) (S : Sx b ns nw s) (a : Ar A (n + 2) (ns.map (·.1))) (ret : ∀ s', Sx b ns nw s' → Q (.bool true) s') : wpAny (model PySem.Challenge.pw_nm0155_01 w) A (call (.ref 350) [.ref x]) Q E s := by
  refine call_fn [((Str.ofString "self"), some (.ref x))] [((Str.ofString "self"), .ref x)] Z S a (by k_is) (by k_is) (BindsTo.of_eq (by with_unfolding_all rfl)) (by rfl) (by decide) (by rfl) (by wtm_at "M.vals") (by wtm_at "M.locs") (by rfl) (by rfl) (by rfl) ?_
  wtm_at "M.enter"
  wtm_at "M.w"
  exact ret _ (by wtm_at "M.a")
end

end
section
section
variable {w : World} {A : Around} {E : Value → Shared → Prop} {s : Shared} {b : Shared} {ns : List (Addr × Vars)} {nw : List (Addr × Sh)} {n : Nat} {u : Tok} {Q : Value → Shared → Prop} {its its0 its1 vs : List Value} {ks : List Int} {sz sd x dx f t m g l fa kt k0 k1 vl : Addr}
set_option maxHeartbeats 4000000 in
theorem run_spec {qual : Str} {params : Arguments} {lbody : Expr} {scope : Scope} {clos : List (Str × Addr)} {c : Addr} (Z : Bs w b.heap) (S : Sx b ns nw s) (a : Ar A (n + 10) (ns.map (·.1))) (hx : (x, aIns 360 dx) ∈ nw) (hdx : (dx, aFld (hosF kt fa)) ∈ nw)
    (hkt : (kt, aTup [.ref k0, .ref k1]) ∈ nw) (hk1 : (k1, aTup its1) ∈ nw) (hi : IntsAre its1 ks) (hvl : (vl, aList its) ∈ nw) (hl : its.length ≤ 100) (hfa : (fa, aLam qual params lbody scope clos c) ∈ nw) (h1 : its1.length ≤ 100) (h2 : vs.length ≤ 100) (hp : ∀ v ∈ vs, Plain nw v)
    (hcall : ∀ A' D s' ns' nw1 Q' E', Ar A' (n + 8) (ns'.map (·.1)) → (∀ p ∈ nw, p ∈ nw1) → Sx b ns' nw1 s' → (∀ T s'', Sx b ns' ((T, aTup vs) :: nw1) s'' → Q' (.ref T) s'') → wpAny (model PySem.Challenge.pw_nm0155_01 w) A' (call (.ref fa) [.ref D]) Q' E' s')
    (ok : ∀ D s', fitL ks vs = true → Sx b ns ((D, aList vs) :: nw) s' → Q (.ref D) s') (bad : ∀ ex s', fitL ks vs = false → Fly b ns nw (Str.ofString "results of another kind") ex s' → E ex s') :
    wpAny (model PySem.Challenge.pw_nm0155_01 w) A (call (.ref 357) [.ref x, .ref vl]) Q E s := by
  refine call_fn [((Str.ofString "self"), some (.ref x)), ((Str.ofString "values"), some (.ref vl)), ((Str.ofString "found"), none)] [((Str.ofString "self"), .ref x), ((Str.ofString "values"), .ref vl)] Z S a (by k_is) (by k_is) (BindsTo.of_eq (by with_unfolding_all rfl)) (by rfl) (by decide) (by rfl) (by wtm_at "M.vals") (by wtm_at "M.locs") (by rfl) (by rfl) (by rfl) ?_
  intro A' env s V tp a S
  dsimp only at V S
  wtm_at "M.w"
  refine m_val Z (by wtm_at "M.a") hx hdx (by with_unfolding_all rfl) (by with_unfolding_all k_is) (by with_unfolding_all k_is) (by with_unfolding_all k_is) (by with_unfolding_all k_is) (by with_unfolding_all rfl) fun s S => ?_
  refine cw_fn S hfa ?_ (by with_unfolding_all rfl) (by with_unfolding_all rfl)
  wtm_at "M.w"
  refine c_listL (by wtm_at "M.a") hvl (by omega) fun D s S => ?_
  wtm_at "M.w"
  refine ⟨_, _, S, .tail _ hfa, ?_⟩
  refine hcall A' D s _ _ _ _ (a.less (by wtm_at "M.le")) (fun p h => .tail _ h) S fun T s S => ?_
  wtm_at "M.w"
  refine c_listT (by wtm_at "M.a") (by wtm_at "M.mem") (by omega) fun D2 s S => ?_
  wtm_at "M.w"
  refine do_fit_spec (n := n) Z (by wtm_at "M.a") (by exact a.less (by wtm_at "M.le")) (by wtm_at "M.mem") hi (by wtm_at "M.mem") (fun v hv => (hp v hv).mono fun p h => .tail _ (.tail _ (.tail _ h))) h1 h2 fun s S => ?_
  wtm_at "M.w"
  refine ite_of (fun hc => ?_) fun hc => ?_
  · wtm_at "M.w"
    wtm_at "M.mis"
    rename Fly _ _ _ _ _ _ => fl
    exact bad _ _ (by simpa using hc) (fl.sub (.cons _ (.cons _ (.cons _ (.refl _)))))
  · wtm_at "M.w"
    exact ok _ _ (by simpa using hc) (Sx.pk (by wtm_at "M.a") (by wtm_at "M.pk"))

set_option maxHeartbeats 4000000 in
theorem func_kind_spec {ho hd : Addr} {i : Int} {ti : Tok} (Z : Bs w b.heap) (S : Sx b ns nw s) (a : Ar A (n + 8) (ns.map (·.1))) (hx : (x, aIns 557 dx) ∈ nw) (hdx : (dx, aFld (stoF sz f t m g)) ∈ nw) (hl : (f, aList [.ref ho]) ∈ nw) (hho : (ho, aIns 360 hd) ∈ nw) (hhd : (hd, aFld (hosF kt fa)) ∈ nw)
    (h0 : i = 0) (ret : ∀ s', Sx b ns nw s' → Q (.ref kt) s') : wpAny (model PySem.Challenge.pw_nm0155_01 w) A (call (.ref 526) [.ref x, .int i ti]) Q E s := by
  refine call_fn [((Str.ofString "self"), some (.ref x)), ((Str.ofString "address"), some (.int i ti))] [((Str.ofString "self"), .ref x), ((Str.ofString "address"), .int i ti)] Z S a (by k_is) (by k_is) (BindsTo.of_eq (by with_unfolding_all rfl)) (by rfl) (by decide) (by rfl) (by wtm_at "M.vals") (by wtm_at "M.locs") (by rfl) (by rfl) (by rfl) ?_
  subst h0
  wtm_at "M.enter"
  wtm_at "M.w"
  refine thing_spec (n := n) Z (by wtm_at "M.a") (Ar.less (by assumption) (by wtm_at "M.le")) hx hdx hl (by simp) (fun v s _ _ hv S => ?_) fun ex s hc fl => ?_
  · cases hv
    wtm_at "M.w"
    exact ret _ (by wtm_at "M.a")
  · exfalso; simp at hc

set_option maxHeartbeats 4000000 in
theorem want_values_spec {ho hd : Addr} {ti : Tok} (Z : Bs w b.heap) (S : Sx b ns nw s) (a : Ar A (n + 10) (ns.map (·.1))) (hx : (x, aIns 557 dx) ∈ nw) (hdx : (dx, aFld (stoF sz f t m g)) ∈ nw) (hl : (f, aList [.ref ho]) ∈ nw) (hho : (ho, aIns 360 hd) ∈ nw) (hhd : (hd, aFld (hosF kt fa)) ∈ nw)
    (hkt : (kt, aTup [.ref k0, .ref k1]) ∈ nw) (hk0 : (k0, aTup its0) ∈ nw) (hi : IntsAre its0 ks) (hnf : ∀ k ∈ ks, k ≠ -16) (hvl : (vl, aList vs) ∈ nw) (h1 : its0.length ≤ 100) (h2 : vs.length ≤ 100) (hp : ∀ v ∈ vs, Plain nw v)
    (ok : ∀ s', fitL ks vs = true → Sx b ns nw s' → Q .none s') (bad : ∀ ex s', fitL ks vs = false → Fly b ns nw (Str.ofString "values of another kind") ex s' → E ex s') :
    wpAny (model PySem.Challenge.pw_nm0155_01 w) A (call (.ref 540) [.ref x, .int 0 ti, .ref vl]) Q E s := by
  refine call_fn [((Str.ofString "self"), some (.ref x)), ((Str.ofString "address"), some (.int 0 ti)), ((Str.ofString "values"), some (.ref vl)), ((Str.ofString "kinds"), none), ((Str.ofString "kind"), none), ((Str.ofString "value"), none)] [((Str.ofString "self"), .ref x), ((Str.ofString "address"), .int 0 ti), ((Str.ofString "values"), .ref vl)] Z S a (by k_is) (by k_is) (BindsTo.of_eq (by with_unfolding_all rfl)) (by rfl) (by decide) (by rfl) (by wtm_at "M.vals") (by wtm_at "M.locs") (by rfl) (by rfl) (by rfl) ?_
  intro A' env s V tp a S
  dsimp only at V S
  wtm_at "M.w"
  refine func_kind_spec (n := n) Z (by wtm_at "M.a") (by exact a.less (by wtm_at "M.le")) hx hdx hl hho hhd rfl fun s S => ?_
  wtm_at "M.w"
  refine do_fit_spec (n := n) Z (by wtm_at "M.a") (by exact a.less (by wtm_at "M.le")) hk0 hi hvl hp h1 h2 fun s S => ?_
  wtm_at "M.w"
  refine ite_of (fun hc => ?_) fun hc => ?_
  · wtm_at "M.w"
    wtm_at "M.mis"
    exact bad _ _ (by simpa using hc) (by assumption)
  · have hfit : fitL ks vs = true := by simpa using hc
    have he : its0.length = vs.length := by
      have hq := hfit
      unfold fitL at hq
      have := (Bool.and_eq_true_iff.mp hq).1
      have h3 := hi.length
      rw [beq_iff_eq] at this
      omega
    wtm_at "M.w"
    refine c_zip (by wtm_at "M.a") hk0 hvl fun z TI TO i1 i2 s S => ?_
    refine p_zip S (.head _) ?_
    refine x_loopP (wt_zip a.hd he) (fun i ns' nw' => ∃ o1 o2, ns' = (env.locals, [((Str.ofString "self"), some (.ref x)), ((Str.ofString "address"), some (.int 0 ti)), ((Str.ofString "values"), some (.ref vl)), ((Str.ofString "kinds"), some (.ref k0)), ((Str.ofString "kind"), o1), ((Str.ofString "value"), o2)]) :: ns ∧ nw' = nw) (fun i ns' nw' h => by obtain ⟨_, _, _, rfl⟩ := h; exact ⟨hk0, hvl⟩) ⟨_, _, rfl⟩ S ⟨_, _, rfl, rfl⟩ (by rfl) (by rfl) (fun i ns' nw' xs s v1 v2 E' hi' hJ hP hX S => ?_) (fun ns' nw' s hJ S => ?_)
    · obtain ⟨o1, o2, rfl, rfl⟩ := hJ
      obtain ⟨x0, y0, rfl⟩ := hX
      obtain ⟨hx', hy'⟩ := hP
      obtain ⟨kk, tk, rfl, hk⟩ := hi.at i _ hx'
      have hne := hnf kk (List.mem_of_getElem? hk)
      dsimp only [List.cons_append, List.nil_append] at S
      wtm_at "M.w"
      refine ite_f ?_ (by simpa using hne)
      wtm_at "M.w"
      rename Sx b _ ((_, aZ _ _ _) :: _) _ => S9
      exact LoopP.next (xs := zipX z TI TO i1 i2 k0 vl .none (i + 1) x0 y0) ⟨_, _, rfl, rfl⟩ ⟨_, _, rfl⟩ S9
    · obtain ⟨o1, o2, rfl, rfl⟩ := hJ
      wtm_at "M.w"
      exact ok _ hfit (by wtm_at "M.a")
end

end
section
section
variable {w : World} {A : Around} {E : Value → Shared → Prop} {s : Shared} {b : Shared} {ns : List (Addr × Vars)} {nw : List (Addr × Sh)} {n : Nat}
def HL (fit : Bool) (vs : List Value) (wd : Str) (N : List (Addr × Sh)) (R : List Value) : Prop :=
  (fit = true ∧ ∃ k D, R = [.str (Str.ofString "told") k, .ref D] ∧ (D, aList vs) ∈ N) ∨ (fit = false ∧ ∃ k k', R = [.str (Str.ofString "misused") k, .str wd k'])
def HV (fit : Bool) (v : Value) (wd : Str) (R : List Value) : Prop := (fit = true ∧ ∃ k, R = [.str (Str.ofString "told") k, v]) ∨ (fit = false ∧ ∃ k k', R = [.str (Str.ofString "misused") k, .str wd k'])
theorem HL.up {fit vs wd N R N2} (h : HL fit vs wd N R) (m : ∀ p ∈ N, p ∈ N2) : HL fit vs wd N2 R := by
  rcases h with ⟨h, k, D, e, hm⟩ | h
  · exact .inl ⟨h, k, D, e, m _ hm⟩
  · exact .inr h
theorem HL.sm {fit vs wd N R R' L r q} (h : HL fit vs wd N R) (h' : HL fit vs wd N R') (m : (r, aTup R) ∈ L) (m' : (q, aTup R') ∈ L) (sub : ∀ p ∈ N, p ∈ L) : SmD L 3 (.ref r) (.ref q) := by
  rcases h with ⟨e, k, D, rfl, hm⟩ | ⟨e, k, k1, rfl⟩ <;> rcases h' with ⟨e', k', D', rfl, hm'⟩ | ⟨e', k', k1', rfl⟩
  · exact .tup m m' (.cons .str (.cons (.list (sub _ hm) (sub _ hm') (A2.refl SmD.refl _)) .nil))
  · rw [e] at e'; cases e'
  · rw [e] at e'; cases e'
  · exact .tup m m' (.cons .str (.cons .str .nil))
theorem HV.sm {fit v wd R R' L r q} (h : HV fit v wd R) (h' : HV fit v wd R') (m : (r, aTup R) ∈ L) (m' : (q, aTup R') ∈ L) : SmD L 3 (.ref r) (.ref q) := by
  rcases h with ⟨e, k, rfl⟩ | ⟨e, k, k1, rfl⟩ <;> rcases h' with ⟨e', k', rfl⟩ | ⟨e', k', k1', rfl⟩
  · exact .tup m m' (.cons .str (.cons (.refl _) .nil))
  · rw [e] at e'; cases e'
  · rw [e] at e'; cases e'
  · exact .tup m m' (.cons .str (.cons .str .nil))
theorem hl_join {fit vs wd R nw1 r s} {p q : Addr × Sh} {N0 : List (Addr × Sh)} (o : Out (fun v nw1 => ∃ D, v = .ref D ∧ fit = true ∧ nw1 = (D, aList vs) :: p :: q :: N0) (fun x nw1 => nw1 = p :: q :: N0 ∧ x = wd ∧ fit = false) R nw1) (S : Sx b ns ((r, aTup R) :: nw1) s) :
    ∃ N2, HL fit vs wd N2 R ∧ (r, aTup R) ∈ N2 ∧ (∀ r ∈ N0, r ∈ N2) ∧ (∀ t, Pk t N0 → Pk t N2) ∧ Sx b ns (p :: q :: N2) s := by
  rcases o with ⟨k, v, rfl, D, rfl, e, rfl⟩ | ⟨k, k', x, rfl, rfl, rfl, e⟩
  · exact ⟨(r, aTup [.str (Str.ofString "told") k, .ref D]) :: (D, aList vs) :: N0, .inl ⟨e, k, D, rfl, .tail _ (.head _)⟩, .head _, fun _ h => .tail _ (.tail _ h), fun _ h => .drop (.drop h), S.pk (.take (.skip (.skip .here)) (.take (.skip (.skip .here)) (.refl _)))⟩
  · exact ⟨(r, aTup [.str (Str.ofString "misused") k, .str x k']) :: N0, .inr ⟨e, k, k', rfl⟩, .head _, fun _ h => .tail _ h, fun _ h => .drop h, S.pk (.take (.skip .here) (.take (.skip .here) (.refl _)))⟩
theorem hv_join {fit v0 wd R nw1 r s} {p q : Addr × Sh} {N0 : List (Addr × Sh)} (o : Out (fun v nw1 => v = v0 ∧ fit = true ∧ nw1 = p :: q :: N0) (fun x nw1 => nw1 = p :: q :: N0 ∧ x = wd ∧ fit = false) R nw1) (S : Sx b ns ((r, aTup R) :: nw1) s) :
    ∃ N2, HV fit v0 wd R ∧ (r, aTup R) ∈ N2 ∧ (∀ r ∈ N0, r ∈ N2) ∧ (∀ t, Pk t N0 → Pk t N2) ∧ Sx b ns (p :: q :: N2) s := by
  rcases o with ⟨k, v, rfl, rfl, e, rfl⟩ | ⟨k, k', x, rfl, rfl, rfl, e⟩
  · exact ⟨(r, aTup [.str (Str.ofString "told") k, v]) :: N0, .inl ⟨e, k, rfl⟩, .head _, fun _ h => .tail _ h, fun _ h => .drop h, S.pk (.take (.skip .here) (.take (.skip .here) (.refl _)))⟩
  · exact ⟨(r, aTup [.str (Str.ofString "misused") k, .str x k']) :: N0, .inr ⟨e, k, k', rfl⟩, .head _, fun _ h => .tail _ h, fun _ h => .drop h, S.pk (.take (.skip .here) (.take (.skip .here) (.refl _)))⟩
structure HN (N : List (Addr × Sh)) (ho hd tp fa d1 D2 D c1 c3 c4 f x dx k0 k1 pen sz t m g : Addr) (shf shc : Sh) (vs its0 its1 : List Value) (T0 : List (Addr × Sh)) : Prop where
  mho : (ho, aIns 360 hd) ∈ N
  mhd : (hd, aFld (hosF tp fa)) ∈ N
  mfa : (fa, shf) ∈ N
  md1 : (d1, shc) ∈ N
  mtp : (tp, aTup [.ref k0, .ref k1]) ∈ N
  mD2 : (D2, aList vs) ∈ N
  mD : (D, aList [.ref k0, .ref k1]) ∈ N
  mc1 : (c1, aCell (some (.ref D2))) ∈ N
  mc3 : (c3, aCell (some (.ref x))) ∈ N
  mc4 : (c4, aCell (some (.ref pen))) ∈ N
  mf : (f, aList [.ref ho]) ∈ N
  mx : (x, aIns 557 dx) ∈ N
  mdx : (dx, aFld (stoF sz f t m g)) ∈ N
  mk0 : (k0, aTup its0) ∈ N
  mk1 : (k1, aTup its1) ∈ N
  mkp : Pk ((c3, aCell (some (.ref x))) :: (c4, aCell (some (.ref pen))) :: (f, aList [.ref ho]) :: T0) N
theorem HN.up {N N2 ho hd tp fa d1 D2 D c1 c3 c4 f x dx k0 k1 pen sz t m g shf shc vs its0 its1 T0} (h : HN N ho hd tp fa d1 D2 D c1 c3 c4 f x dx k0 k1 pen sz t m g shf shc vs its0 its1 T0) (mm : ∀ p ∈ N, p ∈ N2) (kk : ∀ t, Pk t N → Pk t N2) :
    HN N2 ho hd tp fa d1 D2 D c1 c3 c4 f x dx k0 k1 pen sz t m g shf shc vs its0 its1 T0 :=
  ⟨mm _ h.mho, mm _ h.mhd, mm _ h.mfa, mm _ h.md1, mm _ h.mtp, mm _ h.mD2, mm _ h.mD, mm _ h.mc1, mm _ h.mc3, mm _ h.mc4, mm _ h.mf, mm _ h.mx, mm _ h.mdx, mm _ h.mk0, mm _ h.mk1, kk _ h.mkp⟩
end

end
section
theorem list2 {α : Type} {l : List α} (h : l.length = 2) : ∃ a b, l = [a, b] := by
  rcases l with _ | ⟨x0, _ | ⟨x1, _ | ⟨x2, r⟩⟩⟩ <;> simp at h
  exact ⟨_, _, rfl⟩
def KT (T : List (Addr × Sh)) (y : Value) : Prop := ∃ t its ks, y = .ref t ∧ (t, aTup its) ∈ T ∧ IntsAre its ks ∧ its.length ≤ 2 ∧ ∀ k ∈ ks, k ≠ -16
theorem KT.more {T : List (Addr × Sh)} {p : Addr × Sh} {y : Value} (h : KT T y) : KT (p :: T) y := by
  obtain ⟨t, its, ks, e, m, r⟩ := h
  exact ⟨t, its, ks, e, .tail _ m, r⟩
section
variable {w : World} {A : Around} {E : Value → Shared → Prop} {s : Shared} {b : Shared} {ns : List (Addr × Vars)} {nw : List (Addr × Sh)} {n : Nat} {u : Tok} {Q : Value → Shared → Prop} {sz x dx f t m g l pen : Addr} {prog : Program} {env : Env} {names : List (Str × NameKind)} {cs : List (Str × Addr)}
theorem pick3 {z : Int} {t1 t2 t3 : Tok} (h0 : 0 ≤ z) (h1 : z < 3) : ∃ kv tk, [Value.int (-1) t1, Value.int (-2) t2, Value.int (-17) t3][z.toNat]? = some (.int kv tk) ∧ kv ≠ -16 := by
  have : z = 0 ∨ z = 1 ∨ z = 2 := by omega
  rcases this with rfl | rfl | rfl
  · exact ⟨_, _, rfl, by decide⟩
  · exact ⟨_, _, rfl, by decide⟩
  · exact ⟨_, _, rfl, by decide⟩
theorem pick4 {z : Int} {x1 x2 x3 : Int} {t1 t2 t3 : Tok} (h0 : 0 ≤ z) (h1 : z < 4) : ∃ v, [Value.int x1 t1, Value.none, Value.int x2 t2, Value.int x3 t3][z.toNat]? = some v ∧ Plain [] v := by
  have : z = 0 ∨ z = 1 ∨ z = 2 ∨ z = 3 := by omega
  rcases this with rfl | rfl | rfl | rfl
  · exact ⟨_, rfl, .int⟩
  · exact ⟨_, rfl, .none⟩
  · exact ⟨_, rfl, .int⟩
  · exact ⟨_, rfl, .int⟩
set_option maxHeartbeats 8000000 in
theorem host_right_spec {Q : Value → Shared → Prop} (Z : Bs w b.heap) (P : Pn b l) (S : Sx b ns ((718, anObj (tabObj #[])) :: (f, aList []) :: nw) s) (a : Ar A (n + 30) (ns.map (·.1))) (hp : (pen, aPen l) ∈ nw) (hx : (x, aIns 557 dx) ∈ nw) (hdx : (dx, aFld (stoF sz f t m g)) ∈ nw)
    (ret : ∀ s', Sx b ns ((718, aTbs) :: nw) s' → Q (.bool true) s') : wpAny (model PySem.Challenge.pw_nm0155_01 w) A (call (.ref 721) [.ref pen, .ref x]) Q E s := by
  refine call_fnC [((Str.ofString "kinds"), none), ((Str.ofString "heard"), none), ((Str.ofString "due"), none)] [((Str.ofString "told"), none), ((Str.ofString "address"), none), ((Str.ofString "store"), some (.ref x)), ((Str.ofString "pen"), some (.ref pen))] [((Str.ofString "pen"), .ref pen), ((Str.ofString "store"), .ref x)] Z S a (by k_is) (by k_is) (BindsTo.of_eq (by with_unfolding_all rfl)) (by rfl) (by rfl) (by rfl) (by wtm_at "M.vals") (by rfl) (by show List.Nodup [(Str.ofString "told"), (Str.ofString "address"), (Str.ofString "store"), (Str.ofString "pen")]; decide) (by wtm_at "M.vals") (by rfl) (by rfl) (by rfl) ?_
  intro A' env s cs hcs hcode hq V tp a S
  obtain ⟨c1, c2, c3, c4, rfl⟩ := cells4 hcs
  dsimp only [cellEntries, List.cons_append, List.nil_append] at V S
  wtm_at "M.w"
  refine p_range (m := 2) (by wtm_at "M.a") (by decide) (by decide) (by decide) fun I s S => ?_
  refine comp_blockS (n := 2) (names' := [((Str.ofString ".0"), .local), ((Str.ofString "side"), .local), ((Str.ofString "tuple"), .globalImplicit), ((Str.ofString "range"), .globalImplicit), ((Str.ofString "_law_next"), .globalImplicit), ((Str.ofString "pen"), .cell)]) [((Str.ofString ".0"), none), ((Str.ofString "side"), none)] V (wk_range a.hd I 0 2) (by wtm_at "M.mem") (fun D => by wtm_at "M.putv") (by rfl) (by rfl) (by rfl) (by rfl) (by decide) (by rfl) (by wtm_at "M.vals")
    (fun i ys nw' => ∃ T, nw' = (c1, aCell none) :: (c2, aCell none) :: (c3, aCell (some (.ref x))) :: (c4, aCell (some (.ref pen))) :: (718, anObj (tabObj #[])) :: (f, aList []) :: (T ++ nw) ∧ ys.length = i ∧ i ≤ 2 ∧ ∀ y ∈ ys, KT T y) (fun _ _ _ _ => trivial) (fun _ _ _ => trivial) (fun i ys nw' h => by obtain ⟨T, _, h1, h2, _⟩ := h; omega) S ⟨[], rfl, rfl, by omega, fun _ h => by cases h⟩ (fun i ys nw' s v E' C lv cenv D hi hJ hv hC V' hlv S => ?_) (fun ys nw' s D hJ S => ?_) (fun _ => rfl)
  · obtain ⟨T, rfl, hyl, hy2, hK⟩ := hJ
    obtain ⟨t0, rfl⟩ := hv
    obtain ⟨o1, o2, rfl⟩ := vars2 (n1 := (Str.ofString ".0")) (n2 := (Str.ofString "side")) hlv
    subst hC
    have hp' := List.mem_append_right T hp
    wtm_at "M.w"
    refine next_spec (n := 5) Z P (by wtm_at "M.a") (Ar.less (m := 5 + 1) (a.more (L := cenv.locals)) (by wtm_at "M.le")) (by wtm_at "M.mem") (by decide) ?_
    intro cnt tc s n0 n1 S
    wtm_at "M.w"
    refine p_range (m := cnt.toNat) (by wtm_at "M.a") (by omega) (by decide) (by omega) fun I2 s S => ?_
    refine comp_block (n := cnt.toNat) (names' := [((Str.ofString ".0"), .local), ((Str.ofString "k"), .local), ((Str.ofString "_law_next"), .globalImplicit), ((Str.ofString "pen"), .cell)]) [((Str.ofString ".0"), none), ((Str.ofString "k"), none)] V' (wk_range a.hd I2 0 cnt.toNat) (by rfl) (by rfl) (by rfl) (by rfl) (by decide) (by rfl) (by wtm_at "M.vals") (fun q ys' nw' => (∃ it, IntsAre ys' it ∧ ∀ k ∈ it, k ≠ -16) ∧ ys'.length = q ∧ q ≤ 2 ∧ nw' = _) (fun _ _ _ _ => trivial) (fun _ _ _ => trivial) (fun q ys' nw' h => by have := h.2.1; have := h.2.2.1; omega) S ⟨⟨_, .nil, fun _ h => by cases h⟩, rfl, by omega, rfl⟩ (fun q ys' nw' s v E' C lv cenv2 D2 hq' hJ hv hC V2 hlv S => ?_) (fun ys' nw' s D2 hJ S => ?_) (fun _ => rfl)
    · obtain ⟨⟨it, hI, hI2⟩, hyl', hy4, rfl⟩ := hJ
      obtain ⟨t, rfl⟩ := hv
      obtain ⟨o1, o2, rfl⟩ := vars2 (n1 := (Str.ofString ".0")) (n2 := (Str.ofString "k")) hlv
      subst hC
      wtm_at "M.w"
      refine next_spec (n := 5) Z P (by wtm_at "M.a") (Ar.less (m := 5 + 1) ((a.more (L := cenv.locals)).more (L := cenv2.locals)) (by wtm_at "M.le")) (by wtm_at "M.mem") (by decide) ?_
      intro z tz s z0 z1 S
      wtm_at "M.w"
      obtain ⟨kv, tk, e, hkv⟩ := pick3 z0 z1
      refine g_list (by wtm_at "M.a") (by wtm_at "M.mem") z0 (by omega) e ?_ (by with_unfolding_all rfl)
      wtm_at "M.w"
      exact ⟨_, _, rfl, ⟨⟨_, ints_snoc hI, fun k hk => (List.mem_append.mp hk).elim (hI2 k) fun h => by rw [List.mem_singleton.mp h]; exact hkv⟩, by simp [hyl'], by omega, rfl⟩, Sx.pk (by wtm_at "M.a") (by wtm_at "M.pk")⟩
    · obtain ⟨⟨it, hI, hI2⟩, hyl', hy4, rfl⟩ := hJ
      wtm_at "M.w"
      refine c_tupL (by wtm_at "M.a") (by wtm_at "M.mem") (by omega) fun D3 s S => ?_
      wtm_at "M.w"
      exact ⟨_, (c1, aCell none) :: (c2, aCell none) :: (c3, aCell (some (.ref x))) :: (c4, aCell (some (.ref pen))) :: (718, anObj (tabObj #[])) :: (f, aList []) :: (D3, aTup ys') :: (T ++ nw), rfl, ⟨(D3, aTup ys') :: T, rfl, by simp [hyl], by omega, fun y hy => (List.mem_append.mp hy).elim (fun h => (hK y h).more) fun h => by rw [List.mem_singleton.mp h]; exact ⟨D3, ys', it, rfl, .head _, hI, by omega, hI2⟩⟩, Sx.pk (by wtm_at "M.a") (by wtm_at "M.pk")⟩
  · obtain ⟨T, rfl, hyl, _, hK⟩ := hJ
    have hp' := List.mem_append_right T hp
    have hx' := List.mem_append_right T hx
    have hdx' := List.mem_append_right T hdx
    obtain ⟨y0, y1, rfl⟩ := list2 hyl
    clear hyl
    obtain ⟨k0, its0, ks0, rfl, hk0, hi0, hl0, hn0⟩ := hK y0 (.head _)
    obtain ⟨k1, its1, ks1, rfl, hk1, hi1, hl1, hn1⟩ := hK y1 (.tail _ (.head _))
    replace hk0 := List.mem_append_left nw hk0
    replace hk1 := List.mem_append_left nw hk1
    clear hK
    wtm_at "M.w"
    wtm_at "M.draw"
    intro cnt tc s n0 n1 S
    wtm_at "M.w"
    refine p_range (m := cnt.toNat) (by wtm_at "M.a") (by omega) (by decide) (by omega) fun I2 s S => ?_
    refine comp_block (n := cnt.toNat) (names' := [((Str.ofString ".0"), .local), ((Str.ofString "k"), .local), ((Str.ofString "_law_next"), .globalImplicit), ((Str.ofString "pen"), .cell)]) [((Str.ofString ".0"), none), ((Str.ofString "k"), none)] V (wk_range a.hd I2 0 cnt.toNat) (by rfl) (by rfl) (by rfl) (by rfl) (by decide) (by rfl) (by wtm_at "M.vals") (fun q ys' nw' => (∀ v ∈ ys', Plain [] v) ∧ ys'.length = q ∧ q ≤ 2 ∧ nw' = _) (fun _ _ _ _ => trivial) (fun _ _ _ => trivial) (fun q ys' nw' h => by have := h.2.1; have := h.2.2.1; omega) S ⟨fun _ h => (by cases h), rfl, by omega, rfl⟩ (fun q ys' nw' s v E' C lv cenv2 D2 hq' hJ hv hC V2 hlv S => ?_) (fun vs nw' s D2 hJ S => ?_) (fun _ => rfl)
    · obtain ⟨hP, hyl', hy4, rfl⟩ := hJ
      obtain ⟨t, rfl⟩ := hv
      obtain ⟨o1, o2, rfl⟩ := vars2 (n1 := (Str.ofString ".0")) (n2 := (Str.ofString "k")) hlv
      subst hC
      wtm_at "M.w"
      refine next_spec (n := 5) Z P (by wtm_at "M.a") (Ar.less (m := 5 + 1) (a.more (L := cenv2.locals)) (by wtm_at "M.le")) (by wtm_at "M.mem") (by decide) ?_
      intro z tz s z0 z1 S
      wtm_at "M.w"
      obtain ⟨vv, e, hvv⟩ := pick4 z0 z1
      refine g_list (by wtm_at "M.a") (by wtm_at "M.mem") z0 (by omega) e ?_ (by with_unfolding_all rfl)
      wtm_at "M.w"
      exact ⟨_, _, rfl, ⟨fun v hv => (List.mem_append.mp hv).elim (hP v) fun h => by rw [List.mem_singleton.mp h]; exact hvv, by simp [hyl'], by omega, rfl⟩, Sx.pk (by wtm_at "M.a") (by wtm_at "M.pk")⟩
    · obtain ⟨hP, hvl, hv2, rfl⟩ := hJ
      wtm_at "M.w"
      refine lam_anyP #[] (c := 720) (P := 718) Z (by wtm_at "M.a") (by wtm_at "M.a") hcode Z.cd.1 (.inl (by wtm_at "M.pk")) trivial (fun _ => by repeat constructor) (by rfl) (fun _ => by rfl) (clos_of V (by with_unfolding_all rfl)) (by rfl) fun d1 fa s S => ?_
      wtm_at "M.w"
      refine make_host_spec (n := n) (its := []) Z S (by exact a.less (by wtm_at "M.le")) (by wtm_at "M.mem") (by wtm_at "M.mem") (fun ho hd => by wtm_at "M.put") (by decide) fun ho hd t1 s S => ?_
      rw [List.nil_append] at S
      refine Hs.enter S ?_
      wtm_at "M.hs"
      wtm_at "M.hs"
      wtm_at "M.hs"
      wtm_at "M.hs"
      wtm_at "M.hs"
      wtm_at "M.hs"
      refine Hs.leave fun s S => ?_
      show wpAny _ _ (execs ([_, _, _, _] ++ [_, _]) env) _ _ _
      have hPl : ∀ {N : List (Addr × Sh)}, ∀ v ∈ vs, Plain N v := fun v hv => (hP v hv).mono fun _ h => by cases h
      refine x_cut (fun s' => ∃ d2 d3 hv dv, Sx b ((env.locals, [((Str.ofString "kinds"), some (.ref D)), ((Str.ofString "heard"), hv), ((Str.ofString "due"), dv)]) :: ns) ((718, anObj (tabObj (#[] ++ #[rawInt ((409 : Nat) : Int), rawInt ((0 : Nat) : Int), .ref d1] ++ #[rawInt ((412 : Nat) : Int), rawInt ((0 : Nat) : Int), .ref d2] ++ #[rawInt ((413 : Nat) : Int), rawInt ((0 : Nat) : Int), .ref d3]))) ::
        (c2, aCell none) :: (c3, aCell (some (.ref x))) :: (c4, aCell (some (.ref pen))) :: (f, aList [.ref ho]) :: (T ++ nw)) s') ?_ fun s S => ?_
      · clear ret
        rename Sx b _ _ _ => S
        replace S := S.frz2 (p := (718, anObj (tabObj _))) (q := (c2, aCell none)) (by wtm_at "M.pk")
        obtain ⟨N, mm, kk, S⟩ := S
        have H := HN.mk (N := N) (ho := ho) (hd := hd) (fa := fa) (d1 := d1) (D2 := D2) (D := D) (c1 := c1) (c3 := c3) (c4 := c4) (f := f) (x := x) (dx := dx) (k0 := k0) (k1 := k1) (pen := pen) (sz := sz) (t := t) (m := m) (g := g) (vs := vs) (its0 := its0) (its1 := its1) (T0 := T ++ nw)
          (mm _ (by wtm_at "M.mem")) (mm _ (by wtm_at "M.mem")) (mm _ (by wtm_at "M.mem")) (mm _ (by wtm_at "M.mem")) (mm _ (by wtm_at "M.mem")) (mm _ (by wtm_at "M.mem")) (mm _ (by wtm_at "M.mem")) (mm _ (by wtm_at "M.mem")) (mm _ (by wtm_at "M.mem")) (mm _ (by wtm_at "M.mem")) (mm _ (by wtm_at "M.mem")) (mm _ (by wtm_at "M.mem")) (mm _ (by wtm_at "M.mem")) (mm _ (by wtm_at "M.mem")) (mm _ (by wtm_at "M.mem")) (kk _ (by wtm_at "M.pk"))
        obtain ⟨tp, H⟩ := Exists.intro (p := fun tp => HN N ho hd tp fa d1 D2 D c1 c3 c4 f x dx k0 k1 pen sz t m g _ _ vs its0 its1 (T ++ nw)) _ H
        clear mm kk hk0 hk1 hp' hx' hdx'
        intro _ _
        show wpAny _ _ (execs ([_, _] ++ [_, _]) env) _ _ _
        refine x_cut (fun s' => ∃ N hl r1 R1 r2 R2 dl q1 Q1 d2 d3 shf shc, Sx b ((env.locals, [((Str.ofString "kinds"), some (.ref D)), ((Str.ofString "heard"), some (.ref hl)), ((Str.ofString "due"), some (.ref dl))]) :: ns) ((dl, aList [.ref q1]) :: (718, anObj (tabObj (#[] ++ #[rawInt ((409 : Nat) : Int), rawInt ((0 : Nat) : Int), .ref d1] ++ #[rawInt ((412 : Nat) : Int), rawInt ((0 : Nat) : Int), .ref d2] ++ #[rawInt ((413 : Nat) : Int), rawInt ((0 : Nat) : Int), .ref d3]))) :: (c2, aCell none) :: N) s' ∧ HN N ho hd tp fa d1 D2 D c1 c3 c4 f x dx k0 k1 pen sz t m g shf shc vs its0 its1 (T ++ nw) ∧
          HL (fitL ks1 vs) vs (Str.ofString "results of another kind") N R1 ∧ HV (fitL ks0 vs) .none (Str.ofString "values of another kind") R2 ∧ (r1, aTup R1) ∈ N ∧ (r2, aTup R2) ∈ N ∧ (q1, aTup Q1) ∈ N ∧ (hl, aList [.ref r1, .ref r2]) ∈ N ∧ HL (fitL ks1 vs) vs (Str.ofString "results of another kind") N Q1) ?_ fun s S => ?_
        · wtm_at "M.w"
          refine lam_anyP _ (c := 720) (P := 718) Z (by wtm_at "M.a") (by wtm_at "M.a") hcode Z.cd.1 (.inl (by wtm_at "M.pk")) (by repeat constructor) (fun _ => by repeat constructor) (by rfl) (fun _ => by rfl) (clos_of V (by with_unfolding_all rfl)) (by rfl) fun d2 f2 s S => ?_
          replace S := S.frz2 (p := (718, anObj (tabObj _))) (q := (c2, aCell none)) (by wtm_at "M.pk")
          obtain ⟨N, mm, kk, S⟩ := S
          have hf2 := mm (f2, _) (by wtm_at "M.mem")
          have hd2 := mm (d2, aCode _) (by wtm_at "M.mem")
          replace H := H.up (fun _ h => mm _ (.tail _ (.tail _ h))) (fun _ h => kk _ (.drop (.drop h)))
          clear mm kk
          obtain ⟨mho, mhd, mfa, md1, mtp, mD2, mD, mc1, mc3, mc4, mf, mx, mdx, mk0, mk1, mkp⟩ := id H
          wtm_at "M.w"
          refine heard_body (n := n + 14) (fun nw v nw1 => ∃ D, v = .ref D ∧ fitL ks1 vs = true ∧ nw1 = (D, aList vs) :: nw) (fun nw x nw1 => nw1 = nw ∧ x = (Str.ofString "results of another kind") ∧ fitL ks1 vs = false) Z S (by exact a.less (by wtm_at "M.le")) (by wtm_at "M.mem") (by wtm_at "M.mem") (by rfl) (by decide) (by rfl) (by rfl) (by rfl) (by rfl) (fun A₁ env₁ p s₁ Q₁ E₁ V₁ tp₁ a₁ S₁ h₁ h₂ => ?_) (fun r1 R1 nw1 s₁ o S₁ => ?_)
          · wtm_at "M.w"
            refine thing_spec (n := n) (its := [.ref ho]) Z (by wtm_at "M.a") (by exact a₁.less (by wtm_at "M.le")) (by wtm_at "M.mem") (by wtm_at "M.mem") (by wtm_at "M.mem") (by simp) (fun v s _ _ hv S => ?_) fun ex s hc fl => ?_
            · cases hv
              wtm_at "M.w"
              refine run_spec (n := n) (vs := vs) (k0 := k0) (k1 := k1) (its1 := its1) Z (by wtm_at "M.a") (by exact a₁.less (by wtm_at "M.le")) (by wtm_at "M.mem") (by wtm_at "M.mem") (by wtm_at "M.mem") (by wtm_at "M.mem") hi1 (by wtm_at "M.mem") (by decide) (by wtm_at "M.mem") (by omega) (by omega) hPl (fun A2 D4 s' ns' nw1 Q2 E2 a2 k S2 h3 => ?_) (fun D4 s hfit S => ?_) (fun ex s hfit fl => ?_)
              · have m1 : (c1, aCell (some (.ref D2))) ∈ nw1 := k _ (by wtm_at "M.mem")
                have m2 : (D2, aList vs) ∈ nw1 := k _ (by wtm_at "M.mem")
                refine lam_call (n := n + 7) [((Str.ofString "values"), some (.ref D4))] [((Str.ofString "values"), .ref D4)] Z S2 a2 (k _ (by wtm_at "M.mem")) (k _ (by wtm_at "M.mem")) (fun _ _ => by with_unfolding_all rfl) (by rfl) (by decide) (by rfl) (by wtm_at "M.vals") (by wtm_at "M.locs") (by rfl) (by rfl) (by rfl) ?_
                clear k
                wtm_at "M.enter"
                wtm_at "M.w"
                refine c_tupL (by wtm_at "M.a") m2 (by omega) fun T5 s S => ?_
                wtm_at "M.w"
                exact h3 _ _ (by wtm_at "M.a")
              · wtm_at "M.w"
                exact h₁ _ _ _ ⟨D4, rfl, hfit, rfl⟩ (Sx.pk (by wtm_at "M.a") (by wtm_at "M.pk"))
              · exact h₂ _ _ _ _ ⟨rfl, rfl, hfit⟩ (fl.sub (List.sublist_cons_self _ _))
            · exfalso; simp at hc
          · obtain ⟨N, hR1, mr1, mm, kk, S⟩ := hl_join o S₁
            replace H := H.up mm kk
            clear mm kk mho mhd mfa md1 mtp mD2 mD mc1 mc3 mc4 mf mx mdx mk0 mk1 mkp hf2 hd2 o
            wtm_at "M.w"
            refine lam_anyP _ (c := 720) (P := 718) Z (by wtm_at "M.a") (by wtm_at "M.a") hcode Z.cd.1 (.inl (by wtm_at "M.pk")) (by repeat constructor) (fun _ => by repeat constructor) (by rfl) (fun _ => by rfl) (clos_of V (by with_unfolding_all rfl)) (by rfl) fun d3 f3 s S => ?_
            replace S := S.frz2 (p := (718, anObj (tabObj _))) (q := (c2, aCell none)) (by wtm_at "M.pk")
            obtain ⟨N, mm, kk, S⟩ := S
            have hf2 := mm (f3, _) (by wtm_at "M.mem")
            have hd2 := mm (d3, aCode _) (by wtm_at "M.mem")
            replace H := H.up (fun _ h => mm _ (.tail _ (.tail _ h))) (fun _ h => kk _ (.drop (.drop h)))
            replace hR1 := hR1.up (fun _ h => mm _ (.tail _ (.tail _ h)))
            replace mr1 := mm _ (.tail _ (.tail _ mr1))
            clear mm kk
            obtain ⟨mho, mhd, mfa, md1, mtp, mD2, mD, mc1, mc3, mc4, mf, mx, mdx, mk0, mk1, mkp⟩ := id H
            wtm_at "M.w"
            refine heard_body (n := n + 14) (fun nw v nw1 => v = .none ∧ fitL ks0 vs = true ∧ nw1 = nw) (fun nw x nw1 => nw1 = nw ∧ x = (Str.ofString "values of another kind") ∧ fitL ks0 vs = false) Z S (by exact a.less (by wtm_at "M.le")) (by wtm_at "M.mem") (by wtm_at "M.mem") (by rfl) (by decide) (by rfl) (by rfl) (by rfl) (by rfl) (fun A₁ env₁ p s₁ Q₁ E₁ V₁ tp₁ a₁ S₁ h₁ h₂ => ?_) (fun r2 R2 nw1 s₁ o S₁ => ?_)
            · wtm_at "M.w"
              refine want_values_spec (n := n) (vs := vs) (k0 := k0) (k1 := k1) (its0 := its0) (ho := ho) Z (by wtm_at "M.a") (by exact a₁.less (by wtm_at "M.le")) (by wtm_at "M.mem") (by wtm_at "M.mem") (by wtm_at "M.mem") (by wtm_at "M.mem") (by wtm_at "M.mem") (by wtm_at "M.mem") (by wtm_at "M.mem") hi0 hn0 (by wtm_at "M.mem") (by omega) (by omega) hPl (fun s hfit S => ?_) (fun ex s hfit fl => ?_)
              · exact h₁ _ _ _ ⟨rfl, hfit, rfl⟩ S
              · exact h₂ _ _ _ _ ⟨rfl, rfl, hfit⟩ fl
            · obtain ⟨N, hR2, mr2, mm, kk, S⟩ := hv_join o S₁
              replace H := H.up mm kk
              replace hR1 := hR1.up mm
              replace mr1 := mm _ mr1
              clear mm kk mho mhd mfa md1 mtp mD2 mD mc1 mc3 mc4 mf mx mdx mk0 mk1 mkp hf2 hd2 o
              obtain ⟨mho, mhd, mfa, md1, mtp, mD2, mD, mc1, mc3, mc4, mf, mx, mdx, mk0, mk1, mkp⟩ := id H
              wtm_at "M.w"
              refine law_do_fit_spec (n := n) Z (by wtm_at "M.a") (by exact a.less (by wtm_at "M.le")) (by wtm_at "M.mem") hi1 (by wtm_at "M.mem") hPl (by omega) (by omega) fun s S => ?_
              rcases Bool.eq_false_or_eq_true (fitL ks1 vs) with hf1 | hf1
              all_goals (
                rw [hf1]
                wtm_at "M.w"
                exact ⟨_, _, r1, R1, r2, R2, _, _, _, d2, d3, _, _, Sx.pk (by wtm_at "M.a") (by wtm_at "M.pk"), H.up (fun _ h => by exact .tail _ (.tail _ h)) (fun _ h => by exact .drop (.drop h)), hR1.up (fun _ h => by exact .tail _ (.tail _ h)), hR2, (by wtm_at "M.mem"), (by wtm_at "M.mem"), (by wtm_at "M.mem"), (by wtm_at "M.mem"), (by first | exact .inl ⟨hf1, _, D2, rfl, by wtm_at "M.mem"⟩ | exact .inr ⟨hf1, _, _, rfl⟩)⟩)
        · obtain ⟨N, hl, r1, R1, r2, R2, dl, q1, Q1, d2, d3, shf, shc, S, H, hR1, hR2, mr1, mr2, mq1, mhl, hQ1⟩ := S
          show wpAny _ _ (execs ([_] ++ [_]) env) _ _ _
          refine x_cut (fun s' => ∃ N q2 Q2, Sx b ((env.locals, [((Str.ofString "kinds"), some (.ref D)), ((Str.ofString "heard"), some (.ref hl)), ((Str.ofString "due"), some (.ref dl))]) :: ns) ((dl, aList [.ref q1, .ref q2]) :: (718, anObj (tabObj (#[] ++ #[rawInt ((409 : Nat) : Int), rawInt ((0 : Nat) : Int), .ref d1] ++ #[rawInt ((412 : Nat) : Int), rawInt ((0 : Nat) : Int), .ref d2] ++ #[rawInt ((413 : Nat) : Int), rawInt ((0 : Nat) : Int), .ref d3]))) :: (c2, aCell none) :: N) s' ∧ HN N ho hd tp fa d1 D2 D c1 c3 c4 f x dx k0 k1 pen sz t m g shf shc vs its0 its1 (T ++ nw) ∧
            HL (fitL ks1 vs) vs (Str.ofString "results of another kind") N R1 ∧ (r1, aTup R1) ∈ N ∧ (r2, aTup R2) ∈ N ∧ (q1, aTup Q1) ∈ N ∧ (hl, aList [.ref r1, .ref r2]) ∈ N ∧ HL (fitL ks1 vs) vs (Str.ofString "results of another kind") N Q1 ∧ (q2, aTup Q2) ∈ N ∧ HV (fitL ks0 vs) .none (Str.ofString "values of another kind") Q2) ?_ fun s S => ?_
          · obtain ⟨mho, mhd, mfa, md1, mtp, mD2, mD, mc1, mc3, mc4, mf, mx, mdx, mk0, mk1, mkp⟩ := id H
            wtm_at "M.w"
            refine law_do_fit_spec (n := n) Z (by wtm_at "M.a") (by exact a.less (by wtm_at "M.le")) (by wtm_at "M.mem") hi0 (by wtm_at "M.mem") hPl (by omega) (by omega) fun s S => ?_
            rcases Bool.eq_false_or_eq_true (fitL ks0 vs) with hf0 | hf0
            all_goals (
              rw [hf0]
              wtm_at "M.w"
              refine c_append (by wtm_at "M.a") (by wtm_at "M.put") (by simp) fun s S => ?_
              dsimp only [List.cons_append, List.nil_append] at S
              wtm_at "M.w"
              refine ⟨_, _, _, Sx.pk (by wtm_at "M.a") (by wtm_at "M.pk"), H.up (fun _ h => by exact .tail _ h) (fun _ h => by exact .drop h), hR1.up (fun _ h => by exact .tail _ h), (by wtm_at "M.mem"), (by wtm_at "M.mem"), (by wtm_at "M.mem"), (by wtm_at "M.mem"), hQ1.up (fun _ h => by exact .tail _ h), (by wtm_at "M.mem"), ?_⟩
              first | exact .inl ⟨hf0, _, rfl⟩ | exact .inr ⟨hf0, _, _, rfl⟩)
          · clear H mr1 mr2 mq1 mhl hR1 hQ1
            obtain ⟨N, q2, Q2, S, H, hR1, mr1, mr2, mq1, mhl, hQ1, mq2, hQ2⟩ := S
            obtain ⟨mho, mhd, mfa, md1, mtp, mD2, mD, mc1, mc3, mc4, mf, mx, mdx, mk0, mk1, mkp⟩ := id H
            wtm_at "M.w"
            refine cmp_nel 3 S a (by wtm_at "M.mem") (by wtm_at "M.mem") (.cons (hR1.sm hQ1 (by wtm_at "M.mem") (by wtm_at "M.mem") (fun _ h => by exact .tail _ (.tail _ (.tail _ h)))) (.cons (hR2.sm hQ2 (by wtm_at "M.mem") (by wtm_at "M.mem")) .nil)) ?_
            wtm_at "M.w"
            refine thing_spec (n := n) (its := [.ref ho]) Z (by wtm_at "M.a") (by exact a.less (by wtm_at "M.le")) (by wtm_at "M.mem") (by wtm_at "M.mem") (by wtm_at "M.mem") (by simp) (fun v s _ _ hv S => ?_) fun ex s hc fl => ?_
            · cases hv
              wtm_at "M.w"
              refine is_host_spec (n := n) Z (by wtm_at "M.a") (by exact a.less (by wtm_at "M.le")) fun s S => ?_
              wtm_at "M.w"
              exact ⟨d2, d3, _, _, Sx.pk (by wtm_at "M.a") (.take (.skip .here) (.take (.skip .here) (.drop mkp)))⟩
            · exfalso; simp at hc
      · obtain ⟨d2, d3, hv, dv, S⟩ := S
        wtm_at "M.w"
        refine p_list (by wtm_at "M.a") (by wtm_at "M.mem") fun I9 s S => ?_
        obtain ⟨PS, ht, hn1, hf1, ht1, hn2, hn3, S⟩ : ∃ PS : Array Value, TriplesOk PS.toList ∧ codeAmong ⟨420, 0, 420, 31⟩ PS.toList = none ∧ (∀ c, codeAmong ⟨420, 0, 420, 31⟩ (PS ++ #[rawInt ((420 : Nat) : Int), rawInt ((0 : Nat) : Int), .ref c]).toList = some (.ref c)) ∧ (∀ c, TriplesOk (PS ++ #[rawInt ((420 : Nat) : Int), rawInt ((0 : Nat) : Int), .ref c]).toList) ∧
            codeAmong ⟨423, 0, 423, 43⟩ PS.toList = none ∧ (∀ c, codeAmong ⟨423, 0, 423, 43⟩ (PS ++ #[rawInt ((420 : Nat) : Int), rawInt ((0 : Nat) : Int), .ref c]).toList = none) ∧ ∃ LL t1 t2 t3, Sx b ((env.locals, [((Str.ofString "kinds"), some (.ref D)), ((Str.ofString "heard"), hv), ((Str.ofString "due"), dv)]) :: ns) ((I9, aLI LL 0) :: (LL, aList [.int (-1) t1, .int 1 t2, .int 7 t3]) :: (c2, aCell none) :: (c3, aCell (some (.ref x))) :: (c4, aCell (some (.ref pen))) :: (f, aList [.ref ho]) :: (718, anObj (tabObj PS)) :: (T ++ nw)) s :=
          ⟨#[] ++ #[rawInt ((409 : Nat) : Int), rawInt ((0 : Nat) : Int), .ref d1] ++ #[rawInt ((412 : Nat) : Int), rawInt ((0 : Nat) : Int), .ref d2] ++ #[rawInt ((413 : Nat) : Int), rawInt ((0 : Nat) : Int), .ref d3], by repeat constructor, by rfl, fun _ => by rfl, fun _ => by repeat constructor, by rfl, fun _ => by rfl, _, _, _, _, S.pk (by wtm_at "M.pk")⟩
        obtain ⟨LL, t1, t2, t3, S⟩ := S
        refine x_loop (wk_list a.hd I9 LL _) (fun i ns' nw' => ∃ st tb, ns' = (env.locals, [((Str.ofString "kinds"), some (.ref D)), ((Str.ofString "heard"), hv), ((Str.ofString "due"), dv)]) :: ns ∧ nw' = (LL, aList [.int (-1) t1, .int 1 t2, .int 7 t3]) :: (c2, aCell st) :: (c3, aCell (some (.ref x))) :: (c4, aCell (some (.ref pen))) :: (f, aList [.ref ho]) :: tb ∧
          (tb = (718, anObj (tabObj PS)) :: (T ++ nw) ∨ ∃ c, tb = (718, anObj (tabObj (PS ++ #[rawInt ((420 : Nat) : Int), rawInt ((0 : Nat) : Int), .ref c]))) :: (c, aCode (env.qual ++ Str.ofString "<lambda>")) :: (T ++ nw))) (fun _ _ _ h => by obtain ⟨_, _, _, rfl, _⟩ := h; exact .head _) S ⟨_, _, rfl, rfl, .inl rfl⟩ (fun i ns' nw' s v E' hi hJ hv S => ?_) (fun ns' nw' s hJ S => ?_) (fun _ => rfl)
        · clear ret
          obtain ⟨st, tb, rfl, rfl, hT⟩ := hJ
          obtain ⟨kk, tk, rfl, hkk⟩ : ∃ k t, v = .int k t ∧ (k < 0 ∨ 1 ≤ k) := by
            have hi' : i = 0 ∨ i = 1 ∨ i = 2 := by simp at hi; omega
            rcases hi' with rfl | rfl | rfl <;> (cases hv; exact ⟨_, _, rfl, by decide⟩)
          wtm_at "M.w"
          refine lam_anyP PS (c := 720) (P := 718) Z (by wtm_at "M.a") (by wtm_at "M.a") hcode Z.cd.1 (by rcases hT with rfl | ⟨c, rfl⟩; exact .inl (by wtm_at "M.pk"); exact .inr ⟨c, by wtm_at "M.pk"⟩) ht ht1 hn1 hf1 (clos_of V (by with_unfolding_all rfl)) (by rfl) fun d4 f4 s S => ?_
          clear hT
          wtm_at "M.w"
          refine heard_same (n := n + 16) (G := fun _ => False) (F := fun x => x = Str.ofString "no such address") Z S (by exact a.less (by wtm_at "M.le")) (.head _) (fun A₁ p s₁ Q₁ E₁ a₁ S₁ h₁ h₂ => ?_) (fun r k v s₁ g S₁ => g.elim) (fun r k k' y s₁ g S₁ => ?_)
          · refine lam_call (n := n + 15) [] [] Z S₁ a₁ (by wtm_at "M.mem") (by wtm_at "M.mem") (fun _ _ => by with_unfolding_all rfl) (by rfl) (by decide) (by rfl) (by wtm_at "M.vals") (by wtm_at "M.locs") (by rfl) (by rfl) (by rfl) ?_
            wtm_at "M.enter"
            wtm_at "M.w"
            refine thing_spec (n := n) (its := [.ref ho]) Z (by wtm_at "M.a") (Ar.less (by assumption) (by wtm_at "M.le")) (by wtm_at "M.mem") (by wtm_at "M.mem") (by wtm_at "M.mem") (by simp) (fun v s q0 q1 hv S => ?_) fun ex s hc fl => ?_
            · exfalso; simp at q1; omega
            · exact leave_next (by wtm_at "M.a") (by assumption) (by wtm_at "M.a") fl fun ex s' fl => h₂ _ _ _ rfl fl
          · subst g
            wtm_at "M.w"
            refine cmp_net 3 (by wtm_at "M.a") a (by wtm_at "M.mem") (by wtm_at "M.mem") (by wtm_at "M.a2") ?_
            wtm_at "M.w"
            exact LoopF.next ⟨_, _, rfl, rfl, .inr ⟨d4, rfl⟩⟩ (Sx.pk (by wtm_at "M.a") (by wtm_at "M.pk"))
        · obtain ⟨st, tb, rfl, rfl, hT⟩ := hJ
          obtain ⟨PS2, hts, hn4, S⟩ : ∃ PS2 : Array Value, TriplesOk PS2.toList ∧ codeAmong ⟨423, 0, 423, 43⟩ PS2.toList = none ∧ Sx b ((env.locals, [((Str.ofString "kinds"), some (.ref D)), ((Str.ofString "heard"), hv), ((Str.ofString "due"), dv)]) :: ns) ((718, anObj (tabObj PS2)) :: (c3, aCell (some (.ref x))) :: (c4, aCell (some (.ref pen))) :: (T ++ nw)) s := by
            rcases hT with rfl | ⟨c, rfl⟩
            · exact ⟨_, ht, hn2, S.pk (by wtm_at "M.pk")⟩
            · exact ⟨_, ht1 _, hn3 _, S.pk (by wtm_at "M.pk")⟩
          clear hT
          wtm_at "M.w"
          refine lam_miss Z (by wtm_at "M.a") (by wtm_at "M.a") hcode (P := 718) Z.cd.1 (.head _) hts hn4 (clos_of V (by with_unfolding_all rfl)) (by rfl) fun d5 f5 s S' => ?_
          have S := S' _ .head
          wtm_at "M.w"
          refine heard_same (n := n + 16) (G := fun _ => False) (F := fun x => x = Str.ofString "no such sort") Z S (by exact a.less (by wtm_at "M.le")) (.head _) (fun A₁ p s₁ Q₁ E₁ a₁ S₁ h₁ h₂ => ?_) (fun r k v s₁ g S₁ => g.elim) (fun r k k' y s₁ g S₁ => ?_)
          · refine lam_call (n := n + 15) [] [] Z S₁ a₁ (by wtm_at "M.mem") (by wtm_at "M.mem") (fun _ _ => by with_unfolding_all rfl) (by rfl) (by decide) (by rfl) (by wtm_at "M.vals") (by wtm_at "M.locs") (by rfl) (by rfl) (by rfl) ?_
            wtm_at "M.enter"
            wtm_at "M.w"
            wtm_at "M.draw"
            intro z tz s z0 z1 S
            wtm_at "M.w"
            refine things_spec (n := n) Z (by wtm_at "M.a") (Ar.less (by assumption) (by wtm_at "M.le")) (by wtm_at "M.mem") (by wtm_at "M.mem") (fun v s q0 q1 hv S => (by omega)) fun ex s hc fl => ?_
            exact leave_next (by wtm_at "M.a") (by assumption) (by wtm_at "M.a") fl fun ex s' fl => h₂ _ _ _ rfl fl
          · subst g
            wtm_at "M.w"
            refine cmp_eqt 3 (by wtm_at "M.a") a (by wtm_at "M.mem") (by wtm_at "M.mem") (by wtm_at "M.a2") ?_
            wtm_at "M.w"
            exact ret _ ((Sx.pk (nw' := (718, anObj (tabObj _)) :: (T ++ nw)) (by wtm_at "M.a") (by wtm_at "M.pk")).tb.sub (.cons_cons _ (List.sublist_append_right _ _)))
end

end
section
def Row (T : List (Addr × Sh)) (r : Value) (v : List Value) : Prop := ∃ p it, r = .ref p ∧ (p, aList v) ∈ T ∧ IntsAre v it ∧ v.length ≤ 4
def Fill (T : List (Addr × Sh)) (rs : List Value) (i : Nat) (vs : List (List Value)) : Prop := ∀ j, j < 4 → (i ≤ j → vs[j]? = some []) ∧ (j < i → ∃ r v, rs[j]? = some r ∧ vs[j]? = some v ∧ Row T r v)
theorem Row.more {T : List (Addr × Sh)} {p : Addr × Sh} {r : Value} {v : List Value} (h : Row T r v) : Row (p :: T) r v := by
  obtain ⟨q, it, e, m, z⟩ := h
  exact ⟨q, it, e, .tail _ m, z⟩
theorem Fill.step {T : List (Addr × Sh)} {D : Addr} {ys : List Value} {it : List Int} {rs : List Value} {i : Nat} {vs : List (List Value)} (h : Fill T rs i vs) (hr : rs.length = i) (hv : vs.length = 4) (hi : i < 4) (hI : IntsAre ys it) (hl : ys.length ≤ 4) :
    Fill ((D, aList ys) :: T) (rs ++ [.ref D]) (i + 1) (vs.set i ys) := fun j hj => by
  refine ⟨fun q => ?_, fun q => ?_⟩
  · rw [List.getElem?_set_ne (by omega)]
    exact (h j hj).1 (by omega)
  · by_cases e : j = i
    · subst e
      refine ⟨.ref D, ys, ?_, ?_, ⟨D, it, rfl, .head _, hI, hl⟩⟩
      · rw [List.getElem?_append_right (by omega), hr, Nat.sub_self]; rfl
      · rw [List.getElem?_set_self (by omega)]
    · obtain ⟨r, v, e1, e2, e3⟩ := (h j hj).2 (by omega)
      refine ⟨r, v, ?_, ?_, e3.more⟩
      · rw [List.getElem?_append_left (by omega)]; exact e1
      · rw [List.getElem?_set_ne (by omega)]; exact e2
structure IN (w : World) (N : List (Addr × Sh)) (KL : List Value) (x dx mo md ks i f t m g e el2 da2 cu kk a0 a1 a2 a3 el da ex c1 pen l : Addr) (T0 : List (Addr × Sh)) : Prop where
  mx : (x, aIns 423 dx) ∈ N
  mdx : (dx, aFld (instF mo kk a0 a1 a2 a3 el da ex)) ∈ N
  mmo : (mo, aIns 674 md) ∈ N
  mmd : (md, aFld (modF ks i f t m g e el2 da2 cu)) ∈ N
  mks : (ks, aList KL) ∈ N
  mc1 : (c1, aCell (some (.ref pen))) ∈ N
  mpn : (pen, aPen l) ∈ N
  mkp : Pk T0 N
section
variable {w : World} {A : Around} {E : Value → Shared → Prop} {s : Shared} {b : Shared} {ns : List (Addr × Vars)} {nw nw' : List (Addr × Sh)} {n : Nat} {pen l : Addr}

theorem list4 {α : Type} {l : List α} {a b c d : α} (h : l.length = 4) (e0 : l[0]? = some a) (e1 : l[1]? = some b) (e2 : l[2]? = some c) (e3 : l[3]? = some d) : l = [a, b, c, d] := by
  rcases l with _ | ⟨x0, _ | ⟨x1, _ | ⟨x2, _ | ⟨x3, _ | ⟨x4, r⟩⟩⟩⟩⟩ <;> simp at h
  cases e0; cases e1; cases e2; cases e3; rfl
set_option maxHeartbeats 4000000 in
theorem inst_spec {Q : Value → Shared → Prop} (Z : Bs w b.heap) (P : Pn b l) (S : Sx b ns ((694, anObj (tabObj #[])) :: (699, anObj (tabObj #[])) :: nw) s) (a : Ar A (n + 30) (ns.map (·.1))) (hp : (pen, aPen l) ∈ nw)
    (ret : ∀ s', Sx b ns ((694, aTbs) :: (699, aTbs) :: nw) s' → Q (.bool true) s') : wpAny (model PySem.Challenge.pw_nm0155_01 w) A (call (.ref 709) [.ref pen]) Q E s := by
  refine call_fnC [((Str.ofString "module"), none), ((Str.ofString "many"), none), ((Str.ofString "made"), none), ((Str.ofString "rows"), none), ((Str.ofString "sort"), none), ((Str.ofString "elems"), none), ((Str.ofString "datas"), none), ((Str.ofString "turn"), none), ((Str.ofString "one"), none), ((Str.ofString "other"), none)] [((Str.ofString "pen"), some (.ref pen))] [((Str.ofString "pen"), .ref pen)] Z S a (by k_is) (by k_is) (BindsTo.of_eq (by with_unfolding_all rfl)) (by rfl) (by rfl) (by rfl) (by wtm_at "M.vals") (by rfl) (by show List.Nodup [(Str.ofString "pen")]; decide) (by wtm_at "M.vals") (by rfl) (by rfl) (by rfl) ?_
  intro A' env s cs hcs hcode hq V tp a S
  obtain ⟨c1, rfl⟩ := cells1 hcs
  dsimp only [cellEntries, List.cons_append, List.nil_append] at V S
  wtm_at "M.w"
  refine module_spec (n := n) Z (by wtm_at "M.a") (by exact a.less (by wtm_at "M.le")) fun mo md k i f t m g e el da cu s S => ?_
  wtm_at "M.w"
  wtm_at "M.draw"
  intro many t1 s m0 m1 S
  wtm_at "M.w"
  refine e_slice (by wtm_at "M.a") ?_
  wtm_at "M.w"
  refine ⟨_, _, by wtm_at "M.a", fun sl s S => ?_⟩
  refine g_slice (by wtm_at "M.a") (by wtm_at "M.mem") (by wtm_at "M.mem") m0 (by show many ≤ 2; omega) (Nat.le_of_ble_eq_true rfl) (fun ks s S => ?_) (by with_unfolding_all rfl)
  wtm_at "M.w"
  refine instance_spec (n := n) (ks := List.take many.toNat _) Z (by wtm_at "M.a") (by exact a.less (by wtm_at "M.le")) (by wtm_at "M.mem") (by wtm_at "M.mem") (by wtm_at "M.mem") (by rw [List.length_take]; simp; omega) fun x dx kk a0 a1 a2 a3 el da ex s hes S => ?_
  wtm_at "M.w"
  refine cmp_nel 3 (by wtm_at "M.a") a (by wtm_at "M.mem") (by wtm_at "M.mem") (by wtm_at "M.a2") ?_
  wtm_at "M.w"
  refine cmp_three (by wtm_at "M.a") a (by wtm_at "M.mem") (by wtm_at "M.mem") (by wtm_at "M.mem") (by wtm_at "M.mem") (by wtm_at "M.mem") (by wtm_at "M.mem") (by wtm_at "M.mem") (by wtm_at "M.mem") hes (by assumption) (Sx.ne2 (x := aDic w []) (y := aDic w []) (by assumption) (by wtm_at "M.ex") (by wtm_at "M.ex")) ?_
  wtm_at "M.w"
  refine c_append (by wtm_at "M.a") (by wtm_at "M.put") (by rw [List.length_take]; simp; omega) fun s S => ?_
  wtm_at "M.w"
  refine p_range (m := 4) (by wtm_at "M.a") (by decide) (by decide) (by decide) fun I s S => ?_
  rename Sx b _ _ _ => S
  obtain ⟨rw, N, M, KL, el2, da2, hM, hup, S, H, hKL⟩ : ∃ rw N M KL el2 da2, M = (694, anObj (tabObj #[])) :: (699, anObj (tabObj #[])) :: (ex, aDic w []) :: (el, aList []) :: (da, aList []) :: N ∧ (∀ p ∈ N, p ∈ M) ∧ Sx b ((env.locals, [((Str.ofString "module"), some (.ref mo)), ((Str.ofString "many"), some (.int many t1)), ((Str.ofString "made"), some (.ref x)), ((Str.ofString "rows"), some (.ref rw)), ((Str.ofString "sort"), none), ((Str.ofString "elems"), none), ((Str.ofString "datas"), none), ((Str.ofString "turn"), none), ((Str.ofString "one"), none), ((Str.ofString "other"), none)]) :: ns) ((I, aRI 0 4 0) :: (rw, aList []) :: (a0, aList []) :: (a1, aList []) :: (a2, aList []) :: (a3, aList []) :: M) s ∧ IN w N KL x dx mo md ks i f t m g e el2 da2 cu kk a0 a1 a2 a3 el da ex c1 pen l nw ∧ List.length KL = many.toNat := by
    obtain ⟨N, mm, kk, S⟩ := S.frz6 (o0 := (I, aRI 0 4 0)) (o1 := (_, aList [])) (o2 := (a0, aList [])) (o3 := (a1, aList [])) (o4 := (a2, aList [])) (o5 := (a3, aList [])) (by wtm_at "M.pk")
    have k5 := kk ((694, anObj (tabObj #[])) :: (699, anObj (tabObj #[])) :: (ex, aDic w []) :: (el, aList []) :: (da, aList []) :: _) (by wtm_at "M.pk")
    exact ⟨_, _, _, _, _, _, rfl, fun _ h => .tail _ (.tail _ (.tail _ (.tail _ (.tail _ h)))), S.pk (.take .here (.take .here (.take .here (.take .here (.take .here (.take .here k5)))))), ⟨(by wtm_at "M.mem"), (by wtm_at "M.mem"), (by wtm_at "M.mem"), (by wtm_at "M.mem"), (by wtm_at "M.mem"), (by wtm_at "M.mem"), (by wtm_at "M.mem"), by wtm_at "M.pk"⟩, by rw [List.length_take]; simp; omega⟩
  refine x_loop (wk_range a.hd I _ _) (fun j ns' nw' => ∃ rs v0 v1 v2 v3 T st, ns' = (env.locals, [((Str.ofString "module"), some (.ref mo)), ((Str.ofString "many"), some (.int many t1)), ((Str.ofString "made"), some (.ref x)), ((Str.ofString "rows"), some (.ref rw)), ((Str.ofString "sort"), st), ((Str.ofString "elems"), none), ((Str.ofString "datas"), none), ((Str.ofString "turn"), none), ((Str.ofString "one"), none), ((Str.ofString "other"), none)]) :: ns ∧
    nw' = (rw, aList rs) :: (a0, aList v0) :: (a1, aList v1) :: (a2, aList v2) :: (a3, aList v3) :: (T ++ M) ∧
    rs.length = j ∧ Fill T rs j [v0, v1, v2, v3]) (fun _ _ _ _ => trivial) S ⟨[], [], [], [], [], [], _, rfl, rfl, rfl, fun j hj => ⟨fun _ => by (have : j = 0 ∨ j = 1 ∨ j = 2 ∨ j = 3 := by omega); rcases this with rfl | rfl | rfl | rfl <;> rfl, fun h => by omega⟩⟩ (fun j ns' nw' s v E' hj hJ hv S => ?_) (fun ns' nw' s hJ S => ?_) (fun _ => rfl)
  · clear ret
    obtain ⟨ts, rfl⟩ := hv
    obtain ⟨rs, v0, v1, v2, v3, T, st, rfl, rfl, hrs, hF⟩ := hJ
    have mx := List.mem_append_right T (hup _ H.mx)
    have mdx := List.mem_append_right T (hup _ H.mdx)
    have mc1 := List.mem_append_right T (hup _ H.mc1)
    have hp' := List.mem_append_right T (hup _ H.mpn)
    clear hp
    wtm_at "M.w"
    wtm_at "M.draw"
    intro cnt t2 s n0 n1 S
    wtm_at "M.w"
    refine p_range (m := cnt.toNat) (by wtm_at "M.a") (by omega) (by decide) (by omega) fun I2 s S => ?_
    refine comp_block (n := cnt.toNat) (names' := [((Str.ofString ".0"), .local), ((Str.ofString "k"), .local), ((Str.ofString "_law_next"), .globalImplicit), ((Str.ofString "pen"), .cell)]) [((Str.ofString ".0"), none), ((Str.ofString "k"), none)] V (wk_range a.hd I2 0 cnt.toNat) (by rfl) (by rfl) (by rfl) (by rfl) (by decide) (by rfl) (by wtm_at "M.vals") (fun q ys nw' => (∃ it, IntsAre ys it) ∧ ys.length = q ∧ q ≤ 4 ∧ nw' = _) (fun _ _ _ _ => trivial) (fun _ _ _ => trivial) (fun q ys nw' h => by have := h.2.1; have := h.2.2.1; omega) S ⟨⟨_, .nil⟩, rfl, by omega, rfl⟩ (fun q ys nw' s v E' C lv cenv D hq hJ hv hC V' hlv S => ?_) (fun ys nw' s D hJ S => ?_) (fun _ => rfl)
    · obtain ⟨⟨it, hI⟩, hyl, hy4, rfl⟩ := hJ
      obtain ⟨t, rfl⟩ := hv
      obtain ⟨o1, o2, rfl⟩ := vars2 (n1 := (Str.ofString ".0")) (n2 := (Str.ofString "k")) hlv
      subst hC
      wtm_at "M.w"
      refine next_spec (n := 5) Z P (by wtm_at "M.a") (Ar.less (m := 5 + 1) (a.more (L := cenv.locals)) (by wtm_at "M.le")) (by wtm_at "M.mem") (by decide) ?_
      intro z tz s z0 z1 S
      wtm_at "M.w"
      exact ⟨_, _, rfl, ⟨⟨_, ints_snoc hI⟩, by simp [hyl], by omega, rfl⟩, by wtm_at "M.a"⟩
    · obtain ⟨⟨it, hI⟩, hyl, hy4, rfl⟩ := hJ
      wtm_at "M.w"
      refine c_append (by wtm_at "M.a") (by wtm_at "M.put") (by omega) fun s S => ?_
      wtm_at "M.w"
      refine addresses_spec (n := n) Z (by wtm_at "M.a") (by exact a.less (by wtm_at "M.le")) (by wtm_at "M.mem") (by wtm_at "M.mem") (fun v s g0 g1 g2 S => ?_) fun ex s hc fl => by omega
      have hj' : j = 0 ∨ j = 1 ∨ j = 2 ∨ j = 3 := by omega
      have hget : (rs ++ [Value.ref D])[j]? = some (.ref D) := by rw [List.getElem?_append_right (by omega), hrs, Nat.sub_self]; rfl
      have hv0 := (hF j (by omega)).1 (Nat.le_refl _)
      rcases hj' with rfl | rfl | rfl | rfl <;> (cases g2; cases hv0) <;> (
        wtm_at "M.w"
        refine g_list (by wtm_at "M.a") (by wtm_at "M.mem") (by omega) (by omega) (by exact hget) ?_ (by with_unfolding_all rfl)
        wtm_at "M.w"
        refine c_extend (by wtm_at "M.a") (by wtm_at "M.put") (by wtm_at "M.mem") (by decide) (by omega) fun s S => ?_
        dsimp only [List.nil_append] at S
        wtm_at "M.w"
        exact LoopF.next ⟨rs ++ [.ref D], _, _, _, _, (D, aList ys) :: T, _, rfl, rfl, by simp [hrs], hF.step hrs rfl (by omega) hI (by omega)⟩ (Sx.pk (nw' := (I, _) :: (rw, _) :: (a0, _) :: (a1, _) :: (a2, _) :: (a3, _) :: (D, aList ys) :: (T ++ M)) (by wtm_at "M.a") (by wtm_at "M.pk")))
  · obtain ⟨rs, v0, v1, v2, v3, T, st, rfl, rfl, hrs, hF⟩ := hJ
    obtain ⟨r0', v0', e0, e0', ⟨r0, i0, rfl, m0', I0, l0⟩⟩ := (hF 0 (by omega)).2 (by omega)
    obtain ⟨r1', v1', e1, e1', ⟨r1, i1, rfl, m1', I1, l1⟩⟩ := (hF 1 (by omega)).2 (by omega)
    obtain ⟨r2', v2', e2, e2', ⟨r2, i2, rfl, m2', I2, l2⟩⟩ := (hF 2 (by omega)).2 (by omega)
    obtain ⟨r3', v3', e3, e3', ⟨r3, i3, rfl, m3', I3, l3⟩⟩ := (hF 3 (by omega)).2 (by omega)
    cases e0'; cases e1'; cases e2'; cases e3'
    obtain rfl := list4 hrs e0 e1 e2 e3
    clear hF
    subst hM
    replace S := S.frz5 (.take (.skip (.skip (.skip (.skip (.skip (Ex.appR .here T)))))) (.take (.skip (.skip (.skip (.skip (.skip (Ex.appR .here T)))))) (.take (.skip (.skip (.skip (.skip (.skip (Ex.appR .here T)))))) (.take (.skip (.skip (.skip (.skip (.skip (Ex.appR .here T)))))) (.take (.skip (.skip (.skip (.skip (.skip (Ex.appR .here T)))))) (.refl _))))))
    obtain ⟨N2, mm, kk, S⟩ := S
    have mx := mm _ (.tail _ (.tail _ (.tail _ (.tail _ (.tail _ (List.mem_append_right T H.mx))))))
    have mdx := mm _ (.tail _ (.tail _ (.tail _ (.tail _ (.tail _ (List.mem_append_right T H.mdx))))))
    have mmo := mm _ (.tail _ (.tail _ (.tail _ (.tail _ (.tail _ (List.mem_append_right T H.mmo))))))
    have mmd := mm _ (.tail _ (.tail _ (.tail _ (.tail _ (.tail _ (List.mem_append_right T H.mmd))))))
    have mks := mm _ (.tail _ (.tail _ (.tail _ (.tail _ (.tail _ (List.mem_append_right T H.mks))))))
    have mc1 := mm _ (.tail _ (.tail _ (.tail _ (.tail _ (.tail _ (List.mem_append_right T H.mc1))))))
    have mpn := mm _ (.tail _ (.tail _ (.tail _ (.tail _ (.tail _ (List.mem_append_right T H.mpn))))))
    have mrw := mm _ (.head _)
    have ma0 := mm _ (.tail _ (.head _))
    have ma1 := mm _ (.tail _ (.tail _ (.head _)))
    have ma2 := mm _ (.tail _ (.tail _ (.tail _ (.head _))))
    have ma3 := mm _ (.tail _ (.tail _ (.tail _ (.tail _ (.head _)))))
    have mr0 := mm _ (.tail _ (.tail _ (.tail _ (.tail _ (.tail _ (List.mem_append_left N m0'))))))
    have mr1 := mm _ (.tail _ (.tail _ (.tail _ (.tail _ (.tail _ (List.mem_append_left N m1'))))))
    have mr2 := mm _ (.tail _ (.tail _ (.tail _ (.tail _ (.tail _ (List.mem_append_left N m2'))))))
    have mr3 := mm _ (.tail _ (.tail _ (.tail _ (.tail _ (.tail _ (List.mem_append_left N m3'))))))
    have mkp := kk _ (.drop (.drop (.drop (.drop (.drop (H.mkp.dropApp T))))))
    clear mm kk H hup m0' m1' m2' m3' hp
    wtm_at "M.w"
    refine c_len (by wtm_at "M.a") (by wtm_at "M.mem") (by omega) fun t s S => ?_
    wtm_at "M.w"
    refine ite_f ?_ (by rw [bne_eq_false_iff_eq]; omega)
    wtm_at "M.w"
    refine cmp_nel 3 (by wtm_at "M.a") a (by wtm_at "M.mem") (by wtm_at "M.mem") (.cons (.list (by wtm_at "M.mem") (by wtm_at "M.mem") (A2.refl SmD.refl _)) (.cons (.list (by wtm_at "M.mem") (by wtm_at "M.mem") (A2.refl SmD.refl _)) (.cons (.list (by wtm_at "M.mem") (by wtm_at "M.mem") (A2.refl SmD.refl _)) (.cons (.list (by wtm_at "M.mem") (by wtm_at "M.mem") (A2.refl SmD.refl _)) .nil)))) ?_
    wtm_at "M.w"
    rename Sx b _ _ _ => S
    replace S := S.pk (nw' := (694, anObj (tabObj #[])) :: (699, anObj (tabObj #[])) :: (ex, aDic w []) :: (el, aList []) :: (da, aList []) :: N2) (by wtm_at "M.pk")
    have up : ∀ p ∈ N2, p ∈ (699, anObj (tabObj #[])) :: (ex, aDic w []) :: (el, aList []) :: (da, aList []) :: N2 := fun _ h => .tail _ (.tail _ (.tail _ (.tail _ h)))
    refine lists_spec (n := n) Z S (by exact a.less (by wtm_at "M.le")) (up _ mx) (up _ mdx) (up _ ma0) (up _ ma1) (up _ ma2) (up _ ma3) (up _ mrw) (up _ mr0) (up _ mr1) (up _ mr2) (up _ mr3) I0 I1 I2 I3 l0 l1 l2 l3 fun s S => ?_
    clear up
    wtm_at "M.w"
    replace S := S.pk (nw' := (699, anObj (tabObj #[])) :: (ex, aDic w []) :: (el, aList []) :: (da, aList []) :: (694, aTbs) :: N2) (by wtm_at "M.pk")
    refine exports_spec (n := n) Z P S (by exact a.less (by wtm_at "M.le")) (.tail _ (.tail _ (.tail _ mpn))) (.tail _ (.tail _ (.tail _ mx))) (.tail _ (.tail _ (.tail _ mdx))) hes fun s S => ?_
    clear ma0 ma1 ma2 ma3 mrw mr0 mr1 mr2 mr3 mmo mmd mks I0 I1 I2 I3 l0 l1 l2 l3
    wtm_at "M.w"
    refine c_extend (by wtm_at "M.a") (by wtm_at "M.put") (by wtm_at "M.mem") (by decide) (by simp) fun s S => ?_
    dsimp only [List.nil_append] at S
    wtm_at "M.w"
    refine c_extend (by wtm_at "M.a") (by wtm_at "M.put") (by wtm_at "M.mem") (by decide) (by simp) fun s S => ?_
    dsimp only [List.nil_append] at S
    wtm_at "M.w"
    refine p_range (m := 2) (by wtm_at "M.a") (by decide) (by decide) (by decide) fun I s S => ?_
    obtain ⟨eE, dE, Le, Ld, N3, S, mx, mdx, mc1, mpn, mkp, hLe, hLd⟩ : ∃ eE dE Le Ld N3, Sx b ((env.locals, [((Str.ofString "module"), some (.ref mo)), ((Str.ofString "many"), some (.int many t1)), ((Str.ofString "made"), some (.ref x)), ((Str.ofString "rows"), some (.ref rw)), ((Str.ofString "sort"), st), ((Str.ofString "elems"), some (.ref eE)), ((Str.ofString "datas"), some (.ref dE)), ((Str.ofString "turn"), none), ((Str.ofString "one"), none), ((Str.ofString "other"), none)]) :: ns) ((I, aRI 0 2 0) :: (el, aList Le) :: (eE, aList Le) :: (da, aList Ld) :: (dE, aList Ld) :: N3) s ∧
      (x, aIns 423 dx) ∈ N3 ∧ (dx, aFld (instF mo kk a0 a1 a2 a3 el da ex)) ∈ N3 ∧ (c1, aCell (some (.ref pen))) ∈ N3 ∧ (pen, aPen l) ∈ N3 ∧ Pk ((694, aTbs) :: (699, aTbs) :: nw) N3 ∧ Le.length = 3 ∧ Ld.length = 3 :=
      ⟨_, _, _, _, _, S.pk (by wtm_at "M.pk"), (by wtm_at "M.mem"), (by wtm_at "M.mem"), (by wtm_at "M.mem"), (by wtm_at "M.mem"), .take (by wtm_at "M.ex") (.take (by wtm_at "M.ex") (by repeat (first | assumption | apply Pk.drop))), rfl, rfl⟩
    refine x_loop (wk_range a.hd I _ _) (fun j ns' nw' => ∃ Le Ld s1 s2 s3, ns' = (env.locals, [((Str.ofString "module"), some (.ref mo)), ((Str.ofString "many"), some (.int many t1)), ((Str.ofString "made"), some (.ref x)), ((Str.ofString "rows"), some (.ref rw)), ((Str.ofString "sort"), st), ((Str.ofString "elems"), some (.ref eE)), ((Str.ofString "datas"), some (.ref dE)), ((Str.ofString "turn"), s1), ((Str.ofString "one"), s2), ((Str.ofString "other"), s3)]) :: ns ∧ nw' = (el, aList Le) :: (eE, aList Le) :: (da, aList Ld) :: (dE, aList Ld) :: N3 ∧ Le.length = 3 ∧ Ld.length = 3) (fun _ _ _ _ => trivial) S
      ⟨Le, Ld, _, _, _, rfl, rfl, hLe, hLd⟩ (fun j ns' nw' s v E' hj hJ hv S => ?_) (fun ns' nw' s hJ S => ?_) (fun _ => rfl)
    · clear ret hLe hLd
      obtain ⟨ts, rfl⟩ := hv
      obtain ⟨Le, Ld, s1, s2, s3, rfl, rfl, hLe, hLd⟩ := hJ
      wtm_at "M.w"
      wtm_at "M.draw"
      intro one to s n0 n1 S
      wtm_at "M.w"
      wtm_at "M.draw"
      intro two tw s n2 n3 S
      wtm_at "M.w"
      refine drop_elem_spec (n := n) Z (by wtm_at "M.a") (by exact a.less (by wtm_at "M.le")) (by wtm_at "M.mem") (by wtm_at "M.mem") (by wtm_at "M.put") n0 (by omega) (by omega) fun s S => ?_
      wtm_at "M.w"
      refine drop_data_spec (n := n) Z (by wtm_at "M.a") (by exact a.less (by wtm_at "M.le")) (by wtm_at "M.mem") (by wtm_at "M.mem") (by wtm_at "M.put") n2 (by omega) (by omega) fun s S => ?_
      wtm_at "M.w"
      refine kas_sub ?_
      wtm_at "M.w"
      refine u_list (by wtm_at "M.a") (by wtm_at "M.put") n0 (by omega) (by omega) fun s S => ?_
      wtm_at "M.w"
      refine kas_sub ?_
      wtm_at "M.w"
      refine u_list (by wtm_at "M.a") (by wtm_at "M.put") n2 (by omega) (by omega) fun s S => ?_
      wtm_at "M.w"
      refine cmp_nel 3 (by wtm_at "M.a") a (by wtm_at "M.mem") (by wtm_at "M.mem") (.cons (.list (by wtm_at "M.mem") (by wtm_at "M.mem") (A2.refl SmD.refl _)) (.cons (.list (by wtm_at "M.mem") (by wtm_at "M.mem") (A2.refl SmD.refl _)) .nil)) ?_
      wtm_at "M.w"
      exact LoopF.next ⟨Le.set one.toNat .none, Ld.set two.toNat .none, _, _, _, rfl, rfl, by rw [List.length_set]; exact hLe, by rw [List.length_set]; exact hLd⟩ (Sx.pk (nw' := (I, aRI 0 2 (j + 1)) :: (el, aList (Le.set one.toNat .none)) :: (eE, aList (Le.set one.toNat .none)) :: (da, aList (Ld.set two.toNat .none)) :: (dE, aList (Ld.set two.toNat .none)) :: N3) (by wtm_at "M.a") (by wtm_at "M.pk"))
    · obtain ⟨Le, Ld, s1, s2, s3, rfl, rfl, hLe, hLd⟩ := hJ
      wtm_at "M.w"
      exact ret _ (Sx.pk (by wtm_at "M.a") (by repeat (first | assumption | apply Pk.drop)))
end

end
section
open PySem.Sem (wp)
section
variable {prog : Program} {w : World} {A : Around} {s : Shared} {R : Result → Shared → Prop} {E : Value → Shared → Prop} {h : Heap} {g : Array GenState} {d : Drawn} {tk : Nat} {os : OsState}
abbrev baObj (bs : Array UInt8) : Obj := { cls := .type "bytearray", data := .bytearray bs }

theorem bad_of_dec {id : String} (h : PySem.Builtin.Bytes.decodersThatHold.contains id = true) : badIds.contains id = true := by
  unfold badIds
  rw [List.contains_iff_mem] at h ⊢
  exact List.mem_append_left _ h
theorem ne_bad {id s : String} (h : badIds.contains id = false) (hs : badIds.contains s = true) : id ≠ s := fun e => by rw [e, hs] at h; cases h
theorem not_exported {self : Value} {Q : Bool → Shared → Prop} (h : Q false s) : wpG (model prog w) A (PySem.Builtin.Bytes.exported self) Q E s := by
  unfold PySem.Builtin.Bytes.exported
  refine gBind (gStack fun st hst => gPure ?_)
  refine (congrArg (fun b => Q b s) (List.any_eq_false.mpr fun x hx => ?_)).mpr h
  have hg := hst x hx
  obtain ⟨c, p⟩ := x
  cases c with
  | builtin id args =>
    have hb : badIds.contains id = false := by
      have : gdc (.builtin id args) = !badIds.contains id := rfl
      rw [this] at hg; simpa using hg
    have h1 := ne_bad hb (s := "bytearray.__contains__") (by decide +kernel)
    have h2 := ne_bad hb (s := "bytearray.__mod__") (by decide +kernel)
    have h3 := ne_bad hb (s := "bytearray.__rmod__") (by decide +kernel)
    have h4 := ne_bad hb (s := "_struct.pack_into.held") (by decide +kernel)
    have h5 := ne_bad hb (s := "bytearray.find.held") (by decide +kernel)
    have h6 : PySem.Builtin.Bytes.decodersThatHold.contains id = false := by
      cases q : PySem.Builtin.Bytes.decodersThatHold.contains id with
      | false => rfl
      | true => rw [bad_of_dec q] at hb; cases hb
    delta PySem.Builtin.Bytes.exported.match_1
    change ¬ (dite (id = "bytearray.__contains__") _ _) = true
    rw [dif_neg h1, dif_neg h2, dif_neg h3, dif_neg h4, dif_neg h5]
    obtain ⟨ps, kw⟩ := args
    cases ps with
    | nil => exact Bool.false_ne_true
    | cons v r =>
      change ¬ ((PySem.Builtin.Bytes.sameRef v self && PySem.Builtin.Bytes.decodersThatHold.contains id) = true)
      rw [h6, Bool.and_false]
      exact Bool.false_ne_true
  | _ => exact Bool.false_ne_true
theorem ba_slot : Slot "bytearray" "__init__" "bytearray.__init__" :=
  Slot.of (owner := "bytearray") (n := "__init__") (by rw [typeLookup_type, builtinLookup_eq_fast]; kernel_rfl) (by decide +kernel) (by decide +kernel) (by decide +kernel) (.inl (by decide +kernel)) (by rw [isSubtype_type]; kernel_rfl)
theorem ba_args (a b : Value) : argsOk "bytearray.__init__" ⟨[a, b], []⟩ := by unfold argsOk; kernel_rfl
theorem ba_entry : entryFor table "bytearray.__init__" = some Builtin.«bytearray.__init__» := entryFor_of_tree (by kernel_rfl)
set_option maxHeartbeats 4000000 in
theorem ba_init {k : Int} {t : Tok} {a : Addr} (h0 : 0 ≤ k) (h1 : k ≤ 1000) (ha : h.get? a = some (baObj #[]))
    (hq : ∀ h', h'.get? a = some (baObj (Array.replicate k.toNat 0)) → Heap.SameBut a h h' → R (.ok (.ret .none)) ⟨h', g, d, tk, os⟩) : codeG (model prog w) A (.call (.builtin "bytearray.__init__") ⟨[.ref a, .int k t], []⟩) R ⟨h, g, d, tk, os⟩ := by
  have hT : (⟨h, g, d, tk, os⟩ : Shared).TypeIs (.ref a) "bytearray" := ⟨_, ha, rfl⟩
  refine gCallBuiltin (Code.quiet_builtin _ (by decide +kernel)) (ba_slot.check _ _ _ _ _ _ _ _ hT (ba_args _ _) ?_)
  refine gBuiltin (by rfl) ba_entry ?_
  unfold Builtin.«bytearray.__init__»
  have f1 : typeLookup (.type "bytearray") (Str.ofString "__release_buffer__") = pure (some (.builtin "bytearray.__release_buffer__")) := by rw [typeLookup_type, builtinLookup_eq_fast]; kernel_rfl
  have f2 : ("bytearray.__release_buffer__".endsWith ("." ++ "__release_buffer__")) = true := by decide +kernel
  have f3 : (Value.type ("bytearray.__release_buffer__".dropRight ("__release_buffer__".length + 1))) = .type "bytearray" := by decide +kernel
  have f4 : isSubtype (.type "bytearray") (.type "bytearray") = pure true := by rw [isSubtype_type]; kernel_rfl
  refine gB ?_
  repeat wp_step
  dsimp only
  rw [f2, f3]
  repeat (any_goals (first | assumption | wp_step))
  rw [if_neg (by decide)]
  refine gB (wpAny_of_eq (a := [some (Value.int k t), none, none]) (by rfl) ?_)
  refine gB (wpAny_of_eq (a := ()) (by rfl) ?_)
  refine gB (wpAny_of_eq (a := ()) (by rfl) ?_)
  refine gBind ?_
  unfold orM
  refine gBind (not_exported ?_)
  dsimp only [toBool]
  refine gB ?_
  repeat (any_goals (first | assumption | wp_step))
  refine gPure ?_
  rw [if_neg (by decide)]
  refine gOf ?_
  have f5 := F.slot_int_index.lookup
  repeat (any_goals (first | assumption | wp_step))
  have c1 : PySem.Builtin.Bytes.fitsIndex k = true := by unfold PySem.Builtin.Bytes.fitsIndex; simp; omega
  have c2 : (k == 2 ^ 63 - 1) = false := by rw [beq_eq_false_iff_ne]; omega
  have c3 : PySem.Builtin.Bytes.tooLong k.toNat = false := by unfold PySem.Builtin.Bytes.tooLong; rw [sizeLine_eq]; simp; omega
  rw [c1, if_neg (by decide), if_neg (by omega), c2, if_neg (by decide), c3, if_neg (by decide)]
  repeat (any_goals (first | assumption | wp_step))
  have ha1 : (h.update a (Obj.mapBytearray fun _ => #[])).get? a = some (baObj #[]) := Heap.get?_update_self _ ha rfl
  have hs1 : Heap.SameBut a h (h.update a (Obj.mapBytearray fun _ => #[])) := Heap.SameBut.update ..
  by_cases hk : k > 0
  · rw [if_pos hk]
    repeat (any_goals (first | assumption | wp_step))
    have e : (Obj.mapBytearray (fun _ => Array.replicate k.toNat (0 : UInt8)) (baObj #[])).data.pastItsLine = none := by
      show Data.pastItsLine (.bytearray (Array.replicate k.toNat (0 : UInt8)) _) = none
      unfold Data.pastItsLine
      simp [sizeLine_eq]; omega
    rw [e]
    refine wpAny_pure (wpAny_pure ?_)
    exact hq _ (Heap.get?_update_self (Obj.mapBytearray fun _ => Array.replicate k.toNat 0) ha1 rfl) (hs1.trans (Heap.SameBut.update ..))
  · rw [if_neg hk]
    have k0 : k.toNat = 0 := by omega
    rw [k0] at hq
    exact wpAny_pure (hq _ ha1 hs1)

end

end
section
open PySem.Sem (wp)
section
variable {prog : Program} {w : World} {A : Around} {s : Shared} {R : Result → Shared → Prop} {E : Value → Shared → Prop} {h : Heap} {g : Array GenState} {d : Drawn} {tk : Nat} {os : OsState}
theorem ba_mro : mroOf (.type "bytearray") = pure [.type "bytearray", .type "object"] := by rw [mroOf_type]; kernel_rfl
theorem ba_lnew : typeLookup (.type "bytearray") "__new__" = pure (some (.builtin "bytearray.__new__")) := by rw [typeLookup_type, builtinLookup_eq_fast]; kernel_rfl
theorem ba_called : TypeCalled "bytearray" "bytearray.__new__" "bytearray.__init__" :=
  ⟨by decide +kernel, by decide +kernel, ⟨_, _, ba_mro⟩, madeBy_type ba_mro ba_lnew (by decide +kernel), by decide +kernel, by rw [isSubtype_type]; kernel_rfl, ba_slot⟩
theorem ba_typeCall (a : Value) : checkTypeCall "bytearray" ⟨[a], []⟩ = pure () := by kernel_rfl
theorem ba_checkNew (a : Value) : checkBuiltinCall "bytearray.__new__" ⟨[.type "bytearray", a], []⟩ = pure () := by kernel_rfl
theorem ba_entryNew : entryFor table "bytearray.__new__" = some Builtin.«list.__new__» :=
  entryFor_alias (id' := "list.__new__") (by kernel_rfl) (by first | rfl | decide +kernel | (unfold String.splitOn; simp +decide [String.splitOnAux])) (by decide +kernel) (by kernel_rfl)
theorem ba_new {Q : Value → Shared → Prop} {k : Int} {t : Tok} (hq : Q (.ref h.objs.size) ⟨h.push (baObj #[]), g, d, tk, os⟩) :
    wpAny (model prog w) A (call (.builtin "bytearray.__new__") [.type "bytearray", .int k t]) Q E ⟨h, g, d, tk, os⟩ := by
  refine wpAny_call (codeAny_call_builtin_code (Code.quiet_builtin _ (by decide +kernel)) (wpAny_of_eq (ba_checkNew _) ?_))
  refine codeAny_builtin_stack ba_entryNew rfl fun p st => ?_
  rw [Around.under_plainId (by decide +kernel : plainId "bytearray.__new__" = true) _]
  have hsub : isSubtype (.type "bytearray") (.type "bytearray") = pure true := by rw [isSubtype_type]; kernel_rfl
  have hown : ("bytearray.__new__".splitOn ".__new__").headD "" = "bytearray" := by rw [PySem.W.split_bytearray]; rfl
  simp only [hown]
  wp_walk
  exact hq

theorem ba_call {Q : Value → Shared → Prop} {k : Int} {t : Tok} (h0 : 0 ≤ k) (h1' : k ≤ 1000) (hq : ∀ h', h'.get? h.objs.size = some (baObj (Array.replicate k.toNat 0)) → (∀ b o, h.get? b = some o → h'.get? b = some o) → Q (.ref h.objs.size) ⟨h', g, d, tk, os⟩) :
    wpG (model prog w) A (call (.type "bytearray") [.int k t]) Q E ⟨h, g, d, tk, os⟩ := by
  refine gCall (gTree rfl ?_)
  show wpG _ _ (callAny (.type "bytearray") _) _ _ _
  refine gPure ⟨Code.quiet_builtin _ (by decide +kernel), gBuiltin rfl F.entry_type_call ?_⟩
  rw [Around.under_plain (weight_type_call_type _ _ []) rfl]
  have ft := ba_called
  obtain ⟨c, tl, hmro⟩ := ft.mro
  have hmade := ft.made
  have hsub := ft.sub
  have h1 := ft.notType
  have h2 := ft.canCreate
  unfold Builtin.«type.__call__»
  dsimp only
  rw [h1, if_neg (by decide)]
  rw [h2, if_neg (by decide)]
  refine gB (wpAny_of_eq (ba_typeCall _) ?_)
  refine gB (wpAny_of_eq hmro ?_)
  rw [if_neg (by simp)]
  refine gB (wpAny_of_eq hmade ?_)
  refine gB (wpAny_pure ?_)
  refine gB (wpAny_holding (ba_new ?_))
  have ha : (h.push (baObj #[])).get? h.objs.size = some (baObj #[]) := Heap.get?_push_size _ rfl
  refine gB (wpAny_isInstance (T := "bytearray") ⟨_, ha, rfl⟩ hsub ?_)
  rw [if_neg (by decide)]
  refine gBind (gHolding ?_)
  unfold callSpecial?
  refine gB (wpAny_specialOf (T := "bytearray") ⟨_, ha, rfl⟩ ba_slot.lookup ?_)
  dsimp only
  refine gHolding (gB (wpAny_of_eq (ba_slot.bind _) ?_))
  refine gBind (gCall (ba_init h0 h1' ha fun h' ha' hs' => ?_))
  dsimp only
  refine gPure (gB (wpAny_pure ?_))
  refine gPure ?_
  show Q (.ref h.objs.size) _
  exact hq _ ha' fun b o e => (hs'.2 _ (Nat.ne_of_lt (Heap.lt_size e))).trans (Heap.get?_push_of_some _ e)

theorem c_ba {b : Shared} {ns : List (Addr × Vars)} {nw : List (Addr × Sh)} {Q : Value → Shared → Prop} {k : Int} {t : Tok} (S : Sx b ns nw s) (h0 : 0 ≤ k) (h1 : k ≤ 1000) (hq : ∀ a s', Sx b ns nw s' → Q (.ref a) s') : wpG (model prog w) A (call (.type "bytearray") [.int k t]) Q E s := by
  obtain ⟨hh, g, d, tk, os⟩ := s
  exact ba_call h0 h1 fun h' _ hk => hq _ _ (S.ext (tk := tk) hk)
end

end
section
open PySem.Sem (wp)
section
variable {prog : Program} {w : World} {M : Model} {A : Around} {E : Value → Shared → Prop} {s : Shared} {env : Env}
theorem gExecsCons {st : Stmt} {rest : List Stmt} {Q : Flow → Shared → Prop} (h : wpG M A (exec st env) (thenF (fun s' => wpG M A (execs rest env) Q E s') Q) E s) : wpG M A (execs (st :: rest) env) Q E s := by
  rw [execs_cons]
  refine gBind (gMono h (fun f s' h' => ?_) fun _ _ x => x)
  cases f with
  | next => exact h'
  | cont => exact gPure h'
  | brk => exact gPure h'
  | ret v => exact gPure h'
theorem gExecsNil {Q : Flow → Shared → Prop} (h : Q .next s) : wpG M A (execs [] env) Q E s := gOf (wpAny_execs_nil h)
theorem aheadW {Γ : Ctx} {rest : List Stmt} {Q : Flow → Pos → Shared → Prop} {E : Value → Pos → Shared → Prop} : ∀ {pre : List Stmt} {p : Pos} {s : Shared},
    wp M Γ (execs pre env) (fun f p' s' => match f with | .next => wp M Γ (execs rest env) Q E p' s' | f => Q f p' s') E p s → wp M Γ (execs (pre ++ rest) env) Q E p s
  | [], p, s, h => h
  | st :: pre, p, s, h => by
    rw [execs_cons, Sem.wp_bind'] at h
    rw [List.cons_append, execs_cons, Sem.wp_bind']
    refine Sem.wp_mono M Γ _ (fun f p' s' h' => ?_) (fun _ _ _ h' => h') _ _ h
    cases f with
    | next => exact aheadW h'
    | cont => exact h'
    | brk => exact h'
    | ret v => exact h'
/-- what stands ahead is plain -/
theorem gAhead {pre rest : List Stmt} {Q : Flow → Shared → Prop} (h : wpAny M A (execs pre env) (thenF (fun s' => wpG M A (execs rest env) Q E s') Q) E s) : wpG M A (execs (pre ++ rest) env) Q E s := fun Γ p hΓ g1 g2 => by
  refine aheadW (Sem.wp_mono M Γ _ (fun f p' s' h' => ?_) (fun _ _ _ h' => h') _ _ (h Γ p hΓ))
  cases f with
  | next => exact h' Γ p' hΓ g1 g2
  | cont => exact h'
  | brk => exact h'
  | ret v => exact h'
theorem gReturn {e : Expr} {pos : Pos} {rest : List Stmt} {Q : Flow → Shared → Prop} (h : wpG M A (eval e env) (fun v => Q (.ret v)) E s) : wpG M A (execs (.Return (some e) pos :: rest) env) Q E s := by
  refine gExecsCons ?_
  rw [exec_Return_some]
  exact gB (wpAny_standAt (gBind (gMono h (fun v s' h' => gPure h') fun _ _ x => x)))
theorem gSplicedMore {e : Expr} {rest : List Expr} {pos : Pos} {Q : List Value → Shared → Prop} (h : wpG M A (eval e env) (fun v s₁ => wpG M A (spliced (backTo pos (starEach rest env))) (fun vs s₂ => Q (v :: vs) s₂) E s₁) E s)
    (he : starEach (e :: rest) env = (false, eval e env) :: starEach rest env) : wpG M A (spliced (backTo pos (starEach (e :: rest) env))) Q E s := by
  rw [he]
  show wpG M A (spliced ((false, eval e env) :: backTo pos (starEach rest env))) Q E s
  rw [spliced]
  refine gBind (gMono h (fun v s₁ h₁ => ?_) fun _ _ x => x)
  simp only [Bool.false_eq_true, if_false]
  exact gB (wpAny_pure (gBind (gHolding (gMono h₁ (fun vs s₂ h₂ => gPure h₂) fun _ _ x => x))))
theorem gTuple {elts : List Expr} {k : Nat} {pos : Pos} {Q : Value → Shared → Prop} (h : wpG M A (spliced (backTo pos (starEach elts env))) (fun vs s₁ => wpG M A (newTuple vs) Q E s₁) E s) : wpG M A (eval (.Tuple elts k pos) env) Q E s := by
  show wpG M A (do standAt pos; newTuple (← spliced (backTo pos (starEach elts env)))) Q E s
  exact gB (wpAny_standAt (gBind h))
theorem gList {elts : List Expr} {pos : Pos} {Q : Value → Shared → Prop} (h : wpG M A (spliced (backTo pos (starEach elts env))) (fun vs s₁ => wpG M A (newList vs) Q E s₁) E s) : wpG M A (eval (.List elts pos) env) Q E s := by
  show wpG M A (do standAt pos; newList (← spliced (backTo pos (starEach elts env)))) Q E s
  exact gB (wpAny_standAt (gBind h))
theorem gEvalArgs {f : Value} {x : Sem Value} {rest : List (Bool × Sem Value)} {Q : Args → Shared → Prop} (h : wpG M A (spliced ((false, x) :: rest)) (fun vs s' => Q ⟨vs, []⟩ s') E s) : wpG M A (evalArgs f true ((false, x) :: rest) []) Q E s := by
  unfold evalArgs
  show wpG M A (spliced ((false, x) :: rest) >>= _) Q E s
  refine gBind (gMono h (fun vs s' h' => ?_) fun _ _ x => x)
  refine gHolding ?_
  exact gB (wpAny_pure (gB (wpAny_pure (gPure h'))))
theorem gKeep {α : Type} {vs : List Value} {m : Sem α} {Q : α → Shared → Prop} (h : wpG M A m Q E s) : wpG M A (m.keep vs) Q E s := fun Γ p hΓ g1 g2 => by rw [Sem.wp_keep]; exact h Γ p hΓ g1 g2
theorem gCallWith {pos : Pos} {f : Value} {first : List Value} {P : Heap → Prop} {args : List (Bool × Sem Value)} (hplain : (args.any (·.1) || ([] : List (Option Str × Sem Value)).any (·.1.isNone)) = false)
    (hk : ∀ h, P h → ∃ k, (k = Keeper.frame ∨ k = Keeper.machine ∨ k = Keeper.boundFrame) ∧ Looks M h (keeperOf f) k) {Q : Value → Shared → Prop}
    (h : wpG M A (evalArgs f true args []) (fun a s₁ => P s₁.heap ∧ wpG M A (call f (first ++ a.pos) a.kw) Q E s₁) E s) : wpG M A (callWith pos f first args []) Q E s := by
  unfold callWith
  refine gBind (gHolding (gMono h (fun a s₁ h₁ => gB (wpAny_standAt ?_)) fun _ _ x => x))
  obtain ⟨k, hk', L⟩ := hk _ h₁.1
  simp only [hplain]
  refine gB (L.here ?_)
  have tail : ∀ {t : Sem Value}, wpG M A t Q E s₁ → wpG M A (t >>= fun r => holding [r] point >>= fun _ => pure r) Q E s₁ :=
    fun ht => gBind (gMono ht (fun r s₂ hr => gB (wpAny_holding (wpAny_point (gPure hr)))) fun _ _ x => x)
  have marked (mk : Value) : wpG M A (callMarked mk f (first ++ a.pos) a.kw) Q E s₁ := by unfold callMarked; exact gKeep h₁.2
  rcases hk' with rfl | rfl | rfl <;> dsimp only <;> first | exact tail h₁.2 | (split <;> first | exact tail h₁.2 | exact tail (marked _))
theorem gTryExcept {body orelse : List Stmt} {h₀ : ExceptHandler} {hs : List ExceptHandler} {pos : Pos} {rest : List Stmt} {Q : Flow → Shared → Prop}
    (h : wpG (model prog w) A (execs body env) (fun f s₁ => match f with | .next => wpG (model prog w) A (execs orelse env) (thenF (fun s₂ => wpG (model prog w) A (execs rest env) Q E s₂) Q) E s₁ | f => Q f s₁)
      (fun e s₁ => wpAny (model prog w) A (noteFrame e env) (fun _ s₂ => wpAny (model prog w) A (setFlight e none) (fun _ s₃ => wpG (model prog w) A (handleBy e env (h₀ :: hs)) (thenF (fun s₂ => wpG (model prog w) A (execs rest env) Q E s₂) Q) E s₃) E s₂) E s₁) s) :
    wpG (model prog w) A (execs (.Try body (h₀ :: hs) orelse [] pos :: rest) env) Q E s := by
  refine gExecsCons ?_
  rw [arm_exec_Try]
  refine gB (wpAny_standAt ?_)
  unfold tryStmt
  simp only [List.isEmpty_nil, if_true, List.isEmpty_cons, Bool.false_and, Bool.false_eq_true, if_false]
  refine gBind (gAttempt (gMono h (fun f s₁ h₁ => ?_) fun e s₁ h₁ => ?_))
  · cases f with
    | next => exact h₁
    | cont => exact gPure h₁
    | brk => exact gPure h₁
    | ret v => exact gPure h₁
  · exact gB (wpAny_mono h₁ (fun _ _ h₂ => gB h₂) fun _ _ x => x)
theorem gIf {test : Expr} {body orelse rest : List Stmt} {pos : Pos} {Q : Flow → Shared → Prop} (h : wpG M A (isTrue test env (eval test env)) (fun c s₁ => if c = true then wpG M A (execs body env) (thenF (fun s₂ => wpG M A (execs rest env) Q E s₂) Q) E s₁ else wpG M A (execs orelse env) (thenF (fun s₂ => wpG M A (execs rest env) Q E s₂) Q) E s₁) E s) :
    wpG M A (execs (.If test body orelse pos :: rest) env) Q E s := by
  refine gExecsCons ?_
  rw [arm_exec_If]
  refine gB (wpAny_standAt (gBind (gMono h (fun c s₁ h₁ => ?_) fun _ _ x => x)))
  cases c with
  | false => exact h₁
  | true => exact h₁
theorem gIsNot {x : Expr} {pos : Pos} {whole : Sem Value} {Q : Bool → Shared → Prop} (h : wpG M A (isTrue x env (eval x env)) (fun c s' => Q (!c) s') E s) : wpG M A (isTrue (.UnaryOp .Not x pos) env whole) Q E s := by
  show wpG M A (do return !(← isTrue x env (eval x env))) Q E s
  exact gBind (gMono h (fun c s' h' => gPure h') fun _ _ x => x)
theorem gIsOr {x : Expr} {rest : List Expr} {pos : Pos} {whole : Sem Value} {Q : Bool → Shared → Prop} (h : wpG M A (isTrue x env (eval x env)) (fun c s' => if c then Q true s' else wpG M A (isTrue (.BoolOp .Or rest pos) env whole) Q E s') E s) :
    wpG M A (isTrue (.BoolOp .Or (x :: rest) pos) env whole) Q E s := by
  show wpG M A (do
    match BoolOp.Or, ← isTrue x env (eval x env) with
    | .And, false => pure false
    | .Or, true => pure true
    | _, _ => allTrue .Or rest env) Q E s
  refine gBind (gMono h (fun c s' h' => ?_) fun _ _ x => x)
  cases c with
  | false => exact h'
  | true => exact gPure h'
theorem gAssignName {x : Str} {pos' pos : Pos} {value : Expr} {rest : List Stmt} {Q : Flow → Shared → Prop}
    (h : wpG M A (eval value env) (fun v s₁ => wpAny M A (storeName env x v) (fun _ s₂ => wpG M A (execs rest env) Q E s₂) E s₁) E s)
    (hs : swapsWith value (some (.Name x pos')) pos.line env = pure false) : wpG M A (execs (.Assign [.Name x pos'] value pos :: rest) env) Q E s := by
  refine gExecsCons ?_
  rw [exec_Assign_Name env x pos' value pos hs]
  exact gB (wpAny_standAt (gBind (gMono h (fun v s₁ h₁ => gB (wpAny_standAt (gB (wpAny_bindName (wpAny_mono h₁ (fun _ s₂ h₂ => gPure h₂) fun _ _ x => x))))) fun _ _ x => x)))
theorem gAssignAttr {o : Expr} {attr : Str} {pos' pos : Pos} {value : Expr} {rest : List Stmt} {Q : Flow → Shared → Prop}
    (h : wpG M A (eval value env) (fun v s₁ => wpAny M A (eval o env) (fun ov s₂ => wpAny M A (setAttr ov attr v) (fun _ s₂ => wpG M A (execs rest env) Q E s₂) E s₂) E s₁) E s)
    (hs : swapsWith value (some (.Attribute o attr pos')) pos.line env = pure false) : wpG M A (execs (.Assign [.Attribute o attr pos'] value pos :: rest) env) Q E s := by
  refine gExecsCons ?_
  rw [plainObj_exec_Assign_Attribute o attr pos' value pos hs]
  refine gB (wpAny_standAt (gBind (gMono h (fun v s₁ h₁ => gB ?_) fun _ _ x => x)))
  rw [assign_Attribute]
  exact wpAny_bind (wpAny_holding (wpAny_mono h₁ (fun ov s₂ h₂ => wpAny_bind (wpAny_standAt (wpAny_bind (wpAny_holding (wpAny_mono h₂ (fun _ s₃ h₃ => wpAny_release' (gPure h₃)) fun _ _ x => x))))) fun _ _ x => x))
end

end
section
open PySem.Sem (wp)
section
variable {prog : Program} {w : World} {A : Around} {E : Value → Shared → Prop} {s : Shared} {b : Shared} {ns : List (Addr × Vars)} {nw nw' : List (Addr × Sh)} {n : Nat} {R : Result → Shared → Prop}
theorem gLeft {env : Env} {e : Value} {Q : Value → Shared → Prop} (h : wpAny (model prog w) A (leaving env e) (fun _ s'' => Q e s'') (fun e' s'' => Q e' s'') s) : wpG (model prog w) A (leaving env e) (fun _ s'' => Q e s'') (fun e' s'' => Q e' s'') s := gOf h
theorem gFunc {body : List Stmt} {env : Env} (h : wpG (model prog w) (A.deeper env) (execs body env) (fun f s' => R (.ok (.ret (retOf f))) s') (Lv prog w (A.deeper env) env fun e s' => R (.error e) s') s) : codeG (model prog w) A (.func body env) R s := by
  refine gTree rfl ?_
  show wpG _ (A.deeper env) (do point; match ← (execs body env).onRaise (leaving env) with | .ret v => ret v | _ => ret .none) _ _ s
  refine gB (wpAny_point (gBind (gOnRaise (gMono h (fun f s' h' => ?_) fun e s' h' => gOf h'))))
  cases f <;> exact gPure h'
theorem gExpr {e : Expr} {env : Env} (h : wpG (model prog w) (A.deeper env) (eval e env) (fun v s' => R (.ok (.ret v)) s') (Lv prog w (A.deeper env) env fun e s' => R (.error e) s') s) : codeG (model prog w) A (.expr e env) R s := by
  refine gTree rfl ?_
  show wpG _ (A.deeper env) (do point; ret (← (eval e env).onRaise (leaving env))) _ _ s
  exact gB (wpAny_point (gBind (gOnRaise (gMono h (fun v s' h' => gPure h') fun e s' h' => gOf h'))))
theorem gCallFunction {a : Addr} {args : Args} {o : Obj} {fd : FuncData} (hroom : A.depth < recursionLimit) (ho : s.heap.get? a = some o) (hd' : o.data = .func fd) (hco : fd.scope.isCoroutine = false) (hgen : fd.scope.isGenerator = false) (hcd : s.heap.CodeRec fd.code fd.qualname) {next : Env → Code}
    (hbody : (∃ body, fd.body = .stmts body ∧ next = fun env => .func body env) ∨ (∃ body, fd.body = .expr body ∧ next = fun env => .expr body env))
    (h : wpAny (model prog w) A.in1 (bindArgs fd args) (fun binds s₁ => wpAny (model prog w) A.in1 (newFunctionEnv fd.scope fd.globals fd.closure binds (fd.qualname ++ ".<locals>.") (some a) fd.code none fd.builtins)
        (fun env s₂ => s₂.heap.NoLimit ∧ codeG (model prog w) A (next env) R s₂) (fun e s' => R (.error e) s') s₁) (fun e s' => R (.error e) s') s) : codeG (model prog w) A (.call (.ref a) args) R s := by
  refine gTree rfl (gOf ?_)
  show wpAny _ A.in1 (callAny (.ref a) args) _ _ s
  simp only [callAny]
  refine wpAny_bind (wpAny_load ho ?_)
  obtain ⟨c, oc, vs, tq, hc, hoc, hdc, hq⟩ := hcd
  rw [hc] at h
  rcases hbody with ⟨body, hb, rfl⟩ | ⟨body, hb, rfl⟩ <;>
  · simp only [hd', callFunction, hco, hgen, hb, hc]
    refine wpAny_bind (m := field (.ref c) 1) (wpAny_field hoc hdc hq (wpAny_bind (wpAny_pure ?_)))
    exact wpAny_bind (wpAny_mono h (fun binds s₁ h₁ => wpAny_bind (wpAny_mono h₁ (fun env s₂ h₂ => wpAny_bind (wpAny_enterFrame h₂.1 hroom (wpAny_pure (And.intro rfl h₂.2)))) fun _ _ h' => h')) fun _ _ h' => h')

theorem gFnR {name qual : Str} {params : Arguments} {body : List Stmt} {scope : Scope} {cl : List (Str × Addr)} {dV kV doc pm cdv ct oc : Value} {an od : Option Addr} {osl : Array (Option Value)} {f : Addr} {pos : List Value} {kw : List (Str × Value)}
    (l0 : Vars) (binds : List (Str × Value)) (Z : Bs w b.heap) (S : Sx b ns nw s) (a : Ar A (n + 1) (ns.map (·.1)))
    (ho : (hd.heap_1 w.params).lookup f = some ⟨oc, od, .func (fnX name qual params body scope cl dV kV doc pm an cdv ct), osl⟩) (hcd : codeIn (hd.heap_1 w.params) cdv qual = true)
    (hbind : BindsTo s (fnX name qual params body scope cl dV kV doc pm an cdv ct) ⟨pos, kw⟩ binds) (hsc : ScOk scope.names) (hcell : ∀ x ∈ scope.names, x.2 ≠ .cell)
    (hkeys : l0.map (·.1) = localKeys scope.names) (hvals : ∀ p ∈ l0, binds.reverse.lookup p.1 = p.2) (hloc : ∀ y ∈ binds, (y.1, NameKind.local) ∈ scope.names)
    (hco : scope.isCoroutine = false) (hgen : scope.isGenerator = false) (hk : scope.kind = .function)
    (h : ∀ A' env s', Fn env scope.names cl → Tp A' env → Ar A' n (env.locals :: ns.map (·.1)) → Sx b ((env.locals, l0) :: ns) nw s' →
      wpG (model prog w) A' (execs body env) (fun fl s' => LeaveX b ns (fun v s' => R (.ok (.ret v)) s') (retOf fl) s') (Lv prog w A' env fun e s' => R (.error e) s') s') :
    codeG (model prog w) A (.call (.ref f) ⟨pos, kw⟩) R s := by
  have X := Z.X.keeps S.st.keep
  refine gCallFunction (fd := fnX name qual params body scope cl dV kV doc pm an cdv ct) a.room (X _ _ ho) rfl hco hgen (codeRec_of X hcd) (.inl ⟨body, rfl, rfl⟩) (hbind _ _ _ _ ?_)
  refine wpAny_newFunctionEnv hcell (fun y hy => hsc.look (hloc y hy)) (fun h₁ hns hsb => ⟨(Z.lim.keeps S.st.keep).fresh _ hsb, gFunc ?_⟩) hk
  have hk₁ : ∀ b o, s.heap.get? b = some o → h₁.get? b = some o := fun b o e => hsb.extBut b o (Nat.ne_of_lt (Heap.lt_size e)) (Heap.get?_push_of_some _ e)
  have S₁ : St b.heap ((s.heap.objs.size, l0) :: ns) nw h₁ := S.st.pushNs hk₁ ⟨by rw [hkeys]; exact localKeys.nd hsc, _, hns, hvals⟩ (Nat.le_refl _)
  refine gMono (h _ (envX qual scope s.heap.objs.size f cdv cl) { s with heap := h₁, toks := s.toks + binds.length } ⟨hk, rfl, hsc, rfl, rfl, rfl, by unfold interactive envX; rw [hk]; rfl⟩ (a.tp rfl) (a.deeper rfl hk) ⟨S₁, S.g, S.o⟩) (fun fl s' q => ?_) fun _ _ q => q
  obtain ⟨x, nw', S', k⟩ := q
  exact k S'.pop
theorem gFn {name qual : Str} {params : Arguments} {body : List Stmt} {scope : Scope} {cl : List (Str × Addr)} {dV kV doc pm cdv ct oc : Value} {an od : Option Addr} {osl : Array (Option Value)} {f : Addr} {pos : List Value} {kw : List (Str × Value)} {Q : Value → Shared → Prop}
    (l0 : Vars) (binds : List (Str × Value)) (Z : Bs w b.heap) (S : Sx b ns nw s) (a : Ar A (n + 1) (ns.map (·.1)))
    (ho : (hd.heap_1 w.params).lookup f = some ⟨oc, od, .func (fnX name qual params body scope cl dV kV doc pm an cdv ct), osl⟩) (hcd : codeIn (hd.heap_1 w.params) cdv qual = true)
    (hbind : BindsTo s (fnX name qual params body scope cl dV kV doc pm an cdv ct) ⟨pos, kw⟩ binds) (hsc : ScOk scope.names) (hcell : ∀ x ∈ scope.names, x.2 ≠ .cell)
    (hkeys : l0.map (·.1) = localKeys scope.names) (hvals : ∀ p ∈ l0, binds.reverse.lookup p.1 = p.2) (hloc : ∀ y ∈ binds, (y.1, NameKind.local) ∈ scope.names)
    (hco : scope.isCoroutine = false) (hgen : scope.isGenerator = false) (hk : scope.kind = .function)
    (h : ∀ A' env s', Fn env scope.names cl → Tp A' env → Ar A' n (env.locals :: ns.map (·.1)) → Sx b ((env.locals, l0) :: ns) nw s' →
      wpG (model prog w) A' (execs body env) (fun fl s' => LeaveX b ns Q (retOf fl) s') (Lv prog w A' env E) s') : wpG (model prog w) A (call (.ref f) pos kw) Q E s :=
  gCall (gFnR l0 binds Z S a ho hcd hbind hsc hcell hkeys hvals hloc hco hgen hk h)
end

end
section
section
variable {prog : Program} {w : World} {A : Around} {E : Value → Shared → Prop} {s : Shared} {b : Heap} {ns : List (Addr × Vars)} {nw nw' : List (Addr × Sh)} {n : Nat} {R : Result → Shared → Prop}
theorem gDefC {name qual : Str} {params : Arguments} {body : List Stmt} {scope : Scope} {dV kV doc pm cdv ct oc : Value} {an od : Option Addr} {osl : Array (Option Value)} {f : Addr} {pos : List Value} {kw : List (Str × Value)}
    (l0 c0 : Vars) (binds : List (Str × Value)) (Z : Bs w b) (S : St b ns nw s.heap) (a : Ar A (n + 1) (ns.map (·.1)))
    (ho : (hd.heap_1 w.params).lookup f = some ⟨oc, od, .func (fnX name qual params body scope [] dV kV doc pm an cdv ct), osl⟩) (hcd : codeIn (hd.heap_1 w.params) cdv qual = true)
    (hbind : BindsTo s (fnX name qual params body scope [] dV kV doc pm an cdv ct) ⟨pos, kw⟩ binds) (hsc : ScOk scope.names)
    (hkind : (binds.all fun y => scope.names.lookup y.1 == some .local || scope.names.lookup y.1 == some .cell) = true)
    (hkeys : l0.map (·.1) = localKeys scope.names) (hvals : ∀ p ∈ l0, bindL (fun z => scope.names.lookup z) binds (fun _ => none) p.1 = p.2)
    (hck : (cellsFrom 0 scope.names []).map (·.1) = c0.map (·.1)) (hcn : (c0.map (·.1)).Nodup) (hcv : ∀ p ∈ c0, bindC (fun z => scope.names.lookup z) binds (fun _ => none) p.1 = p.2)
    (hco : scope.isCoroutine = false) (hgen : scope.isGenerator = false) (hk : scope.kind = .function)
    (h : ∀ L h₁ tk (cs : List (Str × Addr)), cs.map (·.1) = c0.map (·.1) → St b ((L, l0) :: ns) (cellEntries cs c0 ++ nw) h₁ → Ar (A.deeper (envX qual scope L f cdv cs)) n (L :: ns.map (·.1)) →
      wpG (model prog w) (A.deeper (envX qual scope L f cdv cs)) (execs body (envX qual scope L f cdv cs)) (fun fl s' => Leave b ns (fun v s' => R (.ok (.ret v)) s') (retOf fl) s') (Lv prog w (A.deeper (envX qual scope L f cdv cs)) (envX qual scope L f cdv cs) fun e s' => R (.error e) s') { s with heap := h₁, toks := tk }) :
    codeG (model prog w) A (.call (.ref f) ⟨pos, kw⟩) R s := by
  have X := Z.X.keeps S.keep
  refine gCallFunction (fd := fnX name qual params body scope [] dV kV doc pm an cdv ct) a.room (X _ _ ho) rfl hco hgen (codeRec_of X hcd) (.inl ⟨body, rfl, rfl⟩) (hbind _ _ _ _ ?_)
  refine wpAny_newFunctionEnv_cells hk (kindsX hkind _) fun env' he s' x => ?_
  subst he
  refine ⟨(Z.lim.keeps S.keep).keeps x.toInCall.keep, gFunc ?_⟩
  obtain ⟨h₁, tk, rfl, _⟩ := x.done
  have hk₁ := x.toInCall.keep
  have S₁ : St b ((s.heap.objs.size, l0) :: ns) nw h₁ := S.pushNs hk₁ ⟨by rw [hkeys]; exact localKeys.nd hsc, _, x.toInCall.ns, hvals⟩ (Nat.le_refl _)
  have hnames : (cellsFrom (s.heap.objs.size + 1) scope.names []).map (·.1) = c0.map (·.1) := (cellsFrom_names scope.names 0 (s.heap.objs.size + 1) [] [] rfl).symm.trans hck
  have xc := x.cell
  have xa := x.apart
  have xb := x.above
  revert hnames xc xa xb
  show (cellsFrom (s.heap.objs.size + 1) scope.names []).map (·.1) = c0.map (·.1) → (∀ n c, (cellsFrom (s.heap.objs.size + 1) scope.names []).lookup n = some c → h₁.IsCell c (bindC (fun z => scope.names.lookup z) binds (fun _ => none) n)) →
    (cellsFrom (s.heap.objs.size + 1) scope.names []).Pairwise (fun x y => x.2 ≠ y.2) → (∀ n c, (n, c) ∈ cellsFrom (s.heap.objs.size + 1) scope.names [] → s.heap.objs.size < c) → _
  intro hnames xc xa xb
  have S₂ : St b ((s.heap.objs.size, l0) :: ns) (cellEntries (cellsFrom (s.heap.objs.size + 1) scope.names []) c0 ++ nw) h₁ := by
    refine ⟨S₁.keep, S₁.held, fun q hq => ?_, ?_⟩
    · rcases List.mem_append.mp hq with hq | hq
      · obtain ⟨⟨cn, c⟩, hc, p, hp, e, rfl⟩ := cellEntries_mem hnames hq
        have e' : cn = p.1 := e
        subst e'
        have hx := xc _ _ (lookup_of_mem_nodup (hnames ▸ hcn) hc)
        rw [hcv p hp] at hx
        exact ⟨hx, S.none_of_ge (Nat.le_of_lt (xb _ _ hc))⟩
      · exact S₁.objs q hq
    · rw [List.map_append, cellEntries_map hnames]
      have nd := S₁.nd
      refine List.nodup_append.mpr ⟨(List.nodup_append.mp nd).1, List.nodup_append.mpr ⟨List.pairwise_map.mpr xa, (List.nodup_append.mp nd).2.1, fun y hy z hz e => ?_⟩, fun y hy z hz e => ?_⟩
      · obtain ⟨p, hp, rfl⟩ := List.mem_map.mp hy
        have h1 := xb _ _ hp
        have h2 := S.lt (List.mem_append_right _ hz)
        rw [← e] at h2
        exact Nat.lt_asymm h1 h2
      · rcases List.mem_append.mp hz with hz | hz
        · obtain ⟨p, hp, rfl⟩ := List.mem_map.mp hz
          have h1 := xb _ _ hp
          rcases List.mem_cons.mp hy with rfl | hy
          · exact Nat.lt_irrefl _ (e ▸ h1)
          · have h2 := S.lt (List.mem_append_left _ hy)
            rw [e] at h2
            exact Nat.lt_asymm h1 h2
        · exact (List.nodup_append.mp nd).2.2 y hy z hz e
  refine gMono (h s.heap.objs.size h₁ tk _ hnames S₂ (a.deeper rfl hk)) (fun fl s' q => ?_) fun _ _ q => q
  obtain ⟨x, nw', S', k⟩ := q
  have := k S'.pop
  exact this
end
section
variable {prog : Program} {w : World} {A : Around} {E : Value → Shared → Prop} {s : Shared} {b : Shared} {ns : List (Addr × Vars)} {nw nw' : List (Addr × Sh)} {n : Nat} {env : Env} {names : List (Str × NameKind)}
theorem gFnCR {name qual : Str} {params : Arguments} {body : List Stmt} {scope : Scope} {dV kV doc pm cdv ct oc : Value} {an od : Option Addr} {osl : Array (Option Value)} {f : Addr} {pos : List Value} {kw : List (Str × Value)} {R : Result → Shared → Prop}
    (l0 c0 : Vars) (binds : List (Str × Value)) (Z : Bs w b.heap) (S : Sx b ns nw s) (a : Ar A (n + 1) (ns.map (·.1)))
    (ho : (hd.heap_1 w.params).lookup f = some ⟨oc, od, .func (fnX name qual params body scope [] dV kV doc pm an cdv ct), osl⟩) (hcd : codeIn (hd.heap_1 w.params) cdv qual = true)
    (hbind : BindsTo s (fnX name qual params body scope [] dV kV doc pm an cdv ct) ⟨pos, kw⟩ binds) (hsc : ScOk scope.names)
    (hkind : (binds.all fun y => scope.names.lookup y.1 == some .local || scope.names.lookup y.1 == some .cell) = true)
    (hkeys : l0.map (·.1) = localKeys scope.names) (hvals : ∀ p ∈ l0, bindL (fun z => scope.names.lookup z) binds (fun _ => none) p.1 = p.2)
    (hck : (cellsFrom 0 scope.names []).map (·.1) = c0.map (·.1)) (hcn : (c0.map (·.1)).Nodup) (hcv : ∀ p ∈ c0, bindC (fun z => scope.names.lookup z) binds (fun _ => none) p.1 = p.2)
    (hco : scope.isCoroutine = false) (hgen : scope.isGenerator = false) (hk : scope.kind = .function)
    (h : ∀ A' env s' (cs : List (Str × Addr)), cs.map (·.1) = c0.map (·.1) → env.code = cdv → env.qual = qual ++ Str.ofString ".<locals>." → Fn env scope.names cs → Tp A' env → Ar A' n (env.locals :: ns.map (·.1)) → Sx b ((env.locals, l0) :: ns) (cellEntries cs c0 ++ nw) s' →
      wpG (model prog w) A' (execs body env) (fun fl s' => LeaveX b ns (fun v s' => R (.ok (.ret v)) s') (retOf fl) s') (Lv prog w A' env fun e s' => R (.error e) s') s') :
    codeG (model prog w) A (.call (.ref f) ⟨pos, kw⟩) R s := by
  refine gDefC l0 c0 binds Z S.st a ho hcd hbind hsc hkind hkeys hvals hck hcn hcv hco hgen hk fun L h₁ tk cs hcs S₁ a₁ => ?_
  refine gMono (h _ (envX qual scope L f cdv cs) { s with heap := h₁, toks := tk } cs hcs rfl rfl ⟨hk, rfl, hsc, rfl, rfl, rfl, by unfold interactive envX; rw [hk]; rfl⟩ (a.tp rfl) a₁ ⟨S₁, S.g, S.o⟩) (fun fl s' q => ?_) fun _ _ q => q
  obtain ⟨x, nw', S', k⟩ := q
  exact ⟨x, nw', S'.st, fun S'' => k ⟨S'', S'.g, S'.o⟩⟩
theorem gFnC {name qual : Str} {params : Arguments} {body : List Stmt} {scope : Scope} {dV kV doc pm cdv ct oc : Value} {an od : Option Addr} {osl : Array (Option Value)} {f : Addr} {pos : List Value} {kw : List (Str × Value)} {Q : Value → Shared → Prop}
    (l0 c0 : Vars) (binds : List (Str × Value)) (Z : Bs w b.heap) (S : Sx b ns nw s) (a : Ar A (n + 1) (ns.map (·.1)))
    (ho : (hd.heap_1 w.params).lookup f = some ⟨oc, od, .func (fnX name qual params body scope [] dV kV doc pm an cdv ct), osl⟩) (hcd : codeIn (hd.heap_1 w.params) cdv qual = true)
    (hbind : BindsTo s (fnX name qual params body scope [] dV kV doc pm an cdv ct) ⟨pos, kw⟩ binds) (hsc : ScOk scope.names)
    (hkind : (binds.all fun y => scope.names.lookup y.1 == some .local || scope.names.lookup y.1 == some .cell) = true)
    (hkeys : l0.map (·.1) = localKeys scope.names) (hvals : ∀ p ∈ l0, bindL (fun z => scope.names.lookup z) binds (fun _ => none) p.1 = p.2)
    (hck : (cellsFrom 0 scope.names []).map (·.1) = c0.map (·.1)) (hcn : (c0.map (·.1)).Nodup) (hcv : ∀ p ∈ c0, bindC (fun z => scope.names.lookup z) binds (fun _ => none) p.1 = p.2)
    (hco : scope.isCoroutine = false) (hgen : scope.isGenerator = false) (hk : scope.kind = .function)
    (h : ∀ A' env s' (cs : List (Str × Addr)), cs.map (·.1) = c0.map (·.1) → env.code = cdv → env.qual = qual ++ Str.ofString ".<locals>." → Fn env scope.names cs → Tp A' env → Ar A' n (env.locals :: ns.map (·.1)) → Sx b ((env.locals, l0) :: ns) (cellEntries cs c0 ++ nw) s' →
      wpG (model prog w) A' (execs body env) (fun fl s' => LeaveX b ns Q (retOf fl) s') (Lv prog w A' env E) s') :
    wpG (model prog w) A (call (.ref f) pos kw) Q E s :=
  gCall (gFnCR l0 c0 binds Z S a ho hcd hbind hsc hkind hkeys hvals hck hcn hcv hco hgen hk h)
end
section
variable {prog : Program} {w : World} {A : Around} {E : Value → Shared → Prop} {s : Shared} {b : Shared} {ns : List (Addr × Vars)} {nw nw' : List (Addr × Sh)} {n : Nat} {env : Env} {names : List (Str × NameKind)} {cs clos : List (Str × Addr)} {c P f : Addr} {ps : Array Value} {params : Arguments} {body : Expr} {scope : Scope} {pos : Pos}
theorem gLam {qual : Str} {args : List Value} {Q : Value → Shared → Prop} (l0 : Vars) (binds : List (Str × Value)) (Z : Bs w b.heap) (S : Sx b ns nw s) (a : Ar A (n + 1) (ns.map (·.1))) (hf : (f, aLam qual params body scope clos c) ∈ nw) (hc : (c, aCode qual) ∈ nw)
    (hbind : ∀ pm ctv, bindArgs (kla_fn "<lambda>" qual params body scope clos pm (.ref c) ctv) ⟨args, []⟩ = pure binds) (hsc : ScOk scope.names) (hcell : ∀ x ∈ scope.names, x.2 ≠ .cell)
    (hkeys : l0.map (·.1) = localKeys scope.names) (hvals : ∀ p ∈ l0, binds.reverse.lookup p.1 = p.2) (hloc : ∀ y ∈ binds, (y.1, NameKind.local) ∈ scope.names)
    (hco : scope.isCoroutine = false) (hgen : scope.isGenerator = false) (hk : scope.kind = .function)
    (h : ∀ A' env s', Fn env scope.names clos → Tp A' env → Ar A' n (env.locals :: ns.map (·.1)) → Sx b ((env.locals, l0) :: ns) nw s' →
      wpG (model prog w) A' (eval body env) (fun v s' => LeaveX b ns Q v s') (Lv prog w A' env E) s') : wpG (model prog w) A (call (.ref f) args) Q E s := by
  obtain ⟨⟨o, ho, pm, ctv, rfl⟩, _⟩ := S.st.objs _ hf
  obtain ⟨⟨oc, hoc, vs, t, hd, hv⟩, _⟩ := S.st.objs _ hc
  refine gCall (gCallFunction a.room ho rfl hco hgen ⟨c, oc, vs, t, rfl, hoc, hd, hv⟩ (.inr ⟨body, rfl, rfl⟩) ?_)
  rw [hbind]
  refine wpAny_pure (wpAny_newFunctionEnv hcell (fun y hy => hsc.look (hloc y hy)) (fun h₁ hns hsb => ⟨((Z.lim.keeps S.st.keep)).fresh _ hsb, ?_⟩) hk)
  show codeG _ _ (.expr body (envX qual scope s.heap.objs.size f (.ref c) clos)) _ _
  have hk₁ : ∀ b o, s.heap.get? b = some o → h₁.get? b = some o := fun b o e => hsb.extBut b o (Nat.ne_of_lt (Heap.lt_size e)) (Heap.get?_push_of_some _ e)
  have S1 : Sx b ((s.heap.objs.size, l0) :: ns) nw { s with heap := h₁, toks := s.toks + binds.length } := ⟨S.st.pushNs hk₁ ⟨by rw [hkeys]; exact localKeys.nd hsc, _, hns, hvals⟩ (Nat.le_refl _), S.g, S.o⟩
  refine gExpr (gMono (h _ (envX qual scope s.heap.objs.size f (.ref c) clos) _ ⟨hk, rfl, hsc, rfl, rfl, rfl, by unfold interactive envX; rw [hk]; rfl⟩ (a.tp rfl) (a.deeper rfl hk) S1) (fun v s' q => ?_) fun _ _ y => y)
  obtain ⟨x, nw', S', k⟩ := q
  exact k S'.pop
end

end
section
open PySem.Sem (wp)
section
variable {prog : Program} {w : World} {A : Around} {C : Addr} {R : Result → Shared → Prop} {h : Heap} {g : Array GenState} {d : Drawn} {t : Nat} {os : OsState}
theorem gMakeCore {rest : List Value} {init : Value} (Y : Makes (model prog w) h C) (hi : Looks (model prog w) h (typeLookup (.ref C) "__init__") (some init))
    (hb : ∀ self, Looks (model prog w) h (bindSpecial init self) (init, [self])) (hne : (some init != some (Value.builtin "object.__init__")) = true)
    (hq : codeG (model prog w) (A.under (.builtin "type.__call__" ⟨.ref C :: rest, []⟩)) (.call init ⟨.ref (h.objs.size + 1) :: rest, []⟩) (InitBack (h.objs.size + 1) R) ⟨(h.push emptyDict).push (instObj C h.objs.size), g, d, t, os⟩) :
    codeG (model prog w) A (.call (.ref C) ⟨rest, []⟩) R ⟨h, g, d, t, os⟩ := by
  have Y' := Y
  obtain ⟨⟨oc, od, cd, sl, hC, e1, e2, e4⟩, made, base, self, top, call, typ⟩ := Y
  refine gTree rfl (gOf ?_)
  show wpAny _ _ (callAny (.ref C) _) _ _ _
  refine nd_load hC ?_
  show wpAny _ _ (callAny.viaDunder (.ref C) _) _ _ _
  unfold callAny.viaDunder
  refine wpAny_bind (call.at ?_)
  dsimp only
  rw [tc_bind]
  refine wpAny_bind (wpAny_pure (wpAny_bind (wpAny_pure ?_)))
  refine wpAny_pure (a := Fin.again (.call (.builtin "type.__call__") ⟨.ref C :: rest, []⟩)) (And.intro rfl ?_)
  refine gCallBuiltin (Code.quiet_builtin _ (by decide +kernel)) (check_slot tc_kind tc_split typ (tc_args _ _ _) ?_)
  refine gBuiltin rfl entry_typeCall ?_
  have hm : Looks (model prog w) h (mroOf (.ref C)) cd.mro := ((Looks.ld (part := none) hC).andThen .now).andThen .now
  unfold Builtin.«type.__call__»
  dsimp only
  rw [if_neg (show ¬ ((Value.ref C == Value.type "type") = true) from Bool.false_ne_true)]
  refine gB (hm.at ?_)
  rw [e4, if_neg (by decide)]
  refine gB (made.at ?_)
  dsimp only
  refine gB (wpAny_pure ?_)
  refine gB (wpAny_holding (wpAny_call (new_K Y' hi (.inl hne) ?_)))
  have k : ∀ b o, h.get? b = some o → ((h.push emptyDict).push (instObj C h.objs.size)).get? b = some o := fun b o e => Heap.get?_push_of_some _ (Heap.get?_push_of_some _ e)
  have hx : ((h.push emptyDict).push (instObj C h.objs.size)).get? (h.objs.size + 1) = some (instObj C h.objs.size) := by heap_get
  have t1 : Looks (model prog w) ((h.push emptyDict).push (instObj C h.objs.size)) (typeOf (.ref (h.objs.size + 1))) (.ref C) := (Looks.ld hx).andThen .now
  have s1 := self.keeps k
  have i1 := hi.keeps k
  have b1 := (hb (.ref (h.objs.size + 1))).keeps k
  show wpG _ _ _ _ _ _
  have ii : Looks (model prog w) ((h.push emptyDict).push (instObj C h.objs.size)) (isInstance (.ref (h.objs.size + 1)) (.ref C)) true := t1.andThen s1
  refine gB (ii.at ?_)
  rw [if_neg (by decide)]
  refine gBind (gHolding ?_)
  unfold callSpecial?
  have sp : Looks (model prog w) ((h.push emptyDict).push (instObj C h.objs.size)) (specialOf (.ref (h.objs.size + 1)) "__init__") (some init) := t1.andThen i1
  refine gB (sp.at ?_)
  dsimp only
  refine gHolding (gB (b1.at ?_))
  refine gBind (gCall (gCodeMono hq fun r s' z => ?_))
  rcases r with e | (v | _ | _ | _) <;> first | exact z | exact z.elim | skip
  obtain ⟨rfl, z⟩ := z
  show wpG _ _ (pure (some Value.none)) _ _ _
  refine gPure ?_
  show wpG _ _ (if (Value.none != Value.none) = true then _ else ret _) _ _ _
  rw [if_neg (by decide)]
  exact gPure z
end
section
variable {prog : Program} {w : World} {A : Around} {E : Value → Shared → Prop} {s : Shared} {b : Shared} {ns : List (Addr × Vars)} {nw nw' : List (Addr × Sh)} {n : Nat} {C : Addr}
theorem gMake {vs : List Value} {fI : Addr} {Q : Value → Shared → Prop} (Z : Bs w b.heap) (S : Sx b ns nw s) (a : Ar A (n + 2) (ns.map (·.1))) (hm : makesIn (hd.heap_1 w.params) C = true)
    (hi : findIn (hd.heap_1 w.params) (.ref C) "__init__" = some (some (.ref fI))) (hf : typeIn (hd.heap_1 w.params) (.ref fI) = some (.type "function"))
    (h : ∀ A' x dx s', Ar A' n (ns.map (·.1)) → Sx b ns ((x, aIns C dx) :: (dx, aFld []) :: nw) s' →
      codeG (model prog w) A' (.call (.ref fI) ⟨.ref x :: vs, []⟩) (fun r s' => match r with | .ok (.ret v) => v = .none ∧ Q (.ref x) s' | .ok _ => False | .error e => E e s') s') :
    wpG (model prog w) A (call (.ref C) vs) Q E s := by
  refine gCall ?_
  obtain ⟨hh, g, d, t, os⟩ := s
  have S1 := S.st.alloc (o := emptyDict) (x := aFld []) ⟨[], _, rfl, .nil⟩
  have S2 := S1.alloc (o := instObj C hh.objs.size) (x := aIns C hh.objs.size) rfl
  rw [Heap.size_push] at S2
  refine gMakeCore (makes_of (S.K Z) hm) (looks_findIn (S.K Z) hi) (fun self => bind_fn (S.K Z) self hf) rfl (gCodeMono (h _ (hh.objs.size + 1) hh.objs.size _ (a.under (tc_weight _ _) (tc_units _) ?_) ⟨S2, S.g, S.o⟩) fun r s' q => ?_)
  · rfl
  · rcases r with e | (v | _ | _ | _) <;> exact q
end

end
section
open PySem.Sem (wp)
section
variable {prog : Program} {w : World} {A : Around} {E : Value → Shared → Prop} {s : Shared} {b : Shared} {ns : List (Addr × Vars)} {nw nw' : List (Addr × Sh)} {n : Nat} {env : Env} {names : List (Str × NameKind)} {cs : List (Str × Addr)} {nm : Str} {pos np : Pos}
theorem gCw1 {f : Addr} {first : List Value} {e : Expr} {rest : List Expr} {Q : Value → Shared → Prop} (hk : keepIn (hd.heap_1 w.params) (.ref f) = true)
    (h : wpG (model prog w) A (spliced (backTo pos (starEach (e :: rest) env))) (fun vs s₁ => (hd.heap_1 w.params).In s₁.heap ∧ wpG (model prog w) A (call (.ref f) (first ++ vs)) Q E s₁) E s)
    (he : starEach (e :: rest) env = (false, eval e env) :: starEach rest env) (hplain : (backTo pos (starEach rest env)).any (·.1) = false) :
    wpG (model prog w) A (callWith pos (.ref f) first (backTo pos (starEach (e :: rest) env)) []) Q E s := by
  rw [he] at h ⊢
  exact gCallWith (P := (hd.heap_1 w.params).In) (by show ((false || (backTo pos (starEach rest env)).any (·.1)) || false) = false; rw [hplain]; rfl) (keeps_K hk) (gEvalArgs h)
theorem gCallGl {f : Addr} {e : Expr} {rest : List Expr} {Q : Value → Shared → Prop} (Z : Bs w b.heap) (V : Fn env names cs) (S : Sx b ns nw s) (hk : (nm, NameKind.globalImplicit) ∈ names) (hv : (nm, .ref f) ∈ GF)
    (h : wpG (model prog w) A (spliced (backTo pos (starEach (e :: rest) env))) (fun vs s₁ => (hd.heap_1 w.params).In s₁.heap ∧ wpG (model prog w) A (call (.ref f) vs) Q E s₁) E s)
    (he : starEach (e :: rest) env = (false, eval e env) :: starEach rest env) (hplain : (backTo pos (starEach rest env)).any (·.1) = false) :
    wpG (model prog w) A (eval (.Call (.Name nm np) (e :: rest) [] pos) env) Q E s := by
  show wpG _ _ (do callWith pos (← eval (.Name nm np) env) [] (backTo pos (starEach (e :: rest) env)) (backToKw pos (keywordEach [] env))) Q E s
  exact gB (e_global Z V S hk (gf_ok (w := w) _ hv).1 (gCw1 (first := []) ((gf_ok _ hv).2 _ rfl) h he hplain))
theorem gCallTy {T : String} {e : Expr} {rest : List Expr} {Q : Value → Shared → Prop} (Z : Bs w b.heap) (V : Fn env names cs) (S : Sx b ns nw s) (hk : (nm, NameKind.globalImplicit) ∈ names) (hv : (nm, .type T) ∈ BL)
    (h : wpG (model prog w) A (spliced (backTo pos (starEach (e :: rest) env))) (fun vs s₁ => wpG (model prog w) A (call (.type T) vs) Q E s₁) E s)
    (he : starEach (e :: rest) env = (false, eval e env) :: starEach rest env) (hplain : (backTo pos (starEach rest env)).any (·.1) = false) :
    wpG (model prog w) A (eval (.Call (.Name nm np) (e :: rest) [] pos) env) Q E s := by
  show wpG _ _ (do callWith pos (← eval (.Name nm np) env) [] (backTo pos (starEach (e :: rest) env)) (backToKw pos (keywordEach [] env))) Q E s
  refine gB (e_builtin Z V S hk hv ?_)
  rw [he] at h ⊢
  exact gCallWith (P := fun _ => True) (by show ((false || (backTo pos (starEach rest env)).any (·.1)) || false) = false; rw [hplain]; rfl) (fun _ _ => ⟨.machine, .inr (.inl rfl), Looks.of_pure rfl⟩) (gEvalArgs (gMono h (fun _ _ q => ⟨trivial, q⟩) fun _ _ q => q))
theorem gMethod {o : Expr} {name : Str} {apos : Pos} {args : List Expr} {pl : Sem Bool} {Q : Value → Shared → Prop}
    (h : wpAny (model prog w) A (eval o env) (fun ov s₁ => wpAny (model prog w) A (getMethod ov name pl) (fun fx s₂ => wpG (model prog w) A (callWith pos fx.1 fx.2 (backTo pos (starEach args env)) []) Q E s₂) E s₁) E s)
    (he : eval (.Call (.Attribute o name apos) args [] pos) env = (do
      let ov ← eval o env
      standAt apos.atName
      let (f, first) ← holding [ov] (getMethod ov name pl)
      callWith pos f first (backTo pos (starEach args env)) [])) :
    wpG (model prog w) A (eval (.Call (.Attribute o name apos) args [] pos) env) Q E s := by
  rw [he]
  exact gB (wpAny_mono h (fun ov s₁ h₁ => gB (wpAny_standAt (gB (wpAny_holding (wpAny_mono h₁ (fun fx s₂ h₂ => h₂) fun _ _ x => x))))) fun _ _ x => x)
theorem gEvalArgs0 {f : Value} {Q : Args → Shared → Prop} (h : Q ⟨[], []⟩ s) : wpAny (model prog w) A (evalArgs f true [] []) Q E s := evalArgs_nil3 h
theorem gCallF0 {f : Addr} {Q : Value → Shared → Prop} {lv : Vars} (V : Fn env names cs) (S : Sx b ((env.locals, lv) :: ns) nw s) (hk : (nm, NameKind.local) ∈ names) (hv : (nm, some (.ref f)) ∈ lv)
    (hf : ∃ o fd, s.heap.get? f = some o ∧ o.data = .func fd) (h : wpG (model prog w) A (call (.ref f) []) Q E s) : wpG (model prog w) A (eval (.Call (.Name nm np) [] [] pos) env) Q E s := by
  obtain ⟨o, fd, ho, hd⟩ := hf
  show wpG _ _ (do callWith pos (← eval (.Name nm np) env) [] (backTo pos (starEach [] env)) (backToKw pos (keywordEach [] env))) Q E s
  refine gB (e_local V S hk hv ?_)
  exact gCallWith (P := fun h => h.get? f = some o) rfl (fun h e => ⟨.frame, .inl rfl, (Looks.ld (part := none) e).andThen (by rw [hd]; exact .now)⟩) (gOf (evalArgs_nil3 ⟨ho, h⟩))
end

end
section
open PySem.Sem (wp)
section
variable {prog : Program} {w : World} {A : Around} {E : Value → Shared → Prop} {s : Shared} {b : Shared} {ns : List (Addr × Vars)} {nw : List (Addr × Sh)} {nw' : Addr → List (Addr × Sh)} {n : Nat} {u : Tok} {v v2 v3 v4 : Value} {Q : Value → Shared → Prop} {its : List Value} {sz sd x dx f t m g : Addr} {pg pgs least : Int} {tp tq tl : Tok}
theorem i_mulS {x y : Int} {t u : Tok} {Q : Value → Shared → Prop} (S : Sx b ns nw s) (h0 : 0 ≤ x) (h1 : x ≤ 10) (h : ∀ t s', Sx b ns nw s' → Q (.int (x * y) t) s') : wpAny (model prog w) A (binaryOp .Mult (.int x t) (.int y u)) Q E s := by
  refine PyProof.Rows.mul_int (h _ _ S.tok) ?_
  intro q
  exfalso
  have := (Bool.and_eq_true_iff.mp (Bool.and_eq_true_iff.mp q).1).1
  have := of_decide_eq_true this
  obtain ⟨n, rfl⟩ := Int.eq_ofNat_of_zero_le h0
  have hn : n < 11 := by omega
  revert this
  exact (show ∀ n : Nat, n < 11 → ¬ PySem.Builtin.Int.intBits (n : Int) > PySem.shortFactorBits from by decide) n hn

set_option maxHeartbeats 4000000 in
theorem memory_spec (Z : Bs w b.heap) (S : Sx b ns nw s) (a : Ar A (n + 6) (ns.map (·.1))) (hsz : (sz, aIns 84 sd) ∈ nw) (hsd : (sd, aFld (sizF (.int pg tp) (.int pgs tq) v2 v3 v4)) ∈ nw) (h0 : 0 ≤ least) (h1 : least ≤ 10) (h2 : 0 ≤ pg) (h3 : pg ≤ 10)
    (ok : ∀ x s', least ≤ pgs → Sx b ns nw s' → Q (.ref x) s') (bad : ∀ ex s', pgs < least → Fly b ns nw (Str.ofString "more pages than are let") ex s' → E ex s') :
    wpG (model PySem.Challenge.pw_nm0155_01 w) A (call (.ref 234) [.int least tl, v, .ref sz]) Q E s := by
  refine gMake Z S a (by k_is) (fI := 147) (by k_is) (by k_is) fun A' x dx s a S => ?_
  refine gFnR [((Str.ofString "self"), some (.ref x)), ((Str.ofString "least"), some (.int least tl)), ((Str.ofString "most"), some v), ((Str.ofString "sizes"), some (.ref sz))] [((Str.ofString "self"), .ref x), ((Str.ofString "least"), .int least tl), ((Str.ofString "most"), v), ((Str.ofString "sizes"), .ref sz)] Z S a (by k_is) (by k_is) (BindsTo.of_eq (by with_unfolding_all rfl)) (by rfl) (by decide) (by rfl) (by wtm_at "M.vals") (by wtm_at "M.locs") (by rfl) (by rfl) (by rfl) ?_
  intro A' env s V tp a S
  dsimp only at V S
  show wpG _ _ (execs ([_, _, _, _] ++ [_]) env) _ _ _
  refine gAhead ?_
  wtm_at "M.w"
  refine ite_of (fun hc => ?_) fun hc => ?_
  · wtm_at "M.w"
    wtm_at "M.mis"
    rename Fly _ _ _ _ _ _ => fl
    exact bad _ _ (of_decide_eq_true hc) (fl.sub (.cons _ (.cons _ (.refl _))))
  · wtm_at "M.w"
    refine gAssignAttr ?_ (by with_unfolding_all rfl)
    refine gCallTy Z (by wtm_at "M.a") (by wtm_at "M.a") (by wtm_at "M.mem") (by wtm_at "M.mem") ?_ (by with_unfolding_all rfl) (by with_unfolding_all rfl)
    refine gOf ?_
    wtm_at "M.w"
    refine i_mulS (by wtm_at "M.a") h0 h1 fun t s S => ?_
    wtm_at "M.w"
    have hm : 0 ≤ least * pg := Int.mul_nonneg h0 h2
    have hm2 : least * pg ≤ 10 * 10 := Int.mul_le_mul h1 h3 h2 (by decide)
    refine c_ba (by wtm_at "M.a") hm (by omega) fun ba s S => ?_
    wtm_at "M.w"
    refine gExecsNil ?_
    wtm_at "M.w"
    have hc := of_decide_eq_false hc
    exact ⟨rfl, ok _ _ (by omega) (Sx.drop (Sx.drop (by wtm_at "M.a")))⟩

set_option maxHeartbeats 4000000 in
theorem make_memory_spec {ab : Addr} (Z : Bs w b.heap) (S : Sx b ns nw s) (a : Ar A (n + 10) (ns.map (·.1))) (hx : (x, aIns 557 dx) ∈ nw) (hdx : (dx, aFld (stoF sz f t m g)) ∈ nw) (hsz : (sz, aIns 84 sd) ∈ nw) (hsd : (sd, aFld (sizF (.int pg tp) (.int pgs tq) v2 v3 v4)) ∈ nw) (h0 : 0 ≤ least) (h1 : least ≤ 10) (h2 : 0 ≤ pg) (h3 : pg ≤ 10)
    (hab : (ab, aTup [.int least tl, v]) ∈ nw) (P : ∀ mo, PutO m (aList its) (aList (its ++ [.ref mo])) nw (nw' mo)) (hlen : its.length ≤ 1000)
    (ok : ∀ mo t s', least ≤ pgs → Sx b ns (nw' mo) s' → Q (.int its.length t) s') (bad : ∀ ex s', pgs < least → Fly b ns nw (Str.ofString "more pages than are let") ex s' → E ex s') :
    wpG (model PySem.Challenge.pw_nm0155_01 w) A (call (.ref 505) [.ref x, .ref ab]) Q E s := by
  refine gFn [((Str.ofString "self"), some (.ref x)), ((Str.ofString "about"), some (.ref ab))] [((Str.ofString "self"), .ref x), ((Str.ofString "about"), .ref ab)] Z S a (by k_is) (by k_is) (BindsTo.of_eq (by with_unfolding_all rfl)) (by rfl) (by decide) (by rfl) (by wtm_at "M.vals") (by wtm_at "M.locs") (by rfl) (by rfl) (by rfl) ?_
  intro A' env s V tp a S
  dsimp only at V S
  refine gReturn ?_
  refine gMethod ?_ (by with_unfolding_all rfl)
  wtm_at "M.w"
  refine gCw1 (by with_unfolding_all k_is) ?_ (by with_unfolding_all rfl) (by with_unfolding_all rfl)
  refine gSplicedMore ?_ (by with_unfolding_all rfl)
  refine gCallGl Z (by wtm_at "M.a") (by wtm_at "M.a") (by wtm_at "M.mem") (by wtm_at "M.mem") ?_ (by with_unfolding_all rfl) (by with_unfolding_all rfl)
  refine gOf ?_
  wtm_at "M.w"
  refine memory_spec (n := n) Z (by wtm_at "M.a") (Ar.less (by assumption) (by wtm_at "M.le")) hsz hsd h0 h1 h2 h3 (fun mo s hle S => ?_) fun ex s hlt fl => ?_
  · refine gOf ?_
    wtm_at "M.w"
    refine gOf ?_
    refine add_memory_spec (n := n) Z (by wtm_at "M.a") (Ar.less (by assumption) (by wtm_at "M.le")) hx hdx (P mo) hlen fun t s S => ?_
    wtm_at "M.w"
    exact ok _ _ _ hle (by wtm_at "M.a")
  · exact leave_next (by wtm_at "M.a") (by assumption) (by wtm_at "M.a") fl fun ex s' fl => bad _ _ hlt fl
end

end
section
open PySem.Sem (wp)
section
variable {prog : Program} {w : World} {A : Around} {E : Value → Shared → Prop} {s : Shared} {b : Shared} {ns : List (Addr × Vars)} {nw : List (Addr × Sh)} {n : Nat}
set_option maxHeartbeats 4000000 in
theorem gHeard {f : Addr} {Q : Value → Shared → Prop} {G : Value → List (Addr × Sh) → Prop} {F : Str → List (Addr × Sh) → Prop} (Z : Bs w b.heap) (S : Sx b ns nw s) (a : Ar A (n + 1) (ns.map (·.1)))
    {qual : Str} {params : Arguments} {lbody : Expr} {scope : Scope} {clos : List (Str × Addr)} {c : Addr} (hf : (f, aLam qual params lbody scope clos c) ∈ nw)
    (hcall : ∀ A' (p : Addr × Vars) s' Q' E', Ar A' n ((p :: ns).map (·.1)) → Sx b (p :: ns) nw s' → (∀ v nw1 s'', G v nw1 → Sx b (p :: ns) nw1 s'' → Q' v s'') → (∀ ex x nw1 s'', F x nw1 → Fly b (p :: ns) nw1 x ex s'' → E' ex s'') →
      wpG (model PySem.Challenge.pw_nm0155_01 w) A' (call (.ref f) []) Q' E' s')
    (told : ∀ r k v nw1 s', G v nw1 → Sx b ns ((r, aTup [.str (Str.ofString "told") k, v]) :: nw1) s' → Q (.ref r) s')
    (mis : ∀ r k k' x nw1 s', F x nw1 → Sx b ns ((r, aTup [.str (Str.ofString "misused") k, .str x k']) :: nw1) s' → Q (.ref r) s') :
    wpG (model PySem.Challenge.pw_nm0155_01 w) A (call (.ref 692) [.ref f]) Q E s := by
  refine gFn [((Str.ofString "call"), some (.ref f)), ((Str.ofString "fault"), none)] [((Str.ofString "call"), .ref f)] Z S a (by k_is) (by k_is) (BindsTo.of_eq (by with_unfolding_all rfl)) (by rfl) (by decide) (by rfl) (by wtm_at "M.vals") (by wtm_at "M.locs") (by rfl) (by rfl) (by rfl) ?_
  intro A' env s V tp a S
  dsimp only at V S
  refine gTryExcept (gReturn (gTuple (gSplicedMore (gOf ?_) (by with_unfolding_all rfl))))
  wtm_at "M.w"
  rename Sx b (_ :: ns) nw _ => S1
  refine gSplicedMore (gCallF0 (by wtm_at "M.a") S1 (by wtm_at "M.mem") (by wtm_at "M.mem") (by obtain ⟨⟨o, ho, pm, ctv, rfl⟩, _⟩ := S1.st.objs _ hf; exact ⟨_, _, ho, rfl⟩) ?_) (by with_unfolding_all rfl)
  refine hcall _ (_, _) _ _ _ (by assumption) S1 (fun v nw1 s2 hG S2 => ?_) fun ex x nw1 s2 hF fl => ?_
  · refine gOf ?_
    wtm_at "M.w"
    refine gOf ?_
    wtm_at "M.w"
    exact told _ _ _ _ _ hG (by wtm_at "M.a")
  · obtain ⟨e, dx, T, t, rfl, S3⟩ := fl
    refine note_next (by wtm_at "M.a") (by assumption) (by wtm_at "M.a") S3 fun T' s4 S4 => ?_
    refine fly_none S4 fun s5 S5 => gOf ?_
    refine mis_handle Z (by wtm_at "M.a") (by wtm_at "M.mem") (by wtm_at "M.mem") S5 (by wtm_at "M.putv") fun A2 E2 s6 S6 => ?_
    wtm_at "M.w"
    refine why_get Z (by wtm_at "M.a") fun s7 S7 => ?_
    wtm_at "M.w"
    refine name_goes (by wtm_at "M.a") (by wtm_at "M.mem") (by wtm_at "M.a") fun s8 S8 => ?_
    wtm_at "M.w"
    rename Sx b ns _ _ => S9
    exact mis _ _ _ _ _ _ hF ⟨S9.st.sub (List.Sublist.cons_cons _ (List.Sublist.cons _ (List.Sublist.cons _ (List.Sublist.cons _ (List.Sublist.refl _))))), S9.g, S9.o⟩
theorem gHeard_at {f : Addr} {Q : Value → Shared → Prop} (G : List (Addr × Sh) → Value → List (Addr × Sh) → Prop) (F : List (Addr × Sh) → Str → List (Addr × Sh) → Prop) (Z : Bs w b.heap) (S : Sx b ns nw s) (a : Ar A (n + 1) (ns.map (·.1)))
    {qual : Str} {params : Arguments} {lbody : Expr} {scope : Scope} {clos : List (Str × Addr)} {c : Addr} (hf : (f, aLam qual params lbody scope clos c) ∈ nw)
    (hcall : ∀ A' (p : Addr × Vars) s' Q' E', Ar A' n ((p :: ns).map (·.1)) → Sx b (p :: ns) nw s' → (∀ v nw1 s'', G nw v nw1 → Sx b (p :: ns) nw1 s'' → Q' v s'') → (∀ ex x nw1 s'', F nw x nw1 → Fly b (p :: ns) nw1 x ex s'' → E' ex s'') →
      wpG (model PySem.Challenge.pw_nm0155_01 w) A' (call (.ref f) []) Q' E' s')
    (told : ∀ r k v nw1 s', G nw v nw1 → Sx b ns ((r, aTup [.str (Str.ofString "told") k, v]) :: nw1) s' → Q (.ref r) s')
    (mis : ∀ r k k' x nw1 s', F nw x nw1 → Sx b ns ((r, aTup [.str (Str.ofString "misused") k, .str x k']) :: nw1) s' → Q (.ref r) s') :
    wpG (model PySem.Challenge.pw_nm0155_01 w) A (call (.ref 692) [.ref f]) Q E s := gHeard (G := G nw) (F := F nw) Z S a hf hcall told mis
end

end
section
open PySem.Sem (wp)
section
variable {w : World} {A : Around} {E : Value → Shared → Prop} {s : Shared} {b : Shared} {ns : List (Addr × Vars)} {nw : List (Addr × Sh)} {n : Nat}
set_option maxHeartbeats 2000000 in
theorem gHeard_body {f c : Addr} {qual : Str} {lbody : Expr} {scope : Scope} {clos : List (Str × Addr)} {Q : Value → Shared → Prop} (G : List (Addr × Sh) → Value → List (Addr × Sh) → Prop) (F : List (Addr × Sh) → Str → List (Addr × Sh) → Prop) (Z : Bs w b.heap) (S : Sx b ns nw s) (a : Ar A (n + 2) (ns.map (·.1)))
    (hf : (f, aLam qual noArgs lbody scope clos c) ∈ nw) (hc : (c, aCode qual) ∈ nw) (hsc : ScOk scope.names) (hcell : ∀ x ∈ scope.names, x.2 ≠ .cell) (hkeys : [] = localKeys scope.names) (hco : scope.isCoroutine = false) (hgen : scope.isGenerator = false) (hk : scope.kind = .function)
    (body : ∀ A' env (p : Addr × Vars) s' Q' E', Fn env scope.names clos → Tp A' env → Ar A' n (env.locals :: p.1 :: ns.map (·.1)) → Sx b ((env.locals, []) :: p :: ns) nw s' →
      (∀ v nw1 s'', G nw v nw1 → Sx b ((env.locals, []) :: p :: ns) nw1 s'' → Q' v s'') → (∀ ex x nw1 s'', F nw x nw1 → Fly b ((env.locals, []) :: p :: ns) nw1 x ex s'' → E' ex s'') → wpG (model PySem.Challenge.pw_nm0155_01 w) A' (eval lbody env) Q' E' s')
    (cont : ∀ r R nw1 s', Out (G nw) (F nw) R nw1 → Sx b ns ((r, aTup R) :: nw1) s' → Q (.ref r) s') :
    wpG (model PySem.Challenge.pw_nm0155_01 w) A (call (.ref 692) [.ref f]) Q E s :=
  gHeard (n := n + 1) (G := G nw) (F := F nw) Z S a hf
    (fun A' p s' Q' E' a' S' h1 h2 => gLam (n := n) [] [] Z S' a' hf hc (fun _ _ => by with_unfolding_all rfl) hsc hcell hkeys (List.forall_mem_nil _) (List.forall_mem_nil _) hco hgen hk
      fun A2 env s2 V tp a2 S2 => body A2 env p s2 _ _ V tp a2 S2 (fun v nw1 s3 g S3 => LeaveX.intro S3 (fun S4 => h1 _ _ _ g S4)) (fun ex x nw1 s3 g fl => leave_next V a2 tp fl fun ex s4 fl4 => h2 _ _ _ _ g fl4))
    (fun r k v nw1 s' g S' => cont _ _ _ _ (.inl ⟨_, _, rfl, g⟩) S') (fun r k k' x nw1 s' g S' => cont _ _ _ _ (.inr ⟨_, _, _, rfl, g⟩) S')
end

end
section
open PySem.Sem (wp)
section
variable {w : World} {A : Around} {E : Value → Shared → Prop} {s : Shared} {b : Shared} {ns : List (Addr × Vars)} {nw : List (Addr × Sh)} {n : Nat} {pen l : Addr}
structure MN (N : List (Addr × Sh)) (x dx sz sd f t m g tl c1 x2 dx2 f2 t2 m2 g2 pen l : Addr) (v0 v1 v2 v3 v4 : Value) (T0 : List (Addr × Sh)) : Prop where
  mx : (x, aIns 557 dx) ∈ N
  mdx : (dx, aFld (stoF sz f t m g)) ∈ N
  mg : (g, aList []) ∈ N
  msz : (sz, aIns 84 sd) ∈ N
  msd : (sd, aFld (sizF v0 v1 v2 v3 v4)) ∈ N
  mtl : (tl, aList [v0, v1, v2, v3, v4]) ∈ N
  mc1 : (c1, aCell (some (.ref x))) ∈ N
  mx2 : (x2, aIns 557 dx2) ∈ N
  mdx2 : ∃ sz2, (dx2, aFld (stoF sz2 f2 t2 m2 g2)) ∈ N
  mf2 : (f2, aList []) ∈ N
  mt2 : (t2, aList []) ∈ N
  mm2 : (m2, aList []) ∈ N
  mg2 : (g2, aList []) ∈ N
  mpn : (pen, aPen l) ∈ N
  mkp : Pk T0 N
theorem Pk.mem {t s : List (Addr × Sh)} (k : Pk t s) (p : Addr × Sh) (h : p ∈ t) : p ∈ s := by
  have em : ∀ {q : Addr × Sh} {u v : List (Addr × Sh)}, Ex q u v → (q ∈ u ∧ ∀ r ∈ v, r ∈ u) := fun e => by
    induction e with
    | here => exact ⟨.head _, fun _ h => .tail _ h⟩
    | skip _ ih => exact ⟨.tail _ ih.1, fun r h => by cases h with | head => exact .head _ | tail _ h => exact .tail _ (ih.2 _ h)⟩
  induction k with
  | refl => exact h
  | take e _ ih => cases h with
    | head => exact (em e).1
    | tail _ h => exact (em e).2 _ (ih h)
  | drop _ ih => exact .tail _ (ih h)
theorem MN.up {N N2 x dx sz sd f t m g tl c1 x2 dx2 f2 t2 m2 g2 pen l v0 v1 v2 v3 v4 T0 T1} (h : MN N x dx sz sd f t m g tl c1 x2 dx2 f2 t2 m2 g2 pen l v0 v1 v2 v3 v4 T0) (mm : ∀ p ∈ N, p ∈ N2) (kk : Pk T0 N → Pk T1 N2) :
    MN N2 x dx sz sd f t m g tl c1 x2 dx2 f2 t2 m2 g2 pen l v0 v1 v2 v3 v4 T1 :=
  ⟨mm _ h.mx, mm _ h.mdx, mm _ h.mg, mm _ h.msz, mm _ h.msd, mm _ h.mtl, mm _ h.mc1, mm _ h.mx2, h.mdx2.elim fun z q => ⟨z, mm _ q⟩, mm _ h.mf2, mm _ h.mt2, mm _ h.mm2, mm _ h.mg2, mm _ h.mpn, kk h.mkp⟩
def HI (fit : Prop) (wd : Str) (R : List Value) : Prop := (fit ∧ ∃ k t, R = [.str (Str.ofString "told") k, .int 0 t]) ∨ (¬ fit ∧ ∃ k k', R = [.str (Str.ofString "misused") k, .str wd k'])
theorem HI.sm {fit wd R R' L r q} (h : HI fit wd R) (h' : HI fit wd R') (m : (r, aTup R) ∈ L) (m' : (q, aTup R') ∈ L) : SmD L 3 (.ref r) (.ref q) := by
  rcases h with ⟨e, k, t, rfl⟩ | ⟨e, k, k1, rfl⟩ <;> rcases h' with ⟨e', k', t', rfl⟩ | ⟨e', k', k1', rfl⟩
  · exact .tup m m' (.cons .str (.cons .int .nil))
  · exact absurd e e'
  · exact absurd e' e
  · exact .tup m m' (.cons .str (.cons .str .nil))
theorem hi_join {fit : Prop} {wd R nw1 r s m} {p : Addr × Sh} {N0 : List (Addr × Sh)} (o : Out (fun v nw1 => ∃ mo t, v = .int 0 t ∧ fit ∧ nw1 = p :: (m, aList [.ref mo]) :: N0) (fun x nw1 => nw1 = p :: (m, aList []) :: N0 ∧ x = wd ∧ ¬ fit) R nw1) (S : Sx b ns ((r, aTup R) :: nw1) s) :
    ∃ ml, HI fit wd R ∧ (fit → ml.length = 1) ∧ (¬ fit → ml.length = 0) ∧ Sx b ns (p :: (m, aList ml) :: (r, aTup R) :: N0) s := by
  rcases o with ⟨k, v, rfl, mo, t, rfl, e, rfl⟩ | ⟨k, k', x, rfl, rfl, rfl, e⟩
  · exact ⟨[.ref mo], .inl ⟨e, k, t, rfl⟩, fun _ => rfl, fun q => absurd e q, S.pk (.take (.skip .here) (.take (.skip .here) (.refl _)))⟩
  · exact ⟨[], .inr ⟨e, k, k', rfl⟩, fun q => absurd q e, fun _ => rfl, S.pk (.take (.skip .here) (.take (.skip .here) (.refl _)))⟩
def Pair5 (M : List (Addr × Sh)) (v1 v2 : Value) : Prop := ∃ o dl dx sz f t m g sd a0 a1 a2 a3 a4 b0 b1 b2 b3 b4, v1 = .ref o ∧ v2 = .ref dl ∧ (o, aIns 557 dx) ∈ M ∧ (dx, aFld (stoF sz f t m g)) ∈ M ∧ (sz, aIns 84 sd) ∈ M ∧ (sd, aFld (sizF a0 a1 a2 a3 a4)) ∈ M ∧ (dl, aList [b0, b1, b2, b3, b4]) ∈ M ∧ (handedIn a0 = true ∧ handedIn a1 = true ∧ handedIn a2 = true ∧ handedIn a3 = true ∧ handedIn a4 = true) ∧
  ∀ L, A2 (SmD L 3) [a0, a1, a2, a3, a4] [b0, b1, b2, b3, b4]
theorem pickN {z : Int} {t : Tok} (h0 : 0 ≤ z) (h1 : z < 2) : ∃ v, [Value.none, .int 7 t][z.toNat]? = some v ∧ handedIn v = true := by
  have : z = 0 ∨ z = 1 := by omega
  rcases this with rfl | rfl
  · exact ⟨_, rfl, rfl⟩
  · exact ⟨_, rfl, rfl⟩
theorem pickI {z x0 x1 x2 x3 : Int} {t0 t1 t2 t3 : Tok} (h0 : 0 ≤ z) (h1 : z < 4) (b0 : -1 ≤ x0 ∧ x0 ≤ 1) (b1 : -1 ≤ x1 ∧ x1 ≤ 1) (b2 : -1 ≤ x2 ∧ x2 ≤ 1) (b3 : -1 ≤ x3 ∧ x3 ≤ 1) :
    ∃ k t, [Value.int x0 t0, Value.int x1 t1, Value.int x2 t2, Value.int x3 t3][z.toNat]? = some (.int k t) ∧ -1 ≤ k ∧ k ≤ 1 := by
  have : z = 0 ∨ z = 1 ∨ z = 2 ∨ z = 3 := by omega
  rcases this with rfl | rfl | rfl | rfl
  · exact ⟨_, _, rfl, b0⟩
  · exact ⟨_, _, rfl, b1⟩
  · exact ⟨_, _, rfl, b2⟩
  · exact ⟨_, _, rfl, b3⟩
set_option maxHeartbeats 8000000 in
theorem made_right_spec {Q : Value → Shared → Prop} (Z : Bs w b.heap) (P : Pn b l) (S : Sx b ns ((711, anObj (tabObj #[])) :: (718, anObj (tabObj #[])) :: nw) s) (a : Ar A (n + 50) (ns.map (·.1))) (hp : (pen, aPen l) ∈ nw)
    (ret : ∀ s', Sx b ns ((711, aTbs) :: (718, aTbs) :: nw) s' → Q (.bool true) s') : wpG (model PySem.Challenge.pw_nm0155_01 w) A (call (.ref 716) [.ref pen]) Q E s := by
  refine gFnC [((Str.ofString "pen"), some (.ref pen)), ((Str.ofString "told"), none), ((Str.ofString "bare"), none), ((Str.ofString "one"), none), ((Str.ofString "due"), none), ((Str.ofString "heard"), none)] [((Str.ofString "store"), none), ((Str.ofString "places"), none), ((Str.ofString "pages"), none)] [((Str.ofString "pen"), .ref pen)] Z S a (by k_is) (by k_is) (BindsTo.of_eq (by with_unfolding_all rfl)) (by rfl) (by rfl) (by rfl) (by wtm_at "M.vals") (by rfl) (by show List.Nodup [(Str.ofString "store"), (Str.ofString "places"), (Str.ofString "pages")]; decide) (by wtm_at "M.vals") (by rfl) (by rfl) (by rfl) ?_
  intro A' env s cs hcs hcode hq V tp a S
  obtain ⟨c1, c2, c3, rfl⟩ := cells3 hcs
  dsimp only [cellEntries, List.cons_append, List.nil_append] at V S
  show wpG _ _ (execs ([_, _, _, _, _] ++ [_, _, _, _, _]) env) _ _ _
  refine gAhead ?_
  wtm_at "M.w"
  wtm_at "M.draw"
  intro z0 t0 s g0 h0 S
  wtm_at "M.w"
  wtm_at "M.draw"
  intro z1 t1 s g1 h1 S
  wtm_at "M.w"
  wtm_at "M.draw"
  intro z2 t2 s g2 h2 S
  wtm_at "M.w"
  wtm_at "M.draw"
  intro z3 t3 s g3 h3 S
  wtm_at "M.w"
  wtm_at "M.draw"
  intro z4 t4 s g4 h4 S
  wtm_at "M.w"
  obtain ⟨v4, e4, hv4⟩ := pickN g4 h4
  refine g_list (by wtm_at "M.a") (by wtm_at "M.mem") g4 (Int.lt_trans h4 (by decide)) e4 ?_ (by with_unfolding_all rfl)
  wtm_at "M.w"
  refine sizes_spec (n := n) Z (by wtm_at "M.a") (by exact a.less (by wtm_at "M.le")) fun sz sd s S => ?_
  wtm_at "M.w"
  refine store_spec (n := n) Z (by wtm_at "M.a") (by exact a.less (by wtm_at "M.le")) fun x dx f t m g s S => ?_
  wtm_at "M.w"
  refine store0_spec (n := n) Z (by wtm_at "M.a") (by exact a.less (by wtm_at "M.le")) fun x2 dx2 sz2 sd2 u0 u1 u2 u3 f2 t2 m2 g2 s S => ?_
  wtm_at "M.w"
  refine p_list (by wtm_at "M.a") (by wtm_at "M.mem") fun I9 s S => ?_
  rename Sx b _ _ _ => S
  rw [show (2 : Int) ^ Int.toNat 32 - 1 = 4294967295 from by decide] at S
  obtain ⟨LL, p1, p2, tl, k0, k2, k3, N, M, hM, hup, S, H, hLL, hPs⟩ : ∃ LL p1 p2 tl k0 k2 k3 N M, M = (c2, aCell none) :: (c3, aCell none) :: (711, anObj (tabObj #[])) :: (718, anObj (tabObj #[])) :: (f, aList []) :: (t, aList []) :: (m, aList []) :: N ∧ (∀ p ∈ N, p ∈ M) ∧ Sx b ((env.locals, [((Str.ofString "pen"), some (.ref pen)), ((Str.ofString "told"), some (.ref tl)), ((Str.ofString "bare"), some (.ref x2)), ((Str.ofString "one"), none), ((Str.ofString "due"), none), ((Str.ofString "heard"), none)]) :: ns) ((I9, aLI LL 0) :: M) s ∧ MN N x dx sz sd f t m g tl c1 x2 dx2 f2 t2 m2 g2 pen l (.int (1 + z0) k0) (.int z1 t1) (.int z2 k2) (.int (1 + z3) k3) v4 ((x, aIns 557 dx) :: (dx, aFld (stoF sz f t m g)) :: nw) ∧ (LL, aList [.ref p1, .ref p2]) ∈ M ∧ Pairs2 M [.ref p1, .ref p2] (fun _ => Pair5 M) := by
    replace S := S.pk (nw' := (I9, aLI _ 0) :: (c2, aCell none) :: (c3, aCell none) :: (711, anObj (tabObj #[])) :: (718, anObj (tabObj #[])) :: (f, aList []) :: (t, aList []) :: (m, aList []) :: _) (by wtm_at "M.pk")
    refine ⟨_, _, _, _, _, _, _, _, _, rfl, fun _ h => .tail _ (.tail _ (.tail _ (.tail _ (.tail _ (.tail _ (.tail _ h)))))), S, ⟨(by wtm_at "M.mem"), (by wtm_at "M.mem"), (by wtm_at "M.mem"), (by wtm_at "M.mem"), (by wtm_at "M.mem"), (by wtm_at "M.mem"), (by wtm_at "M.mem"), (by wtm_at "M.mem"), ⟨_, (by wtm_at "M.mem")⟩, (by wtm_at "M.mem"), (by wtm_at "M.mem"), (by wtm_at "M.mem"), (by wtm_at "M.mem"), (by wtm_at "M.mem"), by wtm_at "M.pk"⟩, (by wtm_at "M.mem"), fun i y hy => ?_⟩
    rcases i with _ | _ | i
    · cases hy
      exact ⟨_, _, _, rfl, (by wtm_at "M.mem"), _, _, _, _, _, _, _, _, _, _, _, _, _, _, _, _, _, _, _, rfl, rfl, (by wtm_at "M.mem"), (by wtm_at "M.mem"), (by wtm_at "M.mem"), (by wtm_at "M.mem"), (by wtm_at "M.mem"), by exact ⟨rfl, rfl, rfl, rfl, hv4⟩, fun _ => A2.refl SmD.refl _⟩
    · cases hy
      exact ⟨_, _, _, rfl, (by wtm_at "M.mem"), _, _, _, _, _, _, _, _, _, _, _, _, _, _, _, _, _, _, _, rfl, rfl, (by wtm_at "M.mem"), (by wtm_at "M.mem"), (by wtm_at "M.mem"), (by wtm_at "M.mem"), (by wtm_at "M.mem"), by exact ⟨rfl, rfl, rfl, rfl, rfl⟩, by exact fun _ => .cons .int (.cons .int (.cons .int (.cons .int (.cons (.refl _) .nil))))⟩
    · simp at hy
  refine x_loopP (xs := [(I9, aLI LL 0)]) (wt_list (its := [.ref p1, .ref p2]) (l := LL) (I := I9) a.hd (ps := fun _ => Pair5 M)) (fun i ns' nw' => ∃ o d, ns' = (env.locals, [((Str.ofString "pen"), some (.ref pen)), ((Str.ofString "told"), some (.ref tl)), ((Str.ofString "bare"), some (.ref x2)), ((Str.ofString "one"), o), ((Str.ofString "due"), d), ((Str.ofString "heard"), none)]) :: ns ∧ nw' = M) (fun _ _ _ h => by obtain ⟨_, _, _, rfl⟩ := h; exact ⟨hLL, hPs⟩) rfl S ⟨_, _, rfl, rfl⟩ (by rfl) (by rfl) (fun i ns' nw' xs s v1 v2 E' hi hJ hv hX S => ?_) (fun ns' nw' s hJ S => ?_)
  · clear ret hp hM hPs hLL hup
    obtain ⟨o, d, rfl, rfl⟩ := hJ
    subst hX
    obtain ⟨o, dl, dx, sz, f, t, m, g, sd, a0, a1, a2, a3, a4, b0, b1, b2, b3, b4, rfl, rfl, q2, q3, q4, q5, q6, ⟨j0, j1, j2, j3, j4⟩, q7⟩ := hv
    dsimp only [List.cons_append, List.nil_append] at S
    wtm_at "M.w"
    refine a_get (by wtm_at "M.a") (by wtm_at "M.a") (by wtm_at "M.mem") (by wtm_at "M.mem") (by with_unfolding_all rfl) (by with_unfolding_all k_is) (by with_unfolding_all k_is) (by with_unfolding_all k_is) j0 ?_
    intro _ _
    wtm_at "M.w"
    refine a_get (by wtm_at "M.a") (by wtm_at "M.a") (by wtm_at "M.mem") (by wtm_at "M.mem") (by with_unfolding_all rfl) (by with_unfolding_all k_is) (by with_unfolding_all k_is) (by with_unfolding_all k_is) j1 ?_
    intro _ _
    wtm_at "M.w"
    refine a_get (by wtm_at "M.a") (by wtm_at "M.a") (by wtm_at "M.mem") (by wtm_at "M.mem") (by with_unfolding_all rfl) (by with_unfolding_all k_is) (by with_unfolding_all k_is) (by with_unfolding_all k_is) j2 ?_
    intro _ _
    wtm_at "M.w"
    refine a_get (by wtm_at "M.a") (by wtm_at "M.a") (by wtm_at "M.mem") (by wtm_at "M.mem") (by with_unfolding_all rfl) (by with_unfolding_all k_is) (by with_unfolding_all k_is) (by with_unfolding_all k_is) j3 ?_
    intro _ _
    wtm_at "M.w"
    refine a_get (by wtm_at "M.a") (by wtm_at "M.a") (by wtm_at "M.mem") (by wtm_at "M.mem") (by with_unfolding_all rfl) (by with_unfolding_all k_is) (by with_unfolding_all k_is) (by with_unfolding_all k_is) j4 ?_
    intro _ _
    wtm_at "M.w"
    refine cmp_nel 3 (by wtm_at "M.a") a (by wtm_at "M.mem") (by wtm_at "M.mem") (q7 _) ?_
    wtm_at "M.w"
    exact LoopP.next (xs := [(I9, aLI LL (i + 1))]) ⟨_, _, rfl, rfl⟩ rfl (Sx.pk (nw' := (I9, aLI LL (i + 1)) :: nw') (by wtm_at "M.a") (by wtm_at "M.pk"))
  · obtain ⟨o, d, rfl, rfl⟩ := hJ
    clear hLL hPs hup
    subst hM
    obtain ⟨mx, mdx, mg, msz, msd, mtl, mc1, mx2, mdx2, mf2, mt2, mm2, mg2, mpn, mkp⟩ := id H
    wtm_at "M.w"
    wtm_at "M.draw"
    intro y0 ty0 s i0 i1 S
    wtm_at "M.w"
    obtain ⟨w0, tw0, ew0, lw0, uw0⟩ := pickI (x0 := 0) (x1 := 1) (x2 := -1) (x3 := 0) i0 i1 (by decide) (by decide) (by decide) (by decide)
    refine g_list (by wtm_at "M.a") (by wtm_at "M.mem") i0 (by exact Int.lt_trans i1 (by decide)) ew0 ?_ (by with_unfolding_all rfl)
    wtm_at "M.w"
    wtm_at "M.draw"
    intro y1 ty1 s i2 i3 S
    wtm_at "M.w"
    obtain ⟨w1, tw1, ew1, lw1, uw1⟩ := pickI (x0 := 0) (x1 := 0) (x2 := 1) (x3 := -1) i2 i3 (by decide) (by decide) (by decide) (by decide)
    refine g_list (by wtm_at "M.a") (by wtm_at "M.mem") i2 (by exact Int.lt_trans i3 (by decide)) ew1 ?_ (by with_unfolding_all rfl)
    wtm_at "M.w"
    refine c_max (by wtm_at "M.a") a.hd fun _ s S => ?_
    wtm_at "M.w"
    refine c_max (by wtm_at "M.a") a.hd fun _ s S => ?_
    wtm_at "M.w"
    rename Sx b _ _ _ => S
    replace S := S.pk (nw' := (711, anObj (tabObj #[])) :: (m, aList []) :: (t, aList []) :: (718, anObj (tabObj #[])) :: (f, aList []) :: (c2, aCell (some (.int (max 0 (z2 + w1)) _))) :: (c3, aCell (some (.int (max 0 (z1 + w0)) _))) :: N) (by wtm_at "M.pk")
    obtain ⟨pg, hpg⟩ : ∃ pg, pg = max 0 (z1 + w0) := ⟨_, rfl⟩
    obtain ⟨pl, hpl⟩ : ∃ pl, pl = max 0 (z2 + w1) := ⟨_, rfl⟩
    rw [← hpg, ← hpl] at S
    have hb : 0 ≤ pg ∧ pg ≤ 10 ∧ 0 ≤ pl ∧ pl ≤ 10 := by omega
    clear hpg hpl lw0 uw0 lw1 uw1 ew0 ew1
    replace S := S.frz3 (.refl _)
    obtain ⟨N3, mm, kk, S⟩ := S
    have mc2 := mm (c2, _) (.tail _ (.tail _ (.head _)))
    have mc3 := mm (c3, _) (.tail _ (.tail _ (.tail _ (.head _))))
    replace H := H.up (N2 := N3) (T1 := (718, anObj (tabObj #[])) :: (f, aList []) :: (x, aIns 557 dx) :: (dx, aFld (stoF sz f t m g)) :: nw) (fun _ h => mm _ (.tail _ (.tail _ (.tail _ (.tail _ h))))) (fun k => kk _ (.take .here (.take .here (.drop (.drop k)))))
    clear mm kk mx mdx mg msz msd mtl mc1 mx2 mdx2 mf2 mt2 mm2 mg2 mpn mkp
    refine gAssignName ?_ (by with_unfolding_all rfl)
    refine gList ?_
    refine gSplicedMore ?_ (by with_unfolding_all rfl)
    refine gCallGl Z (by wtm_at "M.a") S (by wtm_at "M.mem") (by wtm_at "M.mem") ?_ (by with_unfolding_all rfl) (by with_unfolding_all rfl)
    refine gOf ?_
    wtm_at "M.w"
    refine lam_anyP #[] (c := 715) (P := 711) Z (by wtm_at "M.a") (by wtm_at "M.a") hcode Z.cd.2.1 (.inl (by wtm_at "M.pk")) trivial (fun _ => by repeat constructor) (by rfl) (fun _ => by rfl) (clos_of V (by with_unfolding_all rfl)) (by rfl) fun d1 f1 s S => ?_
    wtm_at "M.w"
    replace S := S.pk (nw' := (711, anObj (tabObj _)) :: (m, aList []) :: (t, aList []) :: (f1, _) :: (d1, aCode _) :: N3) (by wtm_at "M.pk")
    replace S := S.frz3 (.refl _)
    obtain ⟨N4, mm, kk, S⟩ := S
    have hf2 := mm (f1, _) (.head _)
    have hd2 := mm (d1, aCode _) (.tail _ (.head _))
    replace H := H.up (N2 := N4) (T1 := (718, anObj (tabObj #[])) :: (f, aList []) :: (x, aIns 557 dx) :: (dx, aFld (stoF sz f t m g)) :: nw) (fun _ h => mm _ (.tail _ (.tail _ h))) (fun k => kk _ (.drop (.drop k)))
    replace mc2 := mm _ (.tail _ (.tail _ mc2))
    replace mc3 := mm _ (.tail _ (.tail _ mc3))
    clear mm kk
    obtain ⟨mx, mdx, mg, msz, msd, mtl, mc1, mx2, mdx2, mf2, mt2, mm2, mg2, mpn, mkp⟩ := id H
    refine gHeard_body (n := n + 30) (fun _ v nw1 => ∃ mo k, v = .int 0 k ∧ pg ≤ z1 ∧ nw1 = (711, anObj (tabObj (#[] ++ #[rawInt ((398 : Nat) : Int), rawInt ((0 : Nat) : Int), .ref d1]))) :: (m, aList [.ref mo]) :: (t, aList []) :: N4) (fun _ x nw1 => nw1 = (711, anObj (tabObj (#[] ++ #[rawInt ((398 : Nat) : Int), rawInt ((0 : Nat) : Int), .ref d1]))) :: (m, aList []) :: (t, aList []) :: N4 ∧ x = (Str.ofString "more pages than are let") ∧ ¬ pg ≤ z1) Z S (by exact a.less (by wtm_at "M.le")) (by wtm_at "M.mem") (by wtm_at "M.mem") (by rfl) (by decide) (by rfl) (by rfl) (by rfl) (by rfl) (fun A₁ env₁ p s₁ Q₁ E₁ V₁ tp₁ a₁ S₁ h₁ h₂ => ?_) (fun r1 R1 nw1 s₁ o S₁ => ?_)
    · refine gMethod ?_ (by with_unfolding_all rfl)
      wtm_at "M.w"
      refine gCw1 (by with_unfolding_all k_is) ?_ (by with_unfolding_all rfl) (by with_unfolding_all rfl)
      refine gOf ?_
      wtm_at "M.w"
      refine make_memory_spec (n := n) Z (by wtm_at "M.a") (by exact a₁.less (by wtm_at "M.le")) (by wtm_at "M.mem") (by wtm_at "M.mem") (by wtm_at "M.mem") (by wtm_at "M.mem") hb.1 hb.2.1 (by omega) (by omega) (by wtm_at "M.mem") (fun mo => by wtm_at "M.put") (by decide) (fun mo k s hle S => ?_) (fun ex s hlt fl => ?_)
      · dsimp only [List.nil_append] at S
        exact h₁ _ _ _ ⟨mo, k, rfl, hle, rfl⟩ (S.pk (by wtm_at "M.pk"))
      · exact h₂ _ _ _ _ ⟨rfl, rfl, by omega⟩ (fl.sub (List.sublist_cons_self _ _))
    · obtain ⟨ml, hR1, hm1, hm0, S⟩ := hi_join o S₁
      clear o mx mdx mg msz msd mtl mc1 mx2 mdx2 mf2 mt2 mm2 mg2 mpn mkp hf2 hd2
      replace S := S.pk (nw' := (711, anObj (tabObj _)) :: (t, aList []) :: (m, aList ml) :: (r1, aTup R1) :: N4) (by wtm_at "M.pk")
      replace S := S.frz2 (.refl _)
      obtain ⟨N5, mm, kk, S⟩ := S
      have mm1 := mm _ (.head _)
      have mr1 := mm _ (.tail _ (.head _))
      replace H := H.up (N2 := N5) (T1 := (718, anObj (tabObj #[])) :: (f, aList []) :: (x, aIns 557 dx) :: (dx, aFld (stoF sz f t m g)) :: nw) (fun _ h => mm _ (.tail _ (.tail _ h))) (fun k => kk _ (.drop (.drop k)))
      replace mc2 := mm _ (.tail _ (.tail _ mc2))
      replace mc3 := mm _ (.tail _ (.tail _ mc3))
      clear mm kk
      refine gOf ?_
      wtm_at "M.w"
      refine lam_anyP _ (c := 715) (P := 711) Z (by wtm_at "M.a") (by wtm_at "M.a") hcode Z.cd.2.1 (.inl (by wtm_at "M.pk")) (by repeat constructor) (fun _ => by repeat constructor) (by rfl) (fun _ => by rfl) (clos_of V (by with_unfolding_all rfl)) (by rfl) fun d2 f2l s S => ?_
      wtm_at "M.w"
      replace S := S.pk (nw' := (711, anObj (tabObj _)) :: (t, aList []) :: (f2l, _) :: (d2, aCode _) :: N5) (by wtm_at "M.pk")
      replace S := S.frz2 (.refl _)
      obtain ⟨N6, mm, kk, S⟩ := S
      have hf2 := mm (f2l, _) (.head _)
      have hd2 := mm (d2, aCode _) (.tail _ (.head _))
      replace H := H.up (N2 := N6) (T1 := (718, anObj (tabObj #[])) :: (f, aList []) :: (x, aIns 557 dx) :: (dx, aFld (stoF sz f t m g)) :: nw) (fun _ h => mm _ (.tail _ (.tail _ h))) (fun k => kk _ (.drop (.drop k)))
      replace mc2 := mm _ (.tail _ (.tail _ mc2))
      replace mc3 := mm _ (.tail _ (.tail _ mc3))
      replace mm1 := mm _ (.tail _ (.tail _ mm1))
      replace mr1 := mm _ (.tail _ (.tail _ mr1))
      clear mm kk
      obtain ⟨mx, mdx, mg, msz, msd, mtl, mc1, mx2, mdx2, mf2, mt2, mm2, mg2, mpn, mkp⟩ := id H
      refine heard_body (n := n + 30) (fun _ v nw1 => ∃ mo k, v = .int 0 k ∧ pl ≤ z2 ∧ nw1 = (711, anObj (tabObj (#[] ++ #[rawInt ((398 : Nat) : Int), rawInt ((0 : Nat) : Int), .ref d1] ++ #[rawInt ((399 : Nat) : Int), rawInt ((0 : Nat) : Int), .ref d2]))) :: (t, aList [.ref mo]) :: N6) (fun _ x nw1 => nw1 = (711, anObj (tabObj (#[] ++ #[rawInt ((398 : Nat) : Int), rawInt ((0 : Nat) : Int), .ref d1] ++ #[rawInt ((399 : Nat) : Int), rawInt ((0 : Nat) : Int), .ref d2]))) :: (t, aList []) :: N6 ∧ x = (Str.ofString "more elements than are let") ∧ ¬ pl ≤ z2) Z S (by exact a.less (by wtm_at "M.le")) (by wtm_at "M.mem") (by wtm_at "M.mem") (by rfl) (by decide) (by rfl) (by rfl) (by rfl) (by rfl) (fun A₁ env₁ p s₁ Q₁ E₁ V₁ tp₁ a₁ S₁ h₁ h₂ => ?_) (fun r2 R2 nw1 s₁ o S₁ => ?_)
      · wtm_at "M.w"
        refine make_table_spec (n := n) Z (by wtm_at "M.a") (by exact a₁.less (by wtm_at "M.le")) (by wtm_at "M.mem") (by wtm_at "M.mem") (by wtm_at "M.mem") (by wtm_at "M.mem") hb.2.2.1 hb.2.2.2 (by wtm_at "M.mem") (fun mo => by wtm_at "M.put") (by decide) (fun mo k s hle S => ?_) (fun ex s hlt fl => ?_)
        · dsimp only [List.nil_append] at S
          exact h₁ _ _ _ ⟨mo, k, rfl, hle, rfl⟩ (S.pk (by wtm_at "M.pk"))
        · exact h₂ _ _ _ _ ⟨rfl, rfl, by omega⟩ (fl.sub (List.sublist_cons_self _ _))
      · obtain ⟨tls, hR2, ht1, ht0, S⟩ := hi_join o S₁
        clear o hf2 hd2
        replace S := S.tb
        wtm_at "M.w"
        refine gOf ?_
        wtm_at "M.w"
        refine gOf ?_
        show wpAny _ _ (execs ([_] ++ [_, _, _]) env) _ _ _
        refine x_cut (fun s' => ∃ N o hl dl q1 Q1, Sx b ((env.locals, [((Str.ofString "pen"), some (.ref pen)), ((Str.ofString "told"), some (.ref tl)), ((Str.ofString "bare"), some (.ref x2)), ((Str.ofString "one"), o), ((Str.ofString "due"), some (.ref dl)), ((Str.ofString "heard"), some (.ref hl))]) :: ns) ((dl, aList [.ref q1]) :: N) s' ∧ MN N x dx sz sd f t m g tl c1 x2 dx2 f2 t2 m2 g2 pen l (.int (1 + z0) k0) (.int z1 t1) (.int z2 k2) (.int (1 + z3) k3) v4 ((711, aTbs) :: (718, anObj (tabObj #[])) :: (f, aList []) :: (x, aIns 557 dx) :: (dx, aFld (stoF sz f t m g)) :: nw) ∧ (hl, aList [.ref r1, .ref r2]) ∈ N ∧ (r1, aTup R1) ∈ N ∧ (r2, aTup R2) ∈ N ∧ (m, aList ml) ∈ N ∧ (t, aList tls) ∈ N ∧ (∃ k, (c2, aCell (some (.int pl k))) ∈ N) ∧ (∃ k, (c3, aCell (some (.int pg k))) ∈ N) ∧ (q1, aTup Q1) ∈ N ∧ HI (pg ≤ z1) (Str.ofString "more pages than are let") Q1) ?_ fun s S => ?_
        · wtm_at "M.w"
          refine ite_of (fun hc => ?_) fun hc => ?_
          all_goals (
            wtm_at "M.w"
            refine ⟨_, _, _, _, _, _, Sx.pk (by wtm_at "M.a") (by wtm_at "M.pk"), H.up (fun _ h => by wtm_at "M.mem") (fun k => .take (by wtm_at "M.ex") (by repeat (first | exact k | apply Pk.drop))), (by wtm_at "M.mem"), (by wtm_at "M.mem"), (by wtm_at "M.mem"), (by wtm_at "M.mem"), (by wtm_at "M.mem"), ⟨_, (by wtm_at "M.mem")⟩, ⟨_, (by wtm_at "M.mem")⟩, (by wtm_at "M.mem"), ?_⟩
            first | exact .inl ⟨by simpa using hc, _, _, rfl⟩ | exact .inr ⟨by simpa using hc, _, _, rfl⟩)
        · clear H mx mdx mg msz msd mtl mc1 mx2 mdx2 mf2 mt2 mm2 mg2 mpn mkp mc2 mc3 mm1 mr1
          obtain ⟨N, o, hl, dl, q1, Q1, S, H, mhl, mr1, mr2, mml, mtls, ⟨_, mc2⟩, ⟨_, mc3⟩, mq1, hQ1⟩ := S
          show wpAny _ _ (execs ([_] ++ [_, _]) env) _ _ _
          refine x_cut (fun s' => ∃ N q2 Q2, Sx b ((env.locals, [((Str.ofString "pen"), some (.ref pen)), ((Str.ofString "told"), some (.ref tl)), ((Str.ofString "bare"), some (.ref x2)), ((Str.ofString "one"), o), ((Str.ofString "due"), some (.ref dl)), ((Str.ofString "heard"), some (.ref hl))]) :: ns) ((dl, aList [.ref q1, .ref q2]) :: N) s' ∧ MN N x dx sz sd f t m g tl c1 x2 dx2 f2 t2 m2 g2 pen l (.int (1 + z0) k0) (.int z1 t1) (.int z2 k2) (.int (1 + z3) k3) v4 ((711, aTbs) :: (718, anObj (tabObj #[])) :: (f, aList []) :: (x, aIns 557 dx) :: (dx, aFld (stoF sz f t m g)) :: nw) ∧ (hl, aList [.ref r1, .ref r2]) ∈ N ∧ (r1, aTup R1) ∈ N ∧ (r2, aTup R2) ∈ N ∧ (m, aList ml) ∈ N ∧ (t, aList tls) ∈ N ∧ (∃ k, (c2, aCell (some (.int pl k))) ∈ N) ∧ (∃ k, (c3, aCell (some (.int pg k))) ∈ N) ∧ (q1, aTup Q1) ∈ N ∧ HI (pg ≤ z1) (Str.ofString "more pages than are let") Q1 ∧ (q2, aTup Q2) ∈ N ∧ HI (pl ≤ z2) (Str.ofString "more elements than are let") Q2) ?_ fun s S => ?_
          · obtain ⟨mx, mdx, mg, msz, msd, mtl, mc1, mx2, mdx2, mf2, mt2, mm2, mg2, mpn, mkp⟩ := id H
            wtm_at "M.w"
            refine ite_of (fun hc => ?_) fun hc => ?_
            all_goals (
              wtm_at "M.w"
              refine c_append (by wtm_at "M.a") (by wtm_at "M.put") (by simp) fun s S => ?_
              dsimp only [List.cons_append, List.nil_append] at S
              wtm_at "M.w"
              refine ⟨_, _, _, Sx.pk (by wtm_at "M.a") (by wtm_at "M.pk"), H.up (fun _ h => by wtm_at "M.mem") (fun k => by repeat (first | exact k | apply Pk.drop)), (by wtm_at "M.mem"), (by wtm_at "M.mem"), (by wtm_at "M.mem"), (by wtm_at "M.mem"), (by wtm_at "M.mem"), ⟨_, (by wtm_at "M.mem")⟩, ⟨_, (by wtm_at "M.mem")⟩, (by wtm_at "M.mem"), hQ1, (by wtm_at "M.mem"), ?_⟩
              first | exact .inl ⟨by simpa using hc, _, _, rfl⟩ | exact .inr ⟨by simpa using hc, _, _, rfl⟩)
          · clear H mhl mr1 mr2 mml mtls mc2 mc3 mq1 hQ1
            obtain ⟨N, q2, Q2, S, H, mhl, mr1, mr2, mml, mtls, ⟨_, mc2⟩, ⟨_, mc3⟩, mq1, hQ1, mq2, hQ2⟩ := S
            obtain ⟨mx, mdx, mg, msz, msd, mtl, mc1, mx2, mdx2, mf2, mt2, mm2, mg2, mpn, mkp⟩ := id H
            have mf := mkp.mem _ (.tail _ (.tail _ (.head _)))
            obtain ⟨sz2, mdx2⟩ := mdx2
            wtm_at "M.w"
            refine cmp_nel 3 (by wtm_at "M.a") a (by wtm_at "M.mem") (by wtm_at "M.mem") (.cons (hR1.sm hQ1 (by wtm_at "M.mem") (by wtm_at "M.mem")) (.cons (hR2.sm hQ2 (by wtm_at "M.mem") (by wtm_at "M.mem")) .nil)) ?_
            wtm_at "M.w"
            have e1 : (tls.length : Int) = if decide (pl ≤ z2) = true then 1 else 0 := by
              by_cases hc : pl ≤ z2
              · rw [ht1 hc]; simp [hc]
              · rw [ht0 hc]; simp [hc]
            have e2 : (ml.length : Int) = if decide (pg ≤ z1) = true then 1 else 0 := by
              by_cases hc : pg ≤ z1
              · rw [hm1 hc]; simp [hc]
              · rw [hm0 hc]; simp [hc]
            have e3 : tls.length ≤ 1000 := by rcases Classical.em (pl ≤ z2) with hc | hc; exact Nat.le_trans (Nat.le_of_eq (ht1 hc)) (by decide); exact Nat.le_trans (Nat.le_of_eq (ht0 hc)) (by decide)
            have e4 : ml.length ≤ 1000 := by rcases Classical.em (pg ≤ z1) with hc | hc; exact Nat.le_trans (Nat.le_of_eq (hm1 hc)) (by decide); exact Nat.le_trans (Nat.le_of_eq (hm0 hc)) (by decide)
            refine marks_spec (n := n) Z (by wtm_at "M.a") (by exact a.less (by wtm_at "M.le")) (by wtm_at "M.mem") (by wtm_at "M.mem") (by wtm_at "M.mem") (by wtm_at "M.mem") (by wtm_at "M.mem") (by wtm_at "M.mem") (by decide) e3 e4 (by decide) fun r u0 u1 u2 u3 s S => ?_
            wtm_at "M.w"
            refine c_intb (by wtm_at "M.a") fun _ s S => ?_
            wtm_at "M.w"
            refine c_intb (by wtm_at "M.a") fun _ s S => ?_
            wtm_at "M.w"
            refine cmp_net 3 (by wtm_at "M.a") a (by wtm_at "M.mem") (by wtm_at "M.mem") (.cons (by exact .int) (.cons (by rw [e1]; exact .int) (.cons (by rw [e2]; exact .int) (.cons (by exact .int) .nil)))) ?_
            wtm_at "M.w"
            refine marks_spec (n := n) Z (by wtm_at "M.a") (by exact a.less (by wtm_at "M.le")) (by wtm_at "M.mem") (by wtm_at "M.mem") (by wtm_at "M.mem") (by wtm_at "M.mem") (by wtm_at "M.mem") (by wtm_at "M.mem") (by decide) (by decide) (by decide) (by decide) fun r u0 u1 u2 u3 s S => ?_
            wtm_at "M.w"
            refine cmp_eqt 3 (by wtm_at "M.a") a (by wtm_at "M.mem") (by wtm_at "M.mem") (.cons (by exact .int) (.cons (by exact .int) (.cons (by exact .int) (.cons (by exact .int) .nil)))) ?_
            wtm_at "M.w"
            rename Sx b _ _ _ => S
            replace S := S.pk (nw' := (711, aTbs) :: (718, anObj (tabObj #[])) :: (f, aList []) :: (x, aIns 557 dx) :: (dx, aFld (stoF sz f t m g)) :: nw) (by repeat (first | exact mkp | apply Pk.drop))
            refine host_right_spec (n := n) Z P (S.pk (nw' := (718, anObj (tabObj #[])) :: (f, aList []) :: (x, aIns 557 dx) :: (dx, aFld (stoF sz f t m g)) :: (711, aTbs) :: nw) (by wtm_at "M.pk")) (by exact a.less (by wtm_at "M.le")) (.tail _ (.tail _ (.tail _ hp))) (.head _) (.tail _ (.head _)) fun s S => ?_
            wtm_at "M.w"
            exact ret _ (Sx.pk (by wtm_at "M.a") (by wtm_at "M.pk"))
end

end
section
open PySem.Sem (wp)
section
variable {w : World} {A : Around} {E : Value → Shared → Prop} {s : Shared} {b : Shared} {ns : List (Addr × Vars)} {nw : List (Addr × Sh)} {n : Nat} {pen l : Addr}
theorem c_reprb {c : Bool} {Q : Value → Shared → Prop} (S : Sx b ns nw s) (h : ∀ t s', Sx b ns nw s' → Q (.str (if c then "True" else "False") t) s') : wpAny (model PySem.Challenge.pw_nm0155_01 w) A (call (.builtin "repr") [.bool c]) Q E s := PySem.P.repr_of_bool (h _ _ S.tok)
theorem gIsPlain {M : Model} {e : Expr} {env : Env} {whole : Sem Value} {Q : Bool → Shared → Prop} (h : wpG M A whole (fun v s' => wpAny M A (truthy v) Q E s') E s) (he : isTrue e env whole = (do let v ← whole; standAt e.pos; holding [v] (truthy v))) : wpG M A (isTrue e env whole) Q E s := by
  rw [he]; exact gBind (gMono h (fun _ _ q => gOf (wpAny_bind (wpAny_standAt (wpAny_holding q)))) fun _ _ x => x)
theorem pick10 {z : Int} {t0 t1 t2 t3 t4 t5 t6 t7 t8 t9 : Tok} (h0 : 0 ≤ z) (h1 : z < 10) : ∃ k t, [Value.int (-1) t0, Value.int (-2) t1, Value.int (-16) t2, Value.int (-17) t3, Value.int (0) t4, Value.int (-3) t5, Value.int (-64) t6, Value.int (5) t7, Value.int (-15) t8, Value.int (-18) t9][z.toNat]? = some (.int k t) := by
  have : z = 0 ∨ z = 1 ∨ z = 2 ∨ z = 3 ∨ z = 4 ∨ z = 5 ∨ z = 6 ∨ z = 7 ∨ z = 8 ∨ z = 9 := by omega
  rcases this with rfl | rfl | rfl | rfl | rfl | rfl | rfl | rfl | rfl | rfl <;> exact ⟨_, _, rfl⟩
theorem pickL {z : Int} {L : List Value} {C : Value → Prop} (h0 : 0 ≤ z) (h1 : z < L.length) (hC : ∀ v ∈ L, C v) : ∃ v, L[z.toNat]? = some v ∧ C v :=
  ⟨L[z.toNat]'(by omega), List.getElem?_eq_getElem (by omega), hC _ (List.getElem_mem _)⟩
set_option maxHeartbeats 8000000 in
theorem law_spec {R : Result → Shared → Prop} (Z : Bs w b.heap) (P : Pn b l) (S : Sx b ns ((694, anObj (tabObj #[])) :: (699, anObj (tabObj #[])) :: (711, anObj (tabObj #[])) :: (718, anObj (tabObj #[])) :: nw) s) (a : Ar A (n + 61) (ns.map (·.1)))
    (ret : ∀ s', Sx b ns ((694, aTbs) :: (699, aTbs) :: (711, aTbs) :: (718, aTbs) :: nw) s' → R (.ok (.ret (.bool true))) s') : codeG (model PySem.Challenge.pw_nm0155_01 w) A (.call (.ref 740) ⟨[.ref l], []⟩) R s := by
  refine gFnR [((Str.ofString "script"), some (.ref l)), ((Str.ofString "pen"), none), ((Str.ofString "values"), none), ((Str.ofString "turn"), none), ((Str.ofString "kind"), none), ((Str.ofString "value"), none)] [((Str.ofString "script"), .ref l)] Z S a (by k_is) (by k_is) (BindsTo.of_eq (by with_unfolding_all rfl)) (by rfl) (by decide) (by rfl) (by wtm_at "M.vals") (by wtm_at "M.locs") (by rfl) (by rfl) (by rfl) ?_
  intro A' env s V tp a S
  dsimp only at V S
  show wpG _ _ (execs ([_] ++ [_, _, _, _]) env) _ _ _
  refine gAhead ?_
  wtm_at "M.w"
  rename Sx b _ _ _ => S
  replace S := S.shape (g := aPen l) (fun o h => ⟨0, _, by decide, h⟩)
  refine gIf ?_
  refine gIsOr ?_
  refine gIsNot ?_
  obtain ⟨pn, S⟩ : ∃ pn, Sx b ((env.locals, [((Str.ofString "script"), some (.ref l)), ((Str.ofString "pen"), some (.ref pn)), ((Str.ofString "values"), none), ((Str.ofString "turn"), none), ((Str.ofString "kind"), none), ((Str.ofString "value"), none)]) :: ns) ((pn, aPen l) :: (694, anObj (tabObj #[])) :: (699, anObj (tabObj #[])) :: (711, anObj (tabObj #[])) :: (718, anObj (tabObj #[])) :: nw) _ := ⟨_, S⟩
  refine gOf ?_
  wtm_at "M.w"
  refine inst_spec (n := n + 29) Z P (S.pk (nw' := (694, anObj (tabObj #[])) :: (699, anObj (tabObj #[])) :: (pn, aPen l) :: (711, anObj (tabObj #[])) :: (718, anObj (tabObj #[])) :: nw) (by wtm_at "M.pk")) (by exact a.less (by wtm_at "M.le")) (by wtm_at "M.mem") fun s S => ?_
  wtm_at "M.w"
  refine gIsOr ?_
  refine gIsNot ?_
  refine gIsPlain ?_ (by with_unfolding_all rfl)
  refine gCallGl Z (by wtm_at "M.a") S (by wtm_at "M.mem") (by wtm_at "M.mem") ?_ (by with_unfolding_all rfl) (by with_unfolding_all rfl)
  refine gOf ?_
  wtm_at "M.w"
  rename Sx b _ _ _ => S
  refine made_right_spec (n := n + 10) Z P (S.pk (nw' := (711, anObj (tabObj #[])) :: (718, anObj (tabObj #[])) :: (pn, aPen l) :: (694, aTbs) :: (699, aTbs) :: nw) (by wtm_at "M.pk")) (by exact a.less (by wtm_at "M.le")) (by wtm_at "M.mem") fun s S => ?_
  wtm_at "M.w"
  refine gOf ?_
  wtm_at "M.w"
  refine gOf ?_
  wtm_at "M.w"
  refine gOf ?_
  wtm_at "M.w"
  refine p_range (m := 8) (by wtm_at "M.a") (by decide) (by decide) (by decide) fun I s S => ?_
  obtain ⟨vl, L, N, hN, S, mpn, hL, hP⟩ : ∃ vl L N, (∀ ns s, Sx b ns ((vl, aList L) :: N) s → Sx b ns ((694, aTbs) :: (699, aTbs) :: (711, aTbs) :: (718, aTbs) :: nw) s) ∧ Sx b ((env.locals, [((Str.ofString "script"), some (.ref l)), ((Str.ofString "pen"), some (.ref pn)), ((Str.ofString "values"), some (.ref vl)), ((Str.ofString "turn"), none), ((Str.ofString "kind"), none), ((Str.ofString "value"), none)]) :: ns) ((I, aRI 0 8 0) :: (vl, aList L) :: N) s ∧ (pn, aPen l) ∈ N ∧ L.length = 13 ∧ ∀ v ∈ L, Plain N v := by
    refine ⟨_, _, _, ?_, S.pk (nw' := (I, aRI 0 8 0) :: (_, aList _) :: (_, aList []) :: (pn, aPen l) :: (694, aTbs) :: (699, aTbs) :: (711, aTbs) :: (718, aTbs) :: nw) (by wtm_at "M.pk"), (by wtm_at "M.mem"), rfl, fun v hv => ?_⟩
    · exact fun ns s S => S.pk (by wtm_at "M.pk")
    simp only [List.mem_cons, List.not_mem_nil, or_false] at hv
    rcases hv with rfl | rfl | rfl | rfl | rfl | rfl | rfl | rfl | rfl | rfl | rfl | rfl | rfl <;> first | exact .int | exact .none | exact .bool | exact .str | exact .list (by wtm_at "M.mem")
  refine x_loop (wk_range a.hd I _ _) (fun j ns' nw' => ∃ s1 s2 s3, ns' = (env.locals, [((Str.ofString "script"), some (.ref l)), ((Str.ofString "pen"), some (.ref pn)), ((Str.ofString "values"), some (.ref vl)), ((Str.ofString "turn"), s1), ((Str.ofString "kind"), s2), ((Str.ofString "value"), s3)]) :: ns ∧ nw' = (vl, aList L) :: N) (fun _ _ _ _ => trivial) S ⟨_, _, _, rfl, rfl⟩ (fun j ns' nw' s v E' hj hJ hv S => ?_) (fun ns' nw' s hJ S => ?_) (fun _ => rfl)
  · obtain ⟨ts, rfl⟩ := hv
    obtain ⟨s1, s2, s3, rfl, rfl⟩ := hJ
    wtm_at "M.w"
    wtm_at "M.draw"
    intro y ty s y0 y1 S
    wtm_at "M.w"
    obtain ⟨kv, tk, ek⟩ := pick10 y0 y1
    refine g_list (by wtm_at "M.a") (by wtm_at "M.mem") y0 (Int.lt_trans y1 (by decide)) ek ?_ (by with_unfolding_all rfl)
    wtm_at "M.w"
    wtm_at "M.draw"
    intro z tz s z0 z1 S
    wtm_at "M.w"
    obtain ⟨vv, ev, hvv⟩ := pickL (C := Plain N) (L := L) z0 (by rw [hL]; exact z1) hP
    refine g_list (by wtm_at "M.a") (by wtm_at "M.mem") z0 (Int.lt_trans z1 (by decide)) ev ?_ (by with_unfolding_all rfl)
    wtm_at "M.w"
    refine does_fit_spec (n := n) Z (by wtm_at "M.a") (by exact a.less (by wtm_at "M.le")) (hvv.mono fun _ h => by wtm_at "M.mem") fun s S => ?_
    wtm_at "M.w"
    refine c_reprb (by wtm_at "M.a") fun t1 s S => ?_
    wtm_at "M.w"
    refine law_fits_spec (n := n) Z (by wtm_at "M.a") (by exact a.less (by wtm_at "M.le")) (hvv.mono fun _ h => by wtm_at "M.mem") fun s S => ?_
    wtm_at "M.w"
    refine c_reprb (by wtm_at "M.a") fun t2 s S => ?_
    wtm_at "M.w"
    refine ne_str ?_
    rw [bne_self_eq_false]
    wtm_at "M.w"
    exact LoopF.next ⟨_, _, _, rfl, rfl⟩ (Sx.pk (nw' := (I, _) :: (vl, aList L) :: N) (by wtm_at "M.a") (by wtm_at "M.pk"))
  · obtain ⟨s1, s2, s3, rfl, rfl⟩ := hJ
    wtm_at "M.w"
    exact ret _ (hN _ _ (by wtm_at "M.a"))
end

end
section
theorem enter_g {M : Model} {A : Around} {s : Shared} {f : Value} {pos : List Value} {kw : List (Str × Value)} {c : ClaimW} {cl : Str → Option Addr} {mean : ExcName → Option Value} {args : List WData} {s₁ : Shared}
    (h : codeG M A (.call f ⟨pos, kw⟩) (GoodWG c cl mean args s₁) s) : wpG M A (PySem.call f pos kw) (fun v s' => GoodWG c cl mean args s₁ (.ok (.ret v)) s') (fun e s' => GoodWG c cl mean args s₁ (.error e) s') s :=
  gCall (gCodeMono h fun res s' g => by rcases g.1 with ⟨v, _, _, rfl, _⟩ | ⟨e, _, _, rfl, _⟩ <;> exact g)
theorem top_b {w : World} {h : Heap} {p : Program} {loose : List Str} {mean : ExcName → Option Value} {mg mb : Str → Option Value} (X : (hd.heap_1 w.params).In h) (hT : TabsAt tabs4 h) (T : Top p loose mean mg mb h) : Bs w (ghostOf h tabs4) := by
  have T' := ghost_top hT T
  have X' := ghost_K hT X (by kernel_rfl)
  obtain ⟨bm, ob, a1, a2, a3, a4, a5, a6⟩ := T'.bmain
  exact ⟨X', T'.nolimit, ⟨mg, mb, T'.g, T'.b, gl_ok X' T'.g, fun q hq => ⟨bl_none X' T'.g q hq, bl_ok T'.builtins q hq⟩, bm, ob, a1, a2, a3, a4, a5, a6⟩, ghost_code hT⟩
abbrev gh (s : Shared) : Shared := { s with heap := ghostOf s.heap tabs4 }
theorem top_s {s : Shared} (hT : TabsAt tabs4 s.heap) : Sx (gh s) [] ((694, anObj (tabObj #[])) :: (699, anObj (tabObj #[])) :: (711, anObj (tabObj #[])) :: (718, anObj (tabObj #[])) :: []) s :=
  ⟨⟨fun a o e => of_hideAll _ e, fun _ h => absurd h List.not_mem_nil, fun p hp => by
    simp only [List.mem_cons, List.not_mem_nil, or_false] at hp
    rcases hp with rfl | rfl | rfl | rfl
    · exact ⟨⟨_, (hT (696, 694) (by simp [tabs4])).2, rfl⟩, hideAll_none _ (by simp [tabs4])⟩
    · exact ⟨⟨_, (hT (703, 699) (by simp [tabs4])).2, rfl⟩, hideAll_none _ (by simp [tabs4])⟩
    · exact ⟨⟨_, (hT (715, 711) (by simp [tabs4])).2, rfl⟩, hideAll_none _ (by simp [tabs4])⟩
    · exact ⟨⟨_, (hT (720, 718) (by simp [tabs4])).2, rfl⟩, hideAll_none _ (by simp [tabs4])⟩, by decide⟩, rfl, rfl⟩
theorem top_n {s s' : Shared} (S : Sx (gh s) [] ((694, aTbs) :: (699, aTbs) :: (711, aTbs) :: (718, aTbs) :: []) s') (a : Addr) (ha : a ∈ tabs4.map (·.2)) : ∃ ps, s'.heap.get? a = some (tabObj ps) := by
  have ha : a = 718 ∨ a = 711 ∨ a = 699 ∨ a = 694 := by simpa [tabs4] using ha
  have : (a, aTbs) ∈ [((694 : Addr), aTbs), (699, aTbs), (711, aTbs), (718, aTbs)] := by rcases ha with rfl | rfl | rfl | rfl <;> simp
  obtain ⟨⟨o, e, ps, rfl⟩, _⟩ := S.st.objs _ this
  exact ⟨ps, e⟩
theorem top_k {s s' : Shared} (hT : TabsAt tabs4 s.heap) (S : Sx (gh s) [] ((694, aTbs) :: (699, aTbs) :: (711, aTbs) :: (718, aTbs) :: []) s') : OldK s.heap s'.heap := by
  refine ⟨fun a o e => ?_, fun a o e => ?_⟩ <;> by_cases ha : a ∈ tabs4.map (·.2)
  · obtain ⟨q, hq, rfl⟩ := List.mem_map.mp ha
    have e2 := (hT q hq).2
    obtain ⟨ps, hP⟩ := top_n S _ ha
    rw [e2] at e
    cases e
    exact .inr (.inl ⟨((hT q hq).1.tab e2).isCodeTable, rfl, #[], ps, rfl, by rw [Array.empty_append]; exact hP⟩)
  · exact .inl (S.st.keep a o (ghost_ne e ha))
  · obtain ⟨ps, hP⟩ := top_n S _ ha
    exact ⟨_, hP⟩
  · exact ⟨o, S.st.keep a o (ghost_ne e ha)⟩
theorem top_a : Ar callerA (0 + 61) (([] : List (Addr × Vars)).map (·.1)) := ⟨rfl, by decide, by decide, [], rfl, fun _ h => absurd h List.not_mem_nil⟩
theorem top_all.tw357486453476387696 : True := trivial
theorem top_all.tw6832622275397697418 : True := trivial
theorem top_all.tw8048496239295959540 : True := trivial
theorem top_all.tw194192285509554761 : True := trivial
theorem top_all.tw12925077798502564890 : True := trivial
theorem top_all.tw14963275794074730727 : True := trivial
theorem top_all.tw7586976353326577639 : True := trivial
theorem top_all.tw11788210997535887381 : True := trivial
theorem top_all.tw17321209346157254431 : True := trivial
theorem top_all.tw8415865217263101055 : True := trivial
theorem top_all.tw7027315140586729980 : True := trivial
theorem top_all.tw4534014831348147716 : True := trivial
theorem top_all.tw16226266755753517590 : True := trivial
theorem top_all.tw2064760035341760603 : True := trivial
theorem top_all.tw1191098622791728640 : True := trivial
theorem top_all.tw367992968685874085 : True := trivial
theorem top_all.tw4836464614925395698 : True := trivial
theorem top_all.tw17281389099273451353 : True := trivial
theorem top_all.tw16253038025656117050 : True := trivial
theorem top_all.tw1442864392845904881 : True := trivial
theorem top_all.tw3718193844276224853 : True := trivial
theorem top_all.tw8908194960985962527 : True := trivial
theorem top_all.tw8855178271833959416 : True := trivial
theorem top_all.tw1354199947162340561 : True := trivial
theorem top_all.tw9007034300285467561 : True := trivial
theorem top_all.tw12518554311006552153 : True := trivial
theorem top_all.tw7817677295854395269 : True := trivial
theorem top_all.tw11961794048721633423 : True := trivial
theorem top_all.tw3484858178828565477 : True := trivial
theorem top_all.tw18193007359272923250 : True := trivial
theorem top_all.tw12589277067419106697 : True := trivial
theorem top_all.tw1586491436724562540 : True := trivial
theorem top_all.tw16720614015607264525 : True := trivial
theorem top_all.tw10592941104223419157 : True := trivial
theorem top_all.tw5613735483575795803 : True := trivial
theorem top_all.tw12704978334937387782 : True := trivial
theorem top_all.tw324088909727974816 : True := trivial
theorem top_all.tw16541322531262266513 : True := trivial
theorem top_all.tw9377567397045555619 : True := trivial
theorem top_all.tw523726069363218783 : True := trivial
theorem top_all.tw10221879860432227003 : True := trivial
theorem top_all.tw14358936439960928659 : True := trivial
theorem top_all.tw5771588485108302184 : True := trivial
theorem top_all.tw98186082597004359 : True := trivial
theorem top_all.tw16037318497731448975 : True := trivial
theorem top_all.tw13730032154530057194 : True := trivial
theorem top_all.tw10124108214713288496 : True := trivial
theorem top_all.tw1041251260394859466 : True := trivial
theorem top_all.tw15888074070777675874 : True := trivial
theorem top_all.tw4105417041254827360 : True := trivial
theorem top_all.tw16288881200133205926 : True := trivial
theorem top_all.tw11731627228791858590 : True := trivial
theorem top_all.tw3025645324966823577 : True := trivial
theorem top_all.tw12599338615043995728 : True := trivial
theorem top_all.tw11742482394303814653 : True := trivial
theorem top_all.tw14772006077243482043 : True := trivial
theorem top_all.tw3202297565222182620 : True := trivial
theorem top_all.tw8476420706837075662 : True := trivial
theorem top_all.tw13452810271211522403 : True := trivial
theorem top_all.tw2965102586379665734 : True := trivial
theorem top_all.tw28705216556357655 : True := trivial
theorem top_all.tw16766651578562654854 : True := trivial
theorem top_all.tw14994069745864125231 : True := trivial
theorem top_all.tw5111797999269565255 : True := trivial
theorem top_all.tw9757770635862008855 : True := trivial
theorem top_all.tw15239523326196270335 : True := trivial
theorem top_all.tw4387818883524022223 : True := trivial
theorem top_all.tw15135660080254146928 : True := trivial
theorem top_all.tw2884844886078244078 : True := trivial
theorem top_all.tw15676218461120290566 : True := trivial
theorem top_all.tw9369005280087338865 : True := trivial
theorem top_all.tw2436176857668761458 : True := trivial
theorem top_all.tw8394330010901865900 : True := trivial
theorem top_all.tw15225421521617864841 : True := trivial
theorem top_all.tw5299823806122151810 : True := trivial
theorem top_all.tw2104682643892383040 : True := trivial
theorem top_all.tw6751598649774448979 : True := trivial
theorem top_all.tw9369906740112396152 : True := trivial
theorem top_all.tw1810483545061225271 : True := trivial
theorem top_all.tw3884679279083042739 : True := trivial
theorem top_all.tw4257679738189830932 : True := trivial
theorem top_all.tw13682687393085507459 : True := trivial
theorem top_all.tw12776375647440898857 : True := trivial
theorem top_all.tw17304902089835880894 : True := trivial
theorem top_all.tw15881906488772937016 : True := trivial
theorem top_all.tw2281998731598080145 : True := trivial
theorem top_all.tw5671052851956668987 : True := trivial
theorem top_all.tw5621771724693202053 : True := trivial
theorem top_all.tw2934185633559632856 : True := trivial
theorem top_all.tw12108965256160877776 : True := trivial
theorem top_all.tw15576715042931326735 : True := trivial
theorem top_all.tw11860542171538770039 : True := trivial
theorem top_all.tw3080373350615480025 : True := trivial
theorem top_all.tw12610663863085105374 : True := trivial
theorem top_all.tw4968085028875596452 : True := trivial
theorem top_all.tw5189081658049228778 : True := trivial
theorem top_all.tw6865180159297500159 : True := trivial
theorem top_all.tw12690661731842930494 : True := trivial
theorem top_all.tw1708214698954106135 : True := trivial
theorem top_all.tw1053962271228181487 : True := trivial
theorem top_all.tw2849569133230380067 : True := trivial
theorem top_all.tw7642550071247121457 : True := trivial
theorem top_all.tw7673126778316725911 : True := trivial
theorem top_all.tw14711128467501257417 : True := trivial
theorem top_all.tw15366870400891184457 : True := trivial
theorem top_all.tw5236863658034505672 : True := trivial
theorem top_all.tw16215536655769322670 : True := trivial
theorem top_all.tw16650754806260216932 : True := trivial
theorem top_all.tw17335303922001142800 : True := trivial
theorem top_all.tw3979279628570586136 : True := trivial
theorem top_all.tw7108587927938646723 : True := trivial
theorem top_all.tw5444315563576221803 : True := trivial
theorem top_all.tw1740476864888710876 : True := trivial
theorem top_all.tw10073430653055249461 : True := trivial
theorem top_all.tw14990735573102930721 : True := trivial
theorem top_all.tw9645883844075485881 : True := trivial
theorem top_all.tw4888998536756902668 : True := trivial
theorem top_all.tw9669263129603173122 : True := trivial
theorem top_all.tw10946914218054601823 : True := trivial
theorem top_all.tw5600360889308368728 : True := trivial
theorem top_all.tw14055127939088404961 : True := trivial
theorem top_all.tw5971870887970822738 : True := trivial
theorem top_all.tw8779795431278573564 : True := trivial
theorem top_all.tw16856039076131096974 : True := trivial
theorem top_all.tw6625483248344046656 : True := trivial
theorem top_all.tw11917525717368091659 : True := trivial
theorem top_all.tw14748218414202668042 : True := trivial
theorem top_all.tw8777721683149558807 : True := trivial
theorem top_all.tw18195923495704422572 : True := trivial
theorem top_all.tw14569396660178271023 : True := trivial
theorem top_all.tw13351353414543083248 : True := trivial
theorem top_all.tw4465753994919319239 : True := trivial
theorem top_all.tw4351765045416693569 : True := trivial
theorem top_all.tw18123691703951052847 : True := trivial
theorem top_all.tw11860426115836062409 : True := trivial
theorem top_all.tw5939934394528619997 : True := trivial
theorem top_all.tw8979947457177681383 : True := trivial
theorem top_all.tw8420145575690920313 : True := trivial
theorem top_all.tw15687108403375373522 : True := trivial
theorem top_all.tw2229676489495217140 : True := trivial
theorem top_all.tw8874141211830476408 : True := trivial
theorem top_all.tw12532051460955817903 : True := trivial
theorem top_all.tw14951726759572714245 : True := trivial
theorem top_all.tw14693321607047063011 : True := trivial
theorem top_all.tw14128368385929623126 : True := trivial
theorem top_all.tw9532036162103314012 : True := trivial
theorem top_all.tw806838566556980688 : True := trivial
theorem top_all.tw6150289458020558478 : True := trivial
theorem top_all.tw13957476098373557882 : True := trivial
theorem top_all.tw17236869361510855122 : True := trivial
theorem top_all.tw266038886253609092 : True := trivial
theorem top_all.tw11843860879083362942 : True := trivial
theorem top_all.tw11932270012621810144 : True := trivial
theorem top_all.tw3737972817055269583 : True := trivial
theorem top_all.tw9662836987635177770 : True := trivial
theorem top_all.tw17468797096814979741 : True := trivial
theorem top_all.tw15918775809499297817 : True := trivial
theorem top_all.tw3305593292417697791 : True := trivial
theorem top_all.tw15543143619839095608 : True := trivial
theorem top_all.tw15634673871935188338 : True := trivial
theorem top_all.tw5067851889676587997 : True := trivial
theorem top_all.tw11778353346983879450 : True := trivial
theorem top_all.tw8110947764507610821 : True := trivial
theorem top_all.tw16220223180192666742 : True := trivial
theorem top_all.tw5648688287066846247 : True := trivial
theorem top_all.tw11792523828912222298 : True := trivial
theorem top_all.tw6499823412230373058 : True := trivial
theorem top_all.tw16447621366139503516 : True := trivial
theorem top_all.tw10853410844234347202 : True := trivial
theorem top_all.tw12949746326789733098 : True := trivial
theorem top_all.tw10923662552515608463 : True := trivial
theorem top_all.tw7451767684691205384 : True := trivial
theorem top_all.tw4027833172762380270 : True := trivial
theorem top_all.tw1267522988080950740 : True := trivial
theorem top_all.tw6301757578781640559 : True := trivial
theorem top_all.tw7935398617370400095 : True := trivial
theorem top_all.tw1631048093437340602 : True := trivial
theorem top_all.tw9826932688230337029 : True := trivial
theorem top_all.tw16094085908623960783 : True := trivial
theorem top_all.tw15513733123935092091 : True := trivial
theorem top_all.tw6872909164286988573 : True := trivial
theorem top_all.tw17060583768578542978 : True := trivial
theorem top_all.tw12226071952226385362 : True := trivial
theorem top_all.tw11794991921260881755 : True := trivial
theorem top_all.tw5621237196783834677 : True := trivial
theorem top_all.tw18002008991628820875 : True := trivial
theorem top_all.tw1394051587508528531 : True := trivial
theorem top_all.tw306192111180886141 : True := trivial
theorem top_all.tw6440209306058925334 : True := trivial
theorem top_all.tw8936402715000134394 : True := trivial
theorem top_all.tw785607135321044715 : True := trivial
theorem top_all.tw1412853602681461722 : True := trivial
theorem top_all.tw8500257569687530952 : True := trivial
theorem top_all.tw4109969967894749205 : True := trivial
theorem top_all.tw8868595684470229799 : True := trivial
theorem top_all.tw999327872918939284 : True := trivial
theorem top_all.tw2616220728976581885 : True := trivial
theorem top_all.tw16421641142900869139 : True := trivial
theorem top_all.tw1247922659872653384 : True := trivial
theorem top_all.tw16389413733814088524 : True := trivial
theorem top_all.tw10174637200443980363 : True := trivial
theorem top_all.tw6620200031135126501 : True := trivial
theorem top_all.tw2276618193581904968 : True := trivial
theorem top_all.tw116781656351811950 : True := trivial
theorem top_all.tw13826156651405362582 : True := trivial
theorem top_all.tw9808641534330768235 : True := trivial
theorem top_all.tw8489013904864150247 : True := trivial
theorem top_all.tw4531055397178615999 : True := trivial
theorem top_all.tw11530414872518665975 : True := trivial
theorem top_all.tw17952394230290650979 : True := trivial
theorem top_all.tw4755490046155255787 : True := trivial
theorem top_all.tw10663904605711365732 : True := trivial
theorem top_all.tw6611705674082892411 : True := trivial
theorem top_all.tw14312127073380140765 : True := trivial
theorem top_all.tw5519076454072024083 : True := trivial
theorem top_all.tw13343387760900624676 : True := trivial
theorem top_all.tw3474765905600512261 : True := trivial
theorem top_all.tw4986809755120587167 : True := trivial
theorem top_all.tw1147410495042210671 : True := trivial
theorem top_all.tw14942479110681145415 : True := trivial
theorem top_all.tw5133748949558325960 : True := trivial
theorem top_all.tw15437087665640032332 : True := trivial
theorem top_all.tw9318852129179510145 : True := trivial
theorem top_all.tw12075681025412282150 : True := trivial
theorem top_all.tw14146714788713330608 : True := trivial
theorem top_all.tw16373259740446633187 : True := trivial
theorem top_all.tw3930395442915620153 : True := trivial
theorem top_all.tw1521423096812158867 : True := trivial
theorem top_all.tw16766560030474242204 : True := trivial
theorem top_all.tw10019670093306487041 : True := trivial
theorem top_all.tw15619514793960114728 : True := trivial
theorem top_all.tw12513134901133961969 : True := trivial
theorem top_all.tw8068320467315613714 : True := trivial
theorem top_all.tw11327361594336958261 : True := trivial
theorem top_all.tw17681803963463413488 : True := trivial
theorem top_all.tw3233313171510525057 : True := trivial
theorem top_all.tw3393037097264815229 : True := trivial
theorem top_all.tw8580023380075873365 : True := trivial
theorem top_all.tw13421333091685819125 : True := trivial
theorem top_all.tw14976617333759339686 : True := trivial
theorem top_all.tw9891150583901724298 : True := trivial
theorem top_all.tw13514623848937442447 : True := trivial
theorem top_all.tw16436245740280826635 : True := trivial
theorem top_all.tw13915017645533047781 : True := trivial
theorem top_all.tw3977466220463187554 : True := trivial
theorem top_all.tw11359141705632045587 : True := trivial
theorem top_all.tw3218906496156338035 : True := trivial
theorem top_all.tw13091760826500517259 : True := trivial
theorem top_all.tw11119070769714189703 : True := trivial
theorem top_all.tw14498841857747530528 : True := trivial
theorem top_all.tw2318749692519163524 : True := trivial
theorem top_all.tw18290661086773933085 : True := trivial
theorem top_all.tw18266968124177518447 : True := trivial
theorem top_all.tw9175155151981193784 : True := trivial
theorem top_all.tw11815205133359572879 : True := trivial
theorem top_all.tw17537401730649621682 : True := trivial
theorem top_all.tw2042224553478485985 : True := trivial
theorem top_all.tw12026448321577344651 : True := trivial
theorem top_all.tw9208113312769289621 : True := trivial
theorem top_all.tw17683180162092967072 : True := trivial
theorem top_all.tw7062432308859693889 : True := trivial
theorem top_all.tw15824002403219684057 : True := trivial
theorem top_all.tw9506976372668470109 : True := trivial
theorem top_all.tw4915054712340437479 : True := trivial
theorem top_all.tw6531042137326141222 : True := trivial
theorem top_all.tw11470090496346487715 : True := trivial
theorem top_all.tw8014761775767494388 : True := trivial
theorem top_all.tw15645088755420628327 : True := trivial
theorem top_all.tw17467691298110438317 : True := trivial
theorem top_all.tw1646620005552808946 : True := trivial
theorem top_all.tw14973476835517619044 : True := trivial
theorem top_all.tw14185297279019113353 : True := trivial
theorem top_all.tw17787461984120420067 : True := trivial
theorem top_all.tw1118329731144928384 : True := trivial
theorem top_all.tw9874107007121905410 : True := trivial
theorem top_all.tw4049308249519877612 : True := trivial
theorem top_all.tw11260345796338851244 : True := trivial
theorem top_all.tw4083785824169726851 : True := trivial
theorem top_all.tw4681234483579873300 : True := trivial
theorem top_all.tw11632289393538559084 : True := trivial
theorem top_all.tw4692623388660148993 : True := trivial
theorem top_all.tw14990222197264055554 : True := trivial
theorem top_all.tw2098814026846327928 : True := trivial
theorem top_all.tw5947237487060476508 : True := trivial
theorem top_all.tw4097204533673344829 : True := trivial
theorem top_all.tw13817143674714400557 : True := trivial
theorem top_all.tw14251490887384622462 : True := trivial
theorem top_all.tw14174589921981666331 : True := trivial
theorem top_all.tw4485294489283930734 : True := trivial
theorem top_all.tw6313363863810400053 : True := trivial
theorem top_all.tw880787126061726124 : True := trivial
theorem top_all.tw1652411876774211986 : True := trivial
theorem top_all.tw3398045877543470449 : True := trivial
theorem top_all.tw16729487909929932613 : True := trivial
theorem top_all.tw3568555139618641223 : True := trivial
theorem top_all.tw3239196826053578447 : True := trivial
theorem top_all.tw13106793902571894605 : True := trivial
theorem top_all.tw339791777809575615 : True := trivial
theorem top_all.tw8961401275035061277 : True := trivial
theorem top_all.tw14354545258396380859 : True := trivial
theorem top_all.tw13763133607206837842 : True := trivial
theorem top_all.tw4294453449976011199 : True := trivial
theorem top_all.tw17082299625716968746 : True := trivial
theorem top_all.tw11091354036530719970 : True := trivial
theorem top_all.tw5272328910319346462 : True := trivial
theorem top_all.tw2555412075129949850 : True := trivial
theorem top_all.tw14359833322042821131 : True := trivial
theorem top_all.tw2783944855017976968 : True := trivial
theorem top_all.tw9356403196351726253 : True := trivial
theorem top_all.tw17146022665710141034 : True := trivial
theorem top_all.tw7326023948611220367 : True := trivial
theorem top_all.tw4785714845705334625 : True := trivial
theorem top_all.tw17198303061627004157 : True := trivial
theorem top_all.tw13767319729642427018 : True := trivial
theorem top_all.tw4748966964562048216 : True := trivial
theorem top_all.tw5262254806317097983 : True := trivial
theorem top_all.tw2055106987872101256 : True := trivial
theorem top_all.tw10894523166282832036 : True := trivial
theorem top_all.tw8345983474922371125 : True := trivial
theorem top_all.tw17290580293858341576 : True := trivial
theorem top_all.tw4582489674140480441 : True := trivial
theorem top_all.tw18258412447673451722 : True := trivial
theorem top_all.tw15804746811468181955 : True := trivial
theorem top_all.tw7636722992160384729 : True := trivial
theorem top_all.tw11652868614646787870 : True := trivial
theorem top_all.tw18317127193721248087 : True := trivial
theorem top_all.tw10268276332526633942 : True := trivial
theorem top_all.tw8107508721337228267 : True := trivial
theorem top_all.tw9742558997412069314 : True := trivial
theorem top_all.tw6957818836344594392 : True := trivial
theorem top_all.tw13531471984165941053 : True := trivial
theorem top_all.tw7974529447193034950 : True := trivial
theorem top_all.tw7170744542804479737 : True := trivial
theorem top_all.tw16217934163394080366 : True := trivial
theorem top_all.tw18236227927726161311 : True := trivial
theorem top_all.tw18203999809979258337 : True := trivial
theorem top_all.tw131480057157739165 : True := trivial
theorem top_all.tw11378459830020791245 : True := trivial
theorem top_all.tw15243958071474653283 : True := trivial
theorem top_all.tw17698391682249953642 : True := trivial
theorem top_all.tw12748181232706517207 : True := trivial
theorem top_all.tw7045483364762674659 : True := trivial
theorem top_all.tw15337684209848955983 : True := trivial
theorem top_all.tw809843299436970364 : True := trivial
theorem top_all.tw14067039853544588410 : True := trivial
theorem top_all.tw3851271332907670279 : True := trivial
theorem top_all.tw15654358805057991243 : True := trivial
theorem top_all.tw5796326273687983615 : True := trivial
theorem top_all.tw10624038264649397190 : True := trivial
theorem top_all.tw16099389386280615896 : True := trivial
theorem top_all.tw9036291445673226670 : True := trivial
theorem top_all.tw16668366097938928261 : True := trivial
theorem top_all.tw952958765401722448 : True := trivial
theorem top_all.tw808012485667052173 : True := trivial
theorem top_all.tw11182651011020787952 : True := trivial
theorem top_all.tw5039972099893738505 : True := trivial
theorem top_all.tw10225617295071173940 : True := trivial
theorem top_all.tw11517868611847535616 : True := trivial
theorem top_all.tw7955440082904318829 : True := trivial
theorem top_all.tw208418513346001935 : True := trivial
theorem top_all.tw2863159459481824326 : True := trivial
theorem top_all.tw15085608841776999159 : True := trivial
theorem top_all.tw12573362965217777804 : True := trivial
theorem top_all.tw9566876108979191969 : True := trivial
theorem top_all.tw18096270326045292388 : True := trivial
theorem top_all.tw23899774024785421 : True := trivial
theorem top_all.tw16191775206516314282 : True := trivial
theorem top_all.tw3399779431282745804 : True := trivial
theorem top_all.tw8712065602875843058 : True := trivial
theorem top_all.tw11544928386735573620 : True := trivial
theorem top_all.tw6075343296593612338 : True := trivial
theorem top_all.tw13965903133575028066 : True := trivial
theorem top_all.tw14075044456362324731 : True := trivial
theorem top_all.tw12917277020792423128 : True := trivial
theorem top_all.tw5385856896141309674 : True := trivial
theorem top_all.tw17652376820348021817 : True := trivial
theorem top_all.tw11443345319394863820 : True := trivial
theorem top_all.tw3766200152660343810 : True := trivial
theorem top_all.tw17690595662055413271 : True := trivial
theorem top_all.tw8568884288787842206 : True := trivial
theorem top_all.tw12955245083085468633 : True := trivial
theorem top_all.tw12988498597489061694 : True := trivial
theorem top_all.tw11518611879704671464 : True := trivial
theorem top_all.tw918196331229207122 : True := trivial
theorem top_all.tw17055214868727610996 : True := trivial
theorem top_all.tw9270692934384387845 : True := trivial
theorem top_all.tw13220421806453253567 : True := trivial
theorem top_all.tw15776426695341953678 : True := trivial
theorem top_all.tw2768489504539271829 : True := trivial
theorem top_all.tw9693609465119647575 : True := trivial
theorem top_all.tw14987064748796850016 : True := trivial
theorem top_all.tw2922936900680986089 : True := trivial
theorem top_all.tw5941685598315108396 : True := trivial
theorem top_all.tw9396893924622277132 : True := trivial
theorem top_all.tw1594486242162894904 : True := trivial
theorem top_all.tw15193600330624205324 : True := trivial
theorem top_all.tw5199024029002816954 : True := trivial
theorem top_all.tw5143680226085879939 : True := trivial
theorem top_all.tw9263085591266768109 : True := trivial
theorem top_all.tw3959594170127943742 : True := trivial
theorem top_all.tw11225931157598394515 : True := trivial
theorem top_all.tw11361748698578305060 : True := trivial
theorem top_all.tw478394402708419593 : True := trivial
theorem top_all.tw16144634197054155565 : True := trivial
theorem top_all.tw11144721357154754167 : True := trivial
theorem top_all.tw4631003315082691811 : True := trivial
theorem top_all.tw15101866806194465983 : True := trivial
theorem top_all.tw16780716764055709009 : True := trivial
theorem top_all.tw12717024556306925886 : True := trivial
theorem top_all.tw12179880867293656539 : True := trivial
theorem top_all.tw8279242728953852742 : True := trivial
theorem top_all.tw280195231895309052 : True := trivial
theorem top_all.tw4613141171988246204 : True := trivial
theorem top_all.tw12773096304733460307 : True := trivial
theorem top_all.tw1898418958663621704 : True := trivial
theorem top_all.tw1824421319075178218 : True := trivial
theorem top_all.tw18059629003657102935 : True := trivial
theorem top_all.tw6738505506874873799 : True := trivial
theorem top_all.tw4520039380121010604 : True := trivial
theorem top_all.tw7384153331676680927 : True := trivial
theorem top_all.tw13000197855007002404 : True := trivial
theorem top_all.tw3091310628821952075 : True := trivial
theorem top_all.tw8817269681274868472 : True := trivial
theorem top_all.tw13438249915702587725 : True := trivial
theorem top_all.tw12752033899573143254 : True := trivial
theorem top_all.tw2514323726984085133 : True := trivial
theorem top_all.tw2781890496403240856 : True := trivial
theorem top_all.tw13143578832841713704 : True := trivial
theorem top_all.tw6988674695322200036 : True := trivial
theorem top_all.tw143440976896360795 : True := trivial
theorem top_all.tw907889033105730362 : True := trivial
theorem top_all.tw1624735958598737236 : True := trivial
theorem top_all.tw9036553135394203556 : True := trivial
theorem top_all.tw11809394092523094067 : True := trivial
theorem top_all.tw1838220523464102924 : True := trivial
theorem top_all.tw4942418245194585036 : True := trivial
theorem top_all.tw8161082515017661225 : True := trivial
theorem top_all.tw5421491787899066018 : True := trivial
theorem top_all.tw3795888088807337400 : True := trivial
theorem top_all.tw13922488240456337515 : True := trivial
theorem top_all.tw12700266601118148134 : True := trivial
theorem top_all.tw6269982138553209461 : True := trivial
theorem top_all.tw11560797354269996197 : True := trivial
theorem top_all.tw12215770676233668521 : True := trivial
theorem top_all.tw3814508658149931748 : True := trivial
theorem top_all.tw14718592947184984602 : True := trivial
theorem top_all.tw5984199698008727441 : True := trivial
theorem top_all.tw16775565714380853304 : True := trivial
theorem top_all.tw877790918603076696 : True := trivial
theorem top_all.tw11909166174471247171 : True := trivial
theorem top_all.tw776833661366883267 : True := trivial
theorem top_all.tw4575744551005000885 : True := trivial
theorem top_all.tw10492414465010117110 : True := trivial
theorem top_all.tw16214102146911812829 : True := trivial
theorem top_all.tw17925851422731608670 : True := trivial
theorem top_all.tw9286024922598071710 : True := trivial
theorem top_all.tw11158121433998226622 : True := trivial
theorem top_all.tw10100917277078238029 : True := trivial
theorem top_all.tw5240859150461883545 : True := trivial
theorem top_all.tw4799317220036915993 : True := trivial
theorem top_all.tw5466123176236953215 : True := trivial
theorem top_all.tw172814767421972943 : True := trivial
theorem top_all.tw1458630871191533583 : True := trivial
theorem top_all.tw9600524019915370518 : True := trivial
theorem top_all.tw17260685633204252197 : True := trivial
theorem top_all.tw7322424150206793755 : True := trivial
theorem top_all.tw11151752859872063611 : True := trivial
theorem top_all.tw5307327901315946170 : True := trivial
theorem top_all.tw9656488972261805176 : True := trivial
theorem top_all.tw8130798739401033438 : True := trivial
theorem top_all.tw3347561769058772211 : True := trivial
theorem top_all.tw9291500922127910130 : True := trivial
theorem top_all.tw5805177585951927509 : True := trivial
theorem top_all.tw4557190127505390426 : True := trivial
theorem top_all.tw16206273635263044983 : True := trivial
theorem top_all.tw8123205763935591135 : True := trivial
theorem top_all.tw4493073768264701994 : True := trivial
theorem top_all.tw16912454867543763642 : True := trivial
theorem top_all.tw917476775876301292 : True := trivial
theorem top_all.tw14859023936380131622 : True := trivial
theorem top_all.tw12843864375417585787 : True := trivial
theorem top_all.tw5233920751133486135 : True := trivial
theorem top_all.tw9506267790254089923 : True := trivial
theorem top_all.tw17501832504731356932 : True := trivial
theorem top_all.tw6079175988001827971 : True := trivial
theorem top_all.tw13971926911922765815 : True := trivial
theorem top_all.tw704035543876694675 : True := trivial
theorem top_all.tw16136223314004343958 : True := trivial
theorem top_all.tw12017222919184664828 : True := trivial
theorem top_all.tw5892202533594623377 : True := trivial
theorem top_all.tw18248339340022569474 : True := trivial
theorem top_all.tw9334523991053717396 : True := trivial
theorem top_all.tw6851394673086029026 : True := trivial
theorem top_all.tw15653303527467243257 : True := trivial
theorem top_all.tw16077423820118415899 : True := trivial
theorem top_all.tw11885391918546458000 : True := trivial
theorem top_all.tw736428865234650470 : True := trivial
theorem top_all.tw12035404046056121125 : True := trivial
theorem top_all.tw5801820633941526321 : True := trivial
theorem top_all.tw1592675838081365000 : True := trivial
theorem top_all.tw12960161334829468662 : True := trivial
theorem top_all.tw2865650786797939387 : True := trivial
theorem top_all.tw7582710016700299217 : True := trivial
theorem top_all.tw18251922974870091638 : True := trivial
theorem top_all.tw3498085240675298353 : True := trivial
theorem top_all.tw13266706985563432091 : True := trivial
theorem top_all.tw17771977238341251832 : True := trivial
theorem top_all.tw15563656719247028525 : True := trivial
theorem top_all.tw14755396171990568210 : True := trivial
theorem top_all.tw10282238266760619419 : True := trivial
theorem top_all.tw16025068452720393305 : True := trivial
theorem top_all.tw15273882785020507099 : True := trivial
theorem top_all.tw13723362675068392672 : True := trivial
theorem top_all.tw7621275329142033592 : True := trivial
theorem top_all.tw655017932264854518 : True := trivial
theorem top_all.tw11125150474543877657 : True := trivial
theorem top_all.tw16121970002434284488 : True := trivial
theorem top_all.tw2342262041293780144 : True := trivial
theorem top_all.tw4778638921574589610 : True := trivial
theorem top_all.tw7713452808652211149 : True := trivial
theorem top_all.tw4720858624533075992 : True := trivial
theorem top_all.tw9735430387251368815 : True := trivial
theorem top_all.tw9395163014778361299 : True := trivial
theorem top_all.tw11045223700419760157 : True := trivial
theorem top_all.tw10373773163778860322 : True := trivial
theorem top_all.tw11790905521174835015 : True := trivial
theorem top_all.tw5430349739126486268 : True := trivial
theorem top_all.tw14546649505823877809 : True := trivial
theorem top_all.tw7968809654634825030 : True := trivial
theorem top_all.tw12326370406001474839 : True := trivial
theorem top_all.tw4182319207624110676 : True := trivial
theorem top_all.tw839057008150344279 : True := trivial
theorem top_all.tw10971289074672887930 : True := trivial
theorem top_all.tw6686675590140383520 : True := trivial
theorem top_all.tw293812244830232085 : True := trivial
theorem top_all.tw13744142754513967258 : True := trivial
theorem top_all.tw5247413188822395051 : True := trivial
theorem top_all.tw3668086199437278837 : True := trivial
theorem top_all.tw10742284395461419866 : True := trivial
theorem top_all.tw16385746272370788826 : True := trivial
theorem top_all.tw12976231600719020596 : True := trivial
theorem top_all.tw18251669600766585679 : True := trivial
theorem top_all.tw18403059295020312381 : True := trivial
theorem top_all.tw7231788829576394793 : True := trivial
theorem top_all.tw6605684171615966890 : True := trivial
theorem top_all.tw10719543139387408220 : True := trivial
theorem top_all.tw13613418781802442231 : True := trivial
theorem top_all.tw13747950223129520356 : True := trivial
theorem top_all.tw9589229432765545221 : True := trivial
theorem top_all.tw2615762782351732800 : True := trivial
theorem top_all.tw9483738239542580498 : True := trivial
theorem top_all.tw9743959743164127992 : True := trivial
theorem top_all.tw2250834612267866685 : True := trivial
theorem top_all.tw17496325079948070339 : True := trivial
theorem top_all.tw5019160417920036967 : True := trivial
theorem top_all.tw6136988636787680813 : True := trivial
theorem top_all.tw5168278786286759260 : True := trivial
theorem top_all.tw223774784249030160 : True := trivial
theorem top_all.tw11867075289434780437 : True := trivial
theorem top_all.tw9756228423870606937 : True := trivial
theorem top_all.tw3583606781357606145 : True := trivial
theorem top_all.tw16640585623692911814 : True := trivial
theorem top_all.tw7916909903628207956 : True := trivial
theorem top_all.tw13800524243941789475 : True := trivial
theorem top_all.tw2814141895338601248 : True := trivial
theorem top_all.tw9736218376897856255 : True := trivial
theorem top_all.tw7349282739426792839 : True := trivial
theorem top_all.tw2404889374702458388 : True := trivial
theorem top_all.tw2621503978629852102 : True := trivial
theorem top_all.tw15324171130205606081 : True := trivial
theorem top_all.tw18164065182128695619 : True := trivial
theorem top_all.tw9275739289826435646 : True := trivial
theorem top_all.tw4321315535853148695 : True := trivial
theorem top_all.tw226875620247738019 : True := trivial
theorem top_all.tw10759769798940789330 : True := trivial
theorem top_all.tw9105065869109344725 : True := trivial
theorem top_all.tw11332505054660856057 : True := trivial
theorem top_all.tw14194442618142568935 : True := trivial
theorem top_all.tw8511076011848084401 : True := trivial
theorem top_all.tw6511968949400516009 : True := trivial
theorem top_all.tw14720436391298519458 : True := trivial
theorem top_all.tw6549266537609307516 : True := trivial
theorem top_all.tw11694780661277299350 : True := trivial
theorem top_all.tw17582400886454899529 : True := trivial
theorem top_all.tw4178392155067300597 : True := trivial
theorem top_all.tw388851783787392206 : True := trivial
theorem top_all.tw4858329703297660800 : True := trivial
theorem top_all.tw3411107179425726081 : True := trivial
theorem top_all.tw3773014517628285995 : True := trivial
theorem top_all.tw11989736605994012730 : True := trivial
theorem top_all.tw3186570791958525772 : True := trivial
theorem top_all.tw3490791097490805857 : True := trivial
theorem top_all.tw4809493296475775735 : True := trivial
theorem top_all.tw8873568413945620688 : True := trivial
theorem top_all.tw10755475404176073044 : True := trivial
theorem top_all.tw74505943554027874 : True := trivial
theorem top_all.tw18253777382413995163 : True := trivial
theorem top_all.tw5046257234511350883 : True := trivial
theorem top_all.tw16234091360888836978 : True := trivial
theorem top_all.tw12703264971755053917 : True := trivial
theorem top_all.tw18369519012565563255 : True := trivial
theorem top_all.tw7614130998371725048 : True := trivial
theorem top_all.tw1119765024449658704 : True := trivial
theorem top_all.tw13315380442365742810 : True := trivial
theorem top_all.tw6523675971746843942 : True := trivial
theorem top_all.tw578147919778449222 : True := trivial
theorem top_all.tw9792705888652507566 : True := trivial
theorem top_all.tw1321708873231063082 : True := trivial
theorem top_all.tw5904841975825482614 : True := trivial
theorem top_all.tw6194336678303135458 : True := trivial
theorem top_all.tw13190384263235392637 : True := trivial
theorem top_all.tw8171684662630621593 : True := trivial
theorem top_all.tw13836680837825287758 : True := trivial
theorem top_all.tw8154669510976544012 : True := trivial
theorem top_all.tw8591019665733201087 : True := trivial
theorem top_all.tw11697865401950405815 : True := trivial
theorem top_all.tw902937830147270808 : True := trivial
theorem top_all.tw9636197076823870031 : True := trivial
theorem top_all.tw3471854651861409311 : True := trivial
theorem top_all.tw2323797888168788683 : True := trivial
theorem top_all.tw6685129146284597719 : True := trivial
theorem top_all.tw2940820223130721810 : True := trivial
theorem top_all.tw13032247963278743920 : True := trivial
theorem top_all.tw10564616649009840107 : True := trivial
theorem top_all.tw14137635655367270647 : True := trivial
theorem top_all.tw2249576246246562277 : True := trivial
theorem top_all.tw7199115206225606635 : True := trivial
theorem top_all.tw15815273109307123151 : True := trivial
theorem top_all.tw10778430319005233596 : True := trivial
theorem top_all.tw542319229914480608 : True := trivial
theorem top_all.tw1310137767252894288 : True := trivial
theorem top_all.tw8418053797577569123 : True := trivial
theorem top_all.tw5900468448217267710 : True := trivial
theorem top_all.tw14271326456241594330 : True := trivial
theorem top_all.tw1728286878699216708 : True := trivial
theorem top_all.tw6905462346746177075 : True := trivial
theorem top_all.tw14331337664145690992 : True := trivial
theorem top_all.tw14727500308229509026 : True := trivial
theorem top_all.tw12058322530868979706 : True := trivial
theorem top_all.tw10024539981503356081 : True := trivial
theorem top_all.tw1624820266294785801 : True := trivial
theorem top_all.tw1255543922213308082 : True := trivial
theorem top_all.tw2879022116473395403 : True := trivial
theorem top_all.tw6494405771406127004 : True := trivial
theorem top_all.tw4059203502148874624 : True := trivial
theorem top_all.tw10798979858347186434 : True := trivial
theorem top_all.tw8271826505563210524 : True := trivial
theorem top_all.tw2384560854572660402 : True := trivial
theorem top_all.tw12218184603601305399 : True := trivial
theorem top_all.tw724327425205472613 : True := trivial
theorem top_all.tw13287029190838226313 : True := trivial
theorem top_all.tw8396448246036965856 : True := trivial
theorem top_all.tw15243450934785482565 : True := trivial
theorem top_all.tw11611230546899886875 : True := trivial
theorem top_all.tw6504356720904611258 : True := trivial
theorem top_all.tw10532240356349301848 : True := trivial
theorem top_all.tw3508638549374590148 : True := trivial
theorem top_all.tw7331504242357795048 : True := trivial
theorem top_all.tw3463515897269283261 : True := trivial
theorem top_all.tw6092473246088938581 : True := trivial
theorem top_all.tw15558591107318819699 : True := trivial
theorem top_all.tw5179221015043940197 : True := trivial
theorem top_all.tw2954138844586549427 : True := trivial
theorem top_all.tw15607063180354668549 : True := trivial
theorem top_all.tw9321573150999500727 : True := trivial
theorem top_all.tw11626672496565961113 : True := trivial
theorem top_all.tw1356767512857238468 : True := trivial
theorem top_all.tw1665802298916292676 : True := trivial
theorem top_all.tw15253661779058825650 : True := trivial
theorem top_all.tw17719248994119449237 : True := trivial
theorem top_all.tw16718179843324482171 : True := trivial
theorem top_all.tw14217236120800706957 : True := trivial
theorem top_all.tw16020832371703090977 : True := trivial
theorem top_all.tw17838850156968606273 : True := trivial
theorem top_all.tw729204287747214283 : True := trivial
theorem top_all.tw3088082255403571449 : True := trivial
theorem top_all.tw321561671718478162 : True := trivial
theorem top_all.tw13491873717898837899 : True := trivial
theorem top_all.tw4218588619650667082 : True := trivial
theorem top_all.tw12669076308023190420 : True := trivial
theorem top_all.tw5165394752543900447 : True := trivial
theorem top_all.tw12964107022256796479 : True := trivial
theorem top_all.tw2943973509031285743 : True := trivial
theorem top_all.tw18417606766038684178 : True := trivial
theorem top_all.tw12033047912003097452 : True := trivial
theorem top_all.tw15430279212887382852 : True := trivial
theorem top_all.tw15997100613292643993 : True := trivial
theorem top_all.tw11355545068026515733 : True := trivial
theorem top_all.tw4013160145806557959 : True := trivial
theorem top_all.tw3312385743137225817 : True := trivial
theorem top_all.tw16240696589269511232 : True := trivial
theorem top_all.tw18338442809258910223 : True := trivial
theorem top_all.tw16985929913504929498 : True := trivial
theorem top_all.tw5987171870350397606 : True := trivial
theorem top_all.tw9802331309119437480 : True := trivial
theorem top_all.tw9902134683636897874 : True := trivial
theorem top_all.tw11949072343416133908 : True := trivial
theorem top_all.tw13005086657625338326 : True := trivial
theorem top_all.tw7313587925748007092 : True := trivial
theorem top_all.tw6271542402283080730 : True := trivial
theorem top_all.tw6088502218857693198 : True := trivial
theorem top_all.tw8284982218674688138 : True := trivial
theorem top_all.tw11420722854282363662 : True := trivial
theorem top_all.tw2075720357782235755 : True := trivial
theorem top_all.tw8120290314672491489 : True := trivial
theorem top_all.tw12346865434197678265 : True := trivial
theorem top_all.tw16913673570923920494 : True := trivial
theorem top_all.tw7382312078809722342 : True := trivial
theorem top_all.tw11931136081266924758 : True := trivial
theorem top_all.tw4339380399297726941 : True := trivial
theorem top_all.tw1277985552089883082 : True := trivial
theorem top_all.tw2934380232973728719 : True := trivial
theorem top_all.tw17357099417128773696 : True := trivial
theorem top_all.tw451323092565334394 : True := trivial
theorem top_all.tw4596949531784452469 : True := trivial
theorem top_all.tw507816326338895899 : True := trivial
theorem top_all.tw3498698605951799800 : True := trivial
theorem top_all.tw16369028359378082070 : True := trivial
theorem top_all.tw16471251861195003200 : True := trivial
theorem top_all.tw3908885092832627885 : True := trivial
theorem top_all.tw263066950814723067 : True := trivial
theorem top_all.tw781310754111822830 : True := trivial
theorem top_all.tw16301634511831108909 : True := trivial
theorem top_all.tw2054161050235543811 : True := trivial
theorem top_all.tw16555410303380718697 : True := trivial
theorem top_all.tw247401132744716229 : True := trivial
theorem top_all.tw15683553848805007637 : True := trivial
theorem top_all.tw3419737108875602255 : True := trivial
theorem top_all.tw18373096487807531475 : True := trivial
theorem top_all.tw4684846562738572346 : True := trivial
theorem top_all.tw5381714992347702466 : True := trivial
theorem top_all.tw1853567083843241961 : True := trivial
theorem top_all.tw6322616645356649346 : True := trivial
theorem top_all.tw3490542453157757506 : True := trivial
theorem top_all.tw11587401598329895369 : True := trivial
theorem top_all.tw9929795957735574578 : True := trivial
theorem top_all.tw11820447594653606328 : True := trivial
theorem top_all.tw14867690430349554285 : True := trivial
theorem top_all.tw8349523975282560846 : True := trivial
theorem top_all.tw17146122500184152360 : True := trivial
theorem top_all.tw7486402107404542129 : True := trivial
theorem top_all.tw12240287093519136064 : True := trivial
theorem top_all.tw2253257129483015918 : True := trivial
theorem top_all.tw16720312465193085842 : True := trivial
theorem top_all.tw6620949020043021671 : True := trivial
theorem top_all.tw891472366515175404 : True := trivial
theorem top_all.tw11042324708330738014 : True := trivial
theorem top_all.tw7222396787418119876 : True := trivial
theorem top_all.tw3170190607977828356 : True := trivial
theorem top_all.tw8964624022971670301 : True := trivial
theorem top_all.tw2186886366696350527 : True := trivial
theorem top_all.tw1268812610354976961 : True := trivial
theorem top_all.tw6290758563260652034 : True := trivial
theorem top_all.tw15902880190911082394 : True := trivial
theorem top_all.tw8958226839879742339 : True := trivial
theorem top_all.tw194453003704826498 : True := trivial
theorem top_all.tw11058551658384353778 : True := trivial
theorem top_all.tw9759327707574494274 : True := trivial
theorem top_all.tw9147965484400511038 : True := trivial
theorem top_all.tw14842920838167896624 : True := trivial
theorem top_all.tw9617572595518180606 : True := trivial
theorem top_all.tw11455320572773931910 : True := trivial
theorem top_all.tw13039256582735474232 : True := trivial
theorem top_all.tw17494929509039014647 : True := trivial
theorem top_all.tw15467193567787771912 : True := trivial
theorem top_all.tw8897886009280739531 : True := trivial
theorem top_all.tw16069571607339928238 : True := trivial
theorem top_all.tw14211377330393637455 : True := trivial
theorem top_all.tw14936008733348950519 : True := trivial
theorem top_all.tw4907986389989015172 : True := trivial
theorem top_all.tw9439821109571976141 : True := trivial
theorem top_all.tw13823390019544441482 : True := trivial
theorem top_all.tw1662941654780336871 : True := trivial
theorem top_all.tw6983701784673066130 : True := trivial
theorem top_all.tw850305052431237365 : True := trivial
theorem top_all.tw3890893798640355528 : True := trivial
theorem top_all.tw4399084167238564467 : True := trivial
theorem top_all.tw15089537849812061388 : True := trivial
theorem top_all.tw14091637408042749638 : True := trivial
theorem top_all.tw15076209026821532711 : True := trivial
theorem top_all.tw14049091934507197563 : True := trivial
theorem top_all.tw6754161658306487326 : True := trivial
theorem top_all.tw6960546155768788704 : True := trivial
theorem top_all.tw16124168253545293256 : True := trivial
theorem top_all.tw14874538756383354834 : True := trivial
theorem top_all.tw9227093845439978548 : True := trivial
theorem top_all.tw17276374311936711695 : True := trivial
theorem top_all.tw14379157416171268195 : True := trivial
theorem top_all.tw932023465709802762 : True := trivial
theorem top_all.tw13523556564459904611 : True := trivial
theorem top_all.tw16692870727711176797 : True := trivial
theorem top_all.tw12399167619818453466 : True := trivial
theorem top_all.tw18280251145146244985 : True := trivial
theorem top_all.tw4996380746940264312 : True := trivial
theorem top_all.tw13295017437945973628 : True := trivial
theorem top_all.tw355172965665312332 : True := trivial
theorem top_all.tw1496686525874446120 : True := trivial
theorem top_all.tw7567860512440080609 : True := trivial
theorem top_all.tw1616275177105361234 : True := trivial
theorem top_all.tw8649703025262536220 : True := trivial
theorem top_all.tw12249303525610798117 : True := trivial
theorem top_all.tw15592728308804135954 : True := trivial
theorem top_all.tw8351331789796074291 : True := trivial
theorem top_all.tw7545801143554659062 : True := trivial
theorem top_all.tw17413254778700434279 : True := trivial
theorem top_all.tw13877385777982135279 : True := trivial
theorem top_all.tw14932019376911940224 : True := trivial
theorem top_all.tw16786828333239569650 : True := trivial
theorem top_all.tw14485293113863533478 : True := trivial
theorem top_all.tw1293098209498163761 : True := trivial
theorem top_all.tw7106472087272261540 : True := trivial
theorem top_all.tw16254425550058562393 : True := trivial
theorem top_all.tw3933209488033299525 : True := trivial
theorem top_all.tw6579691746581110242 : True := trivial
theorem top_all.tw4576973094100225244 : True := trivial
theorem top_all.tw2160005513828712820 : True := trivial
theorem top_all.tw8659344969310155405 : True := trivial
theorem top_all.tw9746225234476349262 : True := trivial
theorem top_all.tw13437055624595759577 : True := trivial
theorem top_all.tw15563768208051304674 : True := trivial
theorem top_all.tw18421694447192774348 : True := trivial
theorem top_all.tw3605192018802541355 : True := trivial
theorem top_all.tw14329559052300565207 : True := trivial
theorem top_all.tw5476602348135483680 : True := trivial
theorem top_all.tw2516567146890188383 : True := trivial
theorem top_all.tw15283801751523928433 : True := trivial
theorem top_all.tw1858244616871295298 : True := trivial
theorem top_all.tw5906310966943018122 : True := trivial
theorem top_all.tw2502777644363593873 : True := trivial
theorem top_all.tw7328427053940653237 : True := trivial
theorem top_all.tw3260603882371650809 : True := trivial
theorem top_all.tw10511647281734541157 : True := trivial
theorem top_all.tw808011781652312969 : True := trivial
theorem top_all.tw5704071689592939800 : True := trivial
theorem top_all.tw17890687574971323652 : True := trivial
theorem top_all.tw16112077992482973234 : True := trivial
theorem top_all.tw11598333024483494494 : True := trivial
theorem top_all.tw8885527294628589966 : True := trivial
theorem top_all.tw6403858290002872107 : True := trivial
theorem top_all.tw14912657092125327132 : True := trivial
theorem top_all.tw13678620678359834032 : True := trivial
theorem top_all.tw13438984000924388280 : True := trivial
theorem top_all.tw12184899261594805595 : True := trivial
theorem top_all.tw7482938397948137567 : True := trivial
theorem top_all.tw1238866632687558995 : True := trivial
theorem top_all.tw7773387049723884453 : True := trivial
theorem top_all.tw7410037686041907381 : True := trivial
theorem top_all.tw10717525367895764258 : True := trivial
theorem top_all.tw16420466521232617195 : True := trivial
theorem top_all.tw16753671866556816391 : True := trivial
theorem top_all.tw1713854250173047209 : True := trivial
theorem top_all.tw9404410229984851219 : True := trivial
theorem top_all.tw11771024841159661859 : True := trivial
theorem top_all.tw10466572090375134071 : True := trivial
theorem top_all.tw5226070311787288472 : True := trivial
theorem top_all.tw14290109116524819377 : True := trivial
theorem top_all.tw16233504814213487344 : True := trivial
theorem top_all.tw15327223694889370247 : True := trivial
theorem top_all.tw4138189133387787382 : True := trivial
theorem top_all.tw15848747395091573278 : True := trivial
theorem top_all.tw4781212036994525089 : True := trivial
theorem top_all.tw6930108708064375938 : True := trivial
theorem top_all.tw4961178135092325941 : True := trivial
theorem top_all.tw11596399456950212859 : True := trivial
theorem top_all.tw2900936418937339028 : True := trivial
theorem top_all.tw17095790752443878590 : True := trivial
theorem top_all.tw10265235741435925467 : True := trivial
theorem top_all.tw11438735607639017380 : True := trivial
theorem top_all.tw4671720358848534772 : True := trivial
theorem top_all.tw17335231476689725211 : True := trivial
theorem top_all.tw16306362363861824173 : True := trivial
theorem top_all.tw6325785687009749792 : True := trivial
theorem top_all.tw4387429576046333532 : True := trivial
theorem top_all.tw2255584305972196613 : True := trivial
theorem top_all.tw7318511840254833456 : True := trivial
theorem top_all.tw5498659932077292090 : True := trivial
theorem top_all.tw10819217505795773242 : True := trivial
theorem top_all.tw2041429181248378427 : True := trivial
theorem top_all.tw7324623041137256780 : True := trivial
theorem top_all.tw7540871868673930373 : True := trivial
theorem top_all.tw4631624957326187025 : True := trivial
theorem top_all.tw6312219956393885313 : True := trivial
theorem top_all.tw12849478258405175880 : True := trivial
theorem top_all.tw1577539262587517500 : True := trivial
theorem top_all.tw10278676062107927639 : True := trivial
theorem top_all.tw2006281835545063991 : True := trivial
theorem top_all.tw6680298058302492538 : True := trivial
theorem top_all.tw14268121809746212572 : True := trivial
theorem top_all.tw9593040880074535057 : True := trivial
theorem top_all.tw6123833821521102049 : True := trivial
theorem top_all.tw6123826216769956371 : True := trivial
theorem top_all.tw8996576932833800055 : True := trivial
theorem top_all.tw12233049240099858395 : True := trivial
theorem top_all.tw14963550881802958337 : True := trivial
theorem top_all.tw13251847864853507917 : True := trivial
theorem top_all.tw5628031671336560152 : True := trivial
theorem top_all.tw6385853813752140295 : True := trivial
theorem top_all.tw8965746794982419687 : True := trivial
theorem top_all.tw5286761486118436957 : True := trivial
theorem top_all.tw4186340296899361293 : True := trivial
set_option Elab.async true in
set_option maxRecDepth 100000 in
set_option maxHeartbeats 8000000 in
theorem top_all : PySem.Challenge.rw_nm0155_01.Holds := by
  w_on
  o_law
  o_head (kmHook hd.heap_1 [2, 3, 15, 17, 18, 20, 21, 22, 29, 31, 32, 34, 35, 36, 37, 38, 39, 42, 49, 50, 51, 54, 61, 62, 63, 66, 74, 75, 77, 78, 80, 81, 82, 83, 84, 85, 86, 89, 91, 92, 94, 95, 96, 98, 99, 101, 102, 103, 106, 107, 108, 110, 111, 113, 114, 115, 117, 118, 120, 121, 122, 125, 126, 127, 129, 130, 132, 133, 141, 143, 144, 146, 147, 148, 150, 151, 153, 154, 155, 157, 158, 160, 161, 162, 164, 165, 167, 168, 169, 171, 172, 174, 175, 176, 178, 179, 181, 182, 183, 185, 186, 188, 189, 190, 192, 193, 195, 196, 197, 199, 200, 202, 203, 204, 206, 207, 209, 210, 211, 213, 214, 216, 217, 218, 220, 221, 223, 224, 225, 227, 228, 230, 231, 232, 233, 234, 235, 236, 246, 248, 249, 251, 252, 253, 255, 256, 258, 259, 260, 262, 263, 265, 266, 267, 269, 270, 272, 273, 274, 276, 277, 279, 280, 281, 283, 284, 286, 287, 288, 290, 291, 293, 294, 295, 297, 298, 300, 301, 302, 304, 305, 307, 308, 309, 311, 312, 314, 315, 316, 318, 319, 321, 322, 323, 324, 325, 326, 327, 337, 339, 340, 342, 343, 344, 346, 347, 349, 350, 351, 353, 354, 356, 357, 358, 359, 360, 361, 362, 372, 374, 375, 377, 378, 379, 381, 382, 384, 385, 386, 388, 389, 391, 392, 393, 395, 396, 398, 399, 400, 402, 403, 405, 406, 407, 409, 410, 412, 413, 414, 416, 417, 419, 420, 421, 422, 423, 424, 425, 435, 436, 438, 439, 441, 442, 443, 445, 446, 448, 449, 450, 452, 453, 455, 456, 457, 459, 460, 462, 463, 464, 466, 467, 469, 470, 471, 473, 474, 476, 477, 478, 480, 481, 483, 484, 485, 487, 488, 490, 491, 492, 494, 495, 497, 498, 499, 501, 502, 504, 505, 506, 508, 509, 511, 512, 513, 515, 516, 518, 519, 520, 522, 523, 525, 526, 527, 529, 530, 532, 533, 534, 536, 537, 539, 540, 541, 543, 544, 546, 547, 548, 550, 551, 553, 554, 555, 556, 557, 558, 559, 569, 571, 572, 574, 575, 576, 578, 579, 581, 582, 583, 586, 587, 588, 590, 591, 593, 594, 595, 597, 598, 600, 601, 602, 604, 605, 607, 608, 609, 611, 612, 614, 615, 616, 618, 619, 621, 622, 623, 625, 626, 628, 629, 630, 632, 633, 635, 636, 637, 639, 640, 642, 643, 644, 646, 647, 649, 650, 651, 653, 654, 656, 657, 658, 660, 661, 663, 664, 665, 667, 668, 670, 671, 672, 673, 674, 675, 676, 679, 681, 682, 684, 685, 686, 688, 689, 691, 692, 693, 696, 697, 698, 700, 701, 703, 704, 705, 708, 709, 710, 712, 713, 715, 716, 717, 720, 721, 722, 724, 725, 727, 728, 729, 732, 733, 734, 736, 737, 739, 740] (fun _ => by kernel_rfl) [718, 711, 699, 694])
  (case hw => w_witness2)
  k_fill
  intro w s₀ s₁ mg mb G Y fa o pm cd doc dV kV ho hfd hcd hD hmg hg args vals as hpre hlay hrd hwl hlo
  have KX := km_in_of Y
  km_tabs Y
  have X := (Ground.X G).1
  have V := (Ground.X G).2
  refine Ground.open G ?_
  intro T B D TE TW
  try (refine guard_noD D (by decide +kernel) ?_; clear D)
  have h740 : fa = 740 := by have := mg_of (n := (Str.ofString "law")) (v := .ref 740) KX T.g (by k_is); exact Value.ref.inj (Option.some.inj (hmg.symm.trans this))
  km_lay T hmg ho hfd cd
  clear hmg
  wrow_args hpre hlay hrd hwl hlo
  subst h740
  refine enter_g ?_
  rename IntsAre _ _ => hI
  rename Heap.IsList _ _ _ => hL
  refine law_spec (n := 0) (b := gh s₁) (nw := []) (ns := []) (top_b KX hT9 T) ⟨_, _, ghost_list hT9 hL, hI, by omega⟩ (top_s hT9) top_a fun s' S => ?_
  refine ⟨.inl ⟨_, .bool true, [], rfl, raisesW_false (by wrow_none_raised), .bool _, postW_of (by wrow_shape) (by wtm_val) (by str_meet; first | done | w_fin), fun _ => ⟨.nil, fun _ h => absurd h List.not_mem_nil⟩⟩, top_k hT9 S, S.o, .of_eq (S.g.trans hg)⟩

end
end Mine
theorem PySem.Challenge.cw_nm0155_01_holds : PySem.Challenge.rw_nm0155_01.Holds := by
  exact Mine.top_all
