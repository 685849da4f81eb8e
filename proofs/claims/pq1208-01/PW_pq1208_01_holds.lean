import PyProof.Rows.All
import Wide.All
import OpenK.AllK
import Wide.FinOn
import PySem.Challenge.RW_pq1208_01
set_option Elab.async false
set_option compiler.extract_closed false
set_option genInjectivity false
set_option genSizeOf false
namespace Mine
local macro_rules | `(tactic| omega) => `(tactic| lia)
section -- G1
open PySem PySem.W PySem.Calls PyProof.Rows
/-- the claim's own caller, alone on the stack -/
abbrev atClaim : Ctx := ⟨.builtin "claim.caller" {}, none, none, [], none⟩

theorem ends_at {prog : Program} {w : World} {t : Sem Fin} {s : Shared} {R : Result → Shared → Prop} (hreg : s.asleep)
    (h : Sem.wp (model prog w) atClaim t (fun fin _ s' => ∃ f, fin = .done f ∧ (R (.ok f) s' ∧ leftWithCleanup s'.gens = false)) (fun e _ s' => R (.error e) s' ∧ leftWithCleanup s'.gens = false) default s) :
    ∃ n r s' s'', runN (denote table) prog w n s ⟨t, .builtin "claim.caller" {}, default, []⟩ = .halted (outcomeOf r) s' ∧
      schedN (denote table) prog w n (.single s ⟨t, .builtin "claim.caller" {}, default, []⟩) = .halted (outcomeOf r) s' ∧ s'.forget = s''.forget ∧ R r s'' := by
  obtain ⟨n, r, s₁, s₂, hs, hn, hfo, hR⟩ := wp_halts_full (M := model prog w) (R := R) hreg
    (Sem.wp_mono _ _ t (fun fin _ s' x => by obtain ⟨f, rfl, hf⟩ := x; exact hf) (fun _ _ _ x => x) _ _ h)
  exact ⟨n, r, s₂, s₁, hn, hs, hfo, hR⟩

theorem from_at {c : ClaimW} {tree : List Value → Sem Fin} {w : World} {s : Shared} {free : Addr → Prop} {gens : Prop} {kept : Heap → Prop} (hz : s.asleep) (hgens : s.gens = #[])
    (hspec : ∀ args, c.pre args = true → WData.layableAll args = true →
      ∀ ord : List DictEntry → List DictEntry, (∀ l, (ord l).Perm l) →
      ∃ vs s₁, layAllW c.records (classAt s.heap) w.params ord args s = some (vs, s₁) ∧
        Sem.wp (model c.prog w) atClaim (tree vs) (fun fin _ s' => ∃ f, fin = .done f ∧ (c.Ends s args vs s₁ (.ok f) s' ∧ s'.os = s.os ∧ AllBare s'.gens ∧ kept s'.heap))
          (fun e _ s' => c.Ends s args vs s₁ (.error e) s' ∧ s'.os = s.os ∧ AllBare s'.gens ∧ kept s'.heap) default s₁) :
    c.CallFrom (fun vs => ⟨tree vs, .builtin "claim.caller" {}, default, []⟩) w free gens kept s := by
  intro args hpre hlay ord hord
  obtain ⟨vs, s₁, hlaid, hcode⟩ := hspec args hpre hlay ord hord
  have hal := layAllW_rest _ _ _ hlaid
  obtain ⟨k, r, s', s'', hrun, hsched, hfo, hcase, hos, hkp⟩ := ends_at (prog := c.prog) (w := w) (t := tree vs) (s := s₁)
    (R := fun r s' => c.Ends s args vs s₁ r s' ∧ s'.os = s.os ∧ kept s'.heap)
    (Shared.asleep_of_life hal.2.2.2 hz)
    (Sem.wp_mono _ _ _ (by
      rintro fin _ s' ⟨f, e, h1, h2, h3, h4⟩
      exact ⟨f, e, ⟨h1, h2, h4⟩, leftWithCleanup_false_of_bare h3⟩) (by
      rintro e _ s' ⟨h1, h2, h3, h4⟩
      exact ⟨⟨h1, h2, h4⟩, leftWithCleanup_false_of_bare h3⟩) _ _ hcode)
  obtain ⟨eh, _, _, eo, _⟩ := Shared.forget_eq hfo
  have hcase := hcase.congr eh
  have hkp : kept s'.heap := by first | exact eh ▸ hkp | (rw [eh] at hkp; exact hkp) | (rw [← eh] at hkp; exact hkp)
  rw [← eo] at hos
  have hlife : s'.heap.life = s.heap.life := (runN_life _ _ _ hrun).trans hal.2.2.2
  refine ⟨vs, s₁, hlaid, k, _, s', hsched, ?_, (fun _ i x hx => by rw [hgens] at hx; simp at hx), hkp, by rw [hlife], Shared.rest_eq hos⟩
  rcases hcase with ⟨v, rfl, d1, d2, d3, d4, d5⟩ | ⟨e, ob, cls, rfl, d1, d2, d3, d4, d5⟩
  · exact .inl ⟨v, rfl, d1, d2, d3, fun b o y _ => d4 b o y, d5⟩
  · exact .inr ⟨e, ob, cls, rfl, d1, d2, d3, d4, fun b o y _ => d5 b o y⟩

theorem open_at {r : RowW} {tree : List Value → Sem Fin} {q : Program} {loose defs kps : List Str} {writes : Bool} {Xt : Shared → Bool} {XP : (Str → Option Value) → Heap → Prop} {α : Type} {Yf : Shared → α} {Ya : World → α} {YP : World → Heap → Prop} {N : Nat}
    (left : LeftO r.prog q loose Xt Yf Ya N) (hY : ∀ w s, Yf s = Ya w → YP w s.heap) (hYk : ∀ w h h', YP w h → (∀ b o, h.get? b = some o → h'.get? b = some o) → YP w h') (hX : ∀ s, Xt s = true → XP (s.heap.nsMap mainGlobals) s.heap) (hXk : ∀ mg h h', XP mg h → (∀ b o, h.get? b = some o → h'.get? b = some o) → XP mg h')
    (hRf : ∀ s, Xt s = true → RecFacts r.records s.heap) (hwr : (!writes || r.records.isEmpty) = true) (ok : (chainsOk q && opensWell r.prog && (frees r && r.within.isEmpty)) = true) (hb : r.prog.bare) (hw : r.promised)
    (ht : ∀ vs (w : World) (s : Shared) mg f (Q : Fin → Shared → Prop) (E : Value → Shared → Prop), s.heap.Ns mainGlobals mg → mg r.name = some f → (∀ p, Sem.wp (model r.prog w) atClaim (PySem.call f vs) (fun v _ s' => Q (.done (.ret v)) s') (fun e _ s' => E e s') p s) → Sem.wp (model r.prog w) atClaim (tree vs) (fun v _ s' => Q v s') (fun e _ s' => E e s') default s)
    (pin : ∀ w s, s.heap.isNs mainGlobals = true → Ground q loose [] XP w s (s.heap.nsMap mainGlobals) (s.heap.nsMap builtinsNs) s.heap → ∀ n ∈ defs, isTheDefsW r.prog s.heap n)
    (call : ∀ (w : World) (s₀ s₁ : Shared) (mg mb : Str → Option Value), Ground q loose r.records XP w s₀ mg mb s₁.heap → YP w s₁.heap → ∀ (args : List WData) (vs : List Value) (as : List Addr),
      r.claim.pre args = true → WData.layableAll args = true → Laid r.records w s₀ s₁ args vs as → sysModules < s₀.heap.objs.size → ∃ f, mg r.name = some f ∧
        ∀ p, Sem.wp (model r.prog w) atClaim (PySem.call f vs) (fun v _ s' => GoodWG r.claim (classAt s₀.heap) (ExcName.means s₀.heap) args s₁ (.ok (.ret v)) s')
          (fun e _ s' => GoodWG r.claim (classAt s₀.heap) (ExcName.means s₀.heap) args s₁ (.error e) s') p s₁) : r.claim.HoldsOpenBy (fun vs => ⟨tree vs, .builtin "claim.caller" {}, default, []⟩) defs kps writes := by
  obtain ⟨ok, k5⟩ := Bool.and_eq_true_iff.mp ok
  obtain ⟨hch, o1⟩ := Bool.and_eq_true_iff.mp ok
  obtain ⟨k5, k6⟩ := Bool.and_eq_true_iff.mp k5
  obtain ⟨hsame, hu, ha, hap, hm⟩ := frees_parts k5
  refine ⟨⟨hb, o1, by show r.makers.map _ = []; rw [hm]; rfl⟩, hw.witness, fun w => ⟨(left.behind hX hch w).1, fun s' hs' => ?_⟩⟩
  obtain ⟨s₀, hf, hg0, s, hT, hz, hgens, hg, G00, y⟩ := (left.behind (XP := fun mg h => XP mg h ∧ RecFacts r.records h) (fun s hs => ⟨hX s hs, hRf s hs⟩) hch w).2 s' hs'
  have G0 : Ground q loose [] XP w s (s.heap.nsMap mainGlobals) (s.heap.nsMap builtinsNs) s.heap := ⟨G00.T, G00.B, G00.D, G00.TE, G00.TD, G00.W, G00.X.1, G00.cls, G00.has, G00.apart, G00.once, G00.K⟩
  have RF := G00.X.2
  have hT' := hT
  refine ⟨s₀, hf, hg0, s, hT, pin w s hg G0, RF.1, RF.2.1, ?_⟩
  have hgens : s.gens = #[] := Array.eq_empty_of_size_eq_zero (beq_iff_eq.mp hgens)
  have G : Ground q loose r.records XP w s _ _ s.heap := RF.ground G0
  refine from_at (c := r.claim) hz hgens fun args hpre hlay ord hord => ?_
  obtain ⟨⟨vs, s₁⟩, hlaid⟩ := Option.isSome_iff_exists.mp (layAllW_isSome (P := w.params) (ord := ord) G.has args r.args s (pre_splitW hpre).1)
  have keeps := layAllW_keeps _ _ _ hlaid
  have hal := layAllW_rest _ _ _ hlaid
  obtain ⟨as, hrd, hin, hold⟩ := reads_layAllW hord _ _ _ hlaid hlay s₁.heap (fun _ _ e => e)
  have L : Laid r.records w s s₁ args vs as := ⟨⟨ord, hord, hlaid⟩, hrd, hin, hold, keeps, hal.1.trans hgens, hal.2.2.1⟩
  have G₁ := G.keeps hXk keeps
  obtain ⟨f, hf, h⟩ := call w s s₁ _ _ G₁ (hYk _ _ _ (hY w s y) keeps) args vs as hpre hlay L G.low
  have hi := ident_freeW hu ha hap
  have hwi : r.claim.within = [] := List.isEmpty_iff.mp k6
  exact ⟨vs, s₁, hlaid, ht vs w s₁ _ f _ _ G₁.T.g hf (fun p => Sem.wp_mono _ _ _ (fun v _ s' g => ⟨_, rfl, have z := g.laid (c := r.claim) hsame hwi hi L; ⟨z.1, z.2.1, z.2.2, fun q => ⟨namesKept_of hT' hg kps keeps g.2.1.old, noTable hwr q⟩⟩⟩) (fun e _ s' g => have z := g.laid (c := r.claim) hsame hwi hi L; ⟨z.1, z.2.1, z.2.2, fun q => ⟨namesKept_of hT' hg kps keeps g.2.1.old, noTable hwr q⟩⟩) _ _ (h p))⟩

/-- what is left to show of the call: under the claim's own caller -/
abbrev CallAt (q : Program) (loose : List Str) (XP : (Str → Option Value) → Heap → Prop) (YP : World → Heap → Prop) (r : RowW) (d : DefRec) (kwd : List (Str × Expr)) : Prop :=
  ∀ (w : World) (s₀ s₁ : Shared) (mg mb : Str → Option Value), Ground q loose r.records XP w s₀ mg mb s₁.heap → YP w s₁.heap → ∀ (a : Addr) (o : Obj) (pm cd doc dV kV : Value), s₁.heap.get? a = some o →
    o.data = .func { docDef d.name d.params d.body d.scope pm cd doc with defaults := dV, kwdefaults := kV } → s₁.heap.CodeRec cd d.name → Dflts mg s₁.heap d.params kwd dV kV → mg d.name = some (.ref a) → s₁.gens = #[] →
    ∀ (args : List WData) (vals : List Value) (as : List Addr), r.claim.pre args = true → WData.layableAll args = true → ReadsAllW r.records (classAt s₀.heap) s₁.heap vals args as → WellAll w.params s₁.heap vals args → (∀ a ∈ as, (a == sysModules) = false) →
      ∀ p, Sem.wp (model r.prog w) atClaim (PySem.call (.ref a) vals) (fun v _ s' => GoodWG r.claim (classAt s₀.heap) (ExcName.means s₀.heap) args s₁ (.ok (.ret v)) s')
        (fun e _ s' => GoodWG r.claim (classAt s₀.heap) (ExcName.means s₀.heap) args s₁ (.error e) s') p s₁
namespace Hd
theorem PySem.W.holds_open {r : OpenRow} {q : Program} {loose : List Str} {Xt : Shared → Bool} {XP : (Str → Option Value) → Heap → Prop} {α : Type} {Yf : Shared → α} {Ya : World → α} {YP : World → Heap → Prop} {d : DefRec} {kwd : List (Str × Expr)} {N : Nat}
    (left : LeftO r.prog q loose Xt Yf Ya N) (hY : ∀ w s, Yf s = Ya w → YP w s.heap) (hYk : ∀ w h h', YP w h → (∀ b o, h.get? b = some o → h'.get? b = some o) → YP w h')
    (hX : ∀ s, Xt s = true → XP (s.heap.nsMap mainGlobals) s.heap) (hXk : ∀ mg h h', XP mg h → (∀ b o, h.get? b = some o → h'.get? b = some o) → XP mg h')
    (hdef : defOf q r.name = some (d, kwd)) (hp : r.prog.theDef r.name = some (d.params, d.body, d.scope)) (hk : kwWritten? d.params.kwonlyargs d.params.kw_defaults = some kwd) (hRf : ∀ s, Xt s = true → RecFacts r.records s.heap) (hwr : (!r.writes || r.records.isEmpty) = true)
    (k1 : r.wellSaid = true) (ok : (chainsOk q && opensWell r.prog && (frees r.toRowW && r.within.isEmpty)) = true) (hb : r.prog.bare) (hw : r.toRowW.promised)
    (call : CallAt q loose XP YP r.toRowW d kwd) : r.Holds := by
  refine ⟨k1, hw, open_at (r := r.toRowW) (tree := fun vs => do match ← nsGet mainNs r.name with
      | some f => do ret (← PySem.call f vs)
      | none => unsupported "claim.caller:no-such-global") left hY hYk hX hXk hRf hwr ok hb hw
    (fun vs w s mg f Q E hg hf h => ?_)
    (fun w s hg G n hn => ?_) fun w s₀ s₁ mg mb G Y args vs as hpre hlay L low => ?_⟩
  · rw [Sem.wp_bind']
    refine (Sem.wp_nsGet _ _ _ _ _ hg r.name _).mpr ?_
    rw [hf]
    show Sem.wp _ _ (PySem.call f vs >>= fun v => ret v) _ _ _ _
    rw [Sem.wp_bind']
    exact h _
  · obtain rfl : n = r.name := by split at hn <;> simp_all
    exact pinned_of_view hg G hdef hp hk
  · obtain ⟨a, o, pm, cd, doc, dV, kV, h1, h2, h3, h4, h5⟩ := G.fn hdef
    exact ⟨.ref a, h1, call w s₀ s₁ mg mb G Y a o pm cd doc dV kV h2 h3 h4 h5 (defOf_name hdef ▸ h1) L.gens args vs as hpre hlay L.reads L.well (L.low low)⟩
end Hd
end
section -- HD
open PySem PySem.W PySem.Calls PyProof.Rows
set_option maxRecDepth 1000000
namespace Hd
def mkBT (os : List Obj) : Nat → Nat → Nat → BT
  | 0, _, _ => .nil
  | f + 1, a, b => match os[b]? with
    | some o => .node o (mkBT os f (2 * a) (a + b)) (mkBT os f (2 * a) (2 * a + b))
    | none => .nil
def topRunT (tb : String → Option Builtin) (p : Program) (w : World) (n₀ : Nat) (ann : Option Value) : Nat → SharedT → Thread → Option SharedT
  | 0, _, _ => none
  | n + 1, s, t => match through t with
    | true => some s
    | false => match stepOk n₀ ann t with
      | false => none
      | true => match stepT (denote tb) p w s t with
        | some (s', t') => topRunT tb p w n₀ ann n s' t'
        | none => none
theorem topRunT_spec {tb : String → Option Builtin} {p : Program} {w : World} {n₀ : Nat} {ann : Option Value} : ∀ (n : Nat) (s : SharedT) (t : Thread) (r : SharedT), topRunT tb p w n₀ ann n s t = some r → topRun tb p w n₀ ann n s.abs t = some r.abs
  | 0, _, _, _, h => by cases h
  | n + 1, s, t, r, h => by
    unfold topRunT at h
    unfold topRun
    cases ht : through t with
    | true => rw [ht] at h; cases h; rfl
    | false =>
      rw [ht] at h
      cases hk : stepOk n₀ ann t with
      | false => rw [hk] at h; cases h
      | true =>
        rw [hk] at h
        dsimp only at h ⊢
        cases hs : stepT (denote tb) p w s t with
        | none => rw [hs] at h; cases h
        | some x =>
          obtain ⟨s', t'⟩ := x
          rw [hs] at h
          rw [stepT_spec hs]
          exact topRunT_spec n s' t' r h
noncomputable def bt0 (P : Params) : BT := mkBT (boot_heap P).objs.toList 20 1 0
noncomputable def S0 (w : World) (os : OsState) : SharedT := ⟨bt0 w.params, 11, (boot_heap w.params).life, Array.mk [], boot_drawn, boot_toks, os⟩
theorem bt0_abs (P : Params) : absHeap (bt0 P) 11 (boot_heap P).life = boot_heap P := by kernel_rfl
theorem boot_size (P : Params) : ((boot_heap P).isNs mainGlobals && (Array.mk ([] : List GenState)).size == 0, (boot_heap P).objs.size, (boot_heap P).nsMap mainGlobals "__annotations__") = (true, 11, some (.ref 6)) := by kernel_rfl
theorem plain_open : opening PySem.Challenge.pw_pq1208_01 = plainProg PySem.Challenge.pw_pq1208_01.main.scope.names := rfl
theorem plain_fence (s : Shared) : fenceModules? PySem.Challenge.pw_pq1208_01 s = some s := rfl

def topGoT (tb : String → Option Builtin) (p : Program) (w : World) (n₀ : Nat) (ann : Option Value) : Nat → SharedT → Thread → Option (SharedT × Thread)
  | 0, s, t => some (s, t)
  | n + 1, s, t => match through t with
    | true => none
    | false => match stepOk n₀ ann t with
      | false => none
      | true => match stepT (denote tb) p w s t with
        | some (s', t') => topGoT tb p w n₀ ann n s' t'
        | none => none
/-! the head in pieces: the states behind the text's 12th and 22nd statement are written out (what K holds by K), so that no single check runs the whole text -/
theorem topGoT_spec {tb : String → Option Builtin} {p : Program} {w : World} {n₀ : Nat} {ann : Option Value} : ∀ (n : Nat) (s s' : SharedT) (t t' : Thread), topGoT tb p w n₀ ann n s t = some (s', t') → topGo tb p w n₀ ann n s.abs t = some (s'.abs, t')
  | 0, _, _, _, _, h => by cases h; rfl
  | n + 1, s, s', t, t', h => by
    unfold topGoT at h
    unfold topGo
    cases ht : through t with
    | true => rw [ht] at h; cases h
    | false =>
      rw [ht] at h
      cases hk : stepOk n₀ ann t with
      | false => rw [hk] at h; cases h
      | true =>
        rw [hk] at h
        dsimp only at h ⊢
        cases hs : stepT (denote tb) p w s t with
        | none => rw [hs] at h; cases h
        | some x =>
          obtain ⟨s₂, t₂⟩ := x
          rw [hs] at h
          rw [stepT_spec hs]
          exact topGoT_spec n s₂ s' t₂ t' h
noncomputable def vw : Program := view PySem.Challenge.pw_pq1208_01 [0, 2, 3, 4, 5, 7, 8, 9, 10, 11, 12, 14, 15, 16, 17, 18, 19, 20, 21, 22, 23, 24, 25, 27, 28, 29, 30, 31, 32, 33, 34]
local macro_rules | `(tactic| o_law) => `(tactic| refine holds_law (by decide +kernel) fun said => ?_)
section
local macro_rules | `(tactic| o_head $_H:term) => `(tactic| refine (fun (_ : RowW.promised (OpenRow.toRowW (OpenLaw.row PySem.Challenge.rw_pq1208_01))) x => x) ?hw ?hc)
open_top hd for PySem.Challenge.rw_pq1208_01
end
abbrev so := Str.ofString
abbrev de (P : Params) (s : String) (t : Nat) (v : Value) : DictEntry := ⟨PyData.keyHash P (Str.ofString s), .str (Str.ofString s) t, v⟩
noncomputable def kf : List (Addr × Obj) → Nat → Option Obj
  | [], _ => none
  | p :: r, a => match Nat.beq p.1 a with | true => some p.2 | false => kf r a
/-- a def's code ahead of the def -/
noncomputable def rawF (K : List (Addr × Obj)) (a : Nat) : Obj := match kf K a with
  | some ⟨_, _, .func f, _⟩ => { cls := .none, data := .func { name := f.name, qualname := f.qualname, params := f.params, body := f.body, scope := f.scope, globals := 0, closure := [], defaults := .none, kwdefaults := .none } }
  | _ => default
noncomputable def xo (P : Params) : List (Addr × Obj) := [(13, { cls := .type "code", data := .fields #[.str (so "<module>") 182, .str (so "<module>") 183, .str (so "/claim/cut.py") 184, .int 1 0, .int 0 0, .int 0 0, .int 0 0, .int 0 0, .ref 11, .bool false, .int 181 0, .ref 12, .none, .none, .none, .none, .int 185 0, .int 1 0, .str (so "/claim/cut.py") 186] }),
  (14, { cls := .type "frame", slots := #[some (.ref 13), some (.ref 3), some (.ref 3), none, some (.str (so "__main__") 164), none, some (.ref 0)] }),
  (23, { cls := .type "builtin_function_or_method", data := .fields #[.builtin "type.__prepare__", .type "type"] }),
  (24, { cls := .type "dict", data := .dict #[de P "__module__" 203 (.str (so "threepress.errors") 194), de P "__qualname__" 205 (.str (so "PressError") 204), de P "__firstlineno__" 207 (.int 5 206), de P "__init__" 216 (.ref 36), de P "__static_attributes__" 218 (.ref 37)] 5 }),
  (26, { cls := .none, data := .fields #[.int 7 0, .int 4 0, .ref 35] }),
  (27, { cls := .type "code", data := .fields #[.str (so "PressError") 198, .str (so "PressError") 199, .str (so "/claim/cut.py") 200, .int 5 0, .int 0 0, .int 0 0, .int 0 0, .int 0 0, .ref 25, .bool false, .int 181 0, .ref 26, .none, .none, .none, .none, .int 201 0, .int 5 0, .str (so "/claim/cut.py") 202] }),
  (28, { cls := .type "frame", slots := #[some (.ref 27), some (.ref 3), some (.ref 24), none, some (.str (so "threepress.errors") 194), none, some (.ref 0)] }),
  (41, { cls := .type "super", data := .fields #[.ref 39, .ref 39, .ref 39] }),
  (42, { cls := .type "builtin_function_or_method", data := .fields #[.builtin "object.__init_subclass__", .ref 39] }),
  (44, { cls := .type "builtin_function_or_method", data := .fields #[.builtin "type.__prepare__", .type "type"] }),
  (45, { cls := .type "dict", data := .dict #[de P "__module__" 231 (.str (so "threepress.errors") 194), de P "__qualname__" 233 (.str (so "CutShort") 232), de P "__firstlineno__" 235 (.int 10 234), de P "__static_attributes__" 236 (.ref 50)] 4 }),
  (48, { cls := .type "code", data := .fields #[.str (so "CutShort") 226, .str (so "CutShort") 227, .str (so "/claim/cut.py") 228, .int 10 0, .int 0 0, .int 0 0, .int 0 0, .int 0 0, .ref 46, .bool false, .int 181 0, .ref 47, .none, .none, .none, .none, .int 229 0, .int 10 0, .str (so "/claim/cut.py") 230] }),
  (49, { cls := .type "frame", slots := #[some (.ref 48), some (.ref 3), some (.ref 45), none, some (.str (so "threepress.errors") 194), none, some (.ref 0)] }),
  (53, { cls := .type "super", data := .fields #[.ref 52, .ref 52, .ref 52] }),
  (54, { cls := .type "builtin_function_or_method", data := .fields #[.builtin "object.__init_subclass__", .ref 52] }),
  (56, { cls := .type "builtin_function_or_method", data := .fields #[.builtin "type.__prepare__", .type "type"] }),
  (57, { cls := .type "dict", data := .dict #[de P "__module__" 247 (.str (so "threepress.errors") 194), de P "__qualname__" 249 (.str (so "BadTable") 248), de P "__firstlineno__" 251 (.int 12 250), de P "__static_attributes__" 252 (.ref 62)] 4 }),
  (60, { cls := .type "code", data := .fields #[.str (so "BadTable") 242, .str (so "BadTable") 243, .str (so "/claim/cut.py") 244, .int 12 0, .int 0 0, .int 0 0, .int 0 0, .int 0 0, .ref 58, .bool false, .int 181 0, .ref 59, .none, .none, .none, .none, .int 245 0, .int 12 0, .str (so "/claim/cut.py") 246] }),
  (61, { cls := .type "frame", slots := #[some (.ref 60), some (.ref 3), some (.ref 57), none, some (.str (so "threepress.errors") 194), none, some (.ref 0)] }),
  (65, { cls := .type "super", data := .fields #[.ref 64, .ref 64, .ref 64] }),
  (66, { cls := .type "builtin_function_or_method", data := .fields #[.builtin "object.__init_subclass__", .ref 64] }),
  (68, { cls := .type "builtin_function_or_method", data := .fields #[.builtin "type.__prepare__", .type "type"] }),
  (69, { cls := .type "dict", data := .dict #[de P "__module__" 263 (.str (so "threepress.errors") 194), de P "__qualname__" 265 (.str (so "BadArgument") 264), de P "__firstlineno__" 267 (.int 14 266), de P "__static_attributes__" 268 (.ref 74)] 4 }),
  (72, { cls := .type "code", data := .fields #[.str (so "BadArgument") 258, .str (so "BadArgument") 259, .str (so "/claim/cut.py") 260, .int 14 0, .int 0 0, .int 0 0, .int 0 0, .int 0 0, .ref 70, .bool false, .int 181 0, .ref 71, .none, .none, .none, .none, .int 261 0, .int 14 0, .str (so "/claim/cut.py") 262] }),
  (73, { cls := .type "frame", slots := #[some (.ref 72), some (.ref 3), some (.ref 69), none, some (.str (so "threepress.errors") 194), none, some (.ref 0)] }),
  (77, { cls := .type "super", data := .fields #[.ref 76, .ref 76, .ref 76] }),
  (78, { cls := .type "builtin_function_or_method", data := .fields #[.builtin "object.__init_subclass__", .ref 76] }),
  (101, { cls := .type "builtin_function_or_method", data := .fields #[.builtin "type.__prepare__", .type "type"] }),
  (102, { cls := .type "dict", data := .dict #[de P "__module__" 310 (.str (so "threepress.bits") 272), de P "__qualname__" 312 (.str (so "LowWriter") 311), de P "__firstlineno__" 314 (.int 32 313), de P "__init__" 321 (.ref 113), de P "bits" 330 (.ref 120), de P "bit" 338 (.ref 127), de P "code" 347 (.ref 134), de P "align" 354 (.ref 141), de P "octets" 362 (.ref 148), de P "size" 369 (.ref 155), de P "done" 377 (.ref 162), de P "__static_attributes__" 381 (.ref 163)] 12 }),
  (104, { cls := .none, data := .fields #[.int 34 0, .int 4 0, .ref 112, .int 39 0, .int 4 0, .ref 119, .int 48 0, .int 4 0, .ref 126, .int 51 0, .int 4 0, .ref 133, .int 54 0, .int 4 0, .ref 140, .int 58 0, .int 4 0, .ref 147, .int 62 0, .int 4 0, .ref 154, .int 65 0, .int 4 0, .ref 161] }),
  (105, { cls := .type "code", data := .fields #[.str (so "LowWriter") 305, .str (so "LowWriter") 306, .str (so "/claim/cut.py") 307, .int 32 0, .int 0 0, .int 0 0, .int 0 0, .int 0 0, .ref 103, .bool false, .int 181 0, .ref 104, .none, .none, .none, .none, .int 308 0, .int 32 0, .str (so "/claim/cut.py") 309] }),
  (106, { cls := .type "frame", slots := #[some (.ref 105), some (.ref 3), some (.ref 102), none, some (.str (so "threepress.bits") 272), none, some (.ref 0)] }),
  (168, { cls := .type "super", data := .fields #[.ref 165, .ref 165, .ref 165] }),
  (169, { cls := .type "builtin_function_or_method", data := .fields #[.builtin "object.__init_subclass__", .ref 165] }),
  (171, { cls := .type "builtin_function_or_method", data := .fields #[.builtin "type.__prepare__", .type "type"] }),
  (172, { cls := .type "dict", data := .dict #[de P "__module__" 396 (.str (so "threepress.bits") 272), de P "__qualname__" 398 (.str (so "BackReader") 397), de P "__firstlineno__" 400 (.int 68 399), de P "__init__" 408 (.ref 183), de P "left" 415 (.ref 190), de P "peek" 425 (.ref 197), de P "skip" 433 (.ref 204), de P "bits" 442 (.ref 211), de P "__static_attributes__" 445 (.ref 212)] 9 }),
  (174, { cls := .none, data := .fields #[.int 70 0, .int 4 0, .ref 182, .int 76 0, .int 4 0, .ref 189, .int 79 0, .int 4 0, .ref 196, .int 85 0, .int 4 0, .ref 203, .int 89 0, .int 4 0, .ref 210] }),
  (175, { cls := .type "code", data := .fields #[.str (so "BackReader") 391, .str (so "BackReader") 392, .str (so "/claim/cut.py") 393, .int 68 0, .int 0 0, .int 0 0, .int 0 0, .int 0 0, .ref 173, .bool false, .int 181 0, .ref 174, .none, .none, .none, .none, .int 394 0, .int 68 0, .str (so "/claim/cut.py") 395] }),
  (176, { cls := .type "frame", slots := #[some (.ref 175), some (.ref 3), some (.ref 172), none, some (.str (so "threepress.bits") 272), none, some (.ref 0)] }),
  (217, { cls := .type "super", data := .fields #[.ref 214, .ref 214, .ref 214] }),
  (218, { cls := .type "builtin_function_or_method", data := .fields #[.builtin "object.__init_subclass__", .ref 214] }),
  (220, { cls := .type "builtin_function_or_method", data := .fields #[.builtin "type.__prepare__", .type "type"] }),
  (221, { cls := .type "dict", data := .dict #[de P "__module__" 460 (.str (so "threepress.bits") 272), de P "__qualname__" 462 (.str (so "BackWriter") 461), de P "__firstlineno__" 464 (.int 96 463), de P "__init__" 471 (.ref 232), de P "bits" 480 (.ref 239), de P "size" 487 (.ref 246), de P "done" 495 (.ref 253), de P "__static_attributes__" 497 (.ref 254)] 8 }),
  (223, { cls := .none, data := .fields #[.int 98 0, .int 4 0, .ref 231, .int 101 0, .int 4 0, .ref 238, .int 104 0, .int 4 0, .ref 245, .int 107 0, .int 4 0, .ref 252] }),
  (224, { cls := .type "code", data := .fields #[.str (so "BackWriter") 455, .str (so "BackWriter") 456, .str (so "/claim/cut.py") 457, .int 96 0, .int 0 0, .int 0 0, .int 0 0, .int 0 0, .ref 222, .bool false, .int 181 0, .ref 223, .none, .none, .none, .none, .int 458 0, .int 96 0, .str (so "/claim/cut.py") 459] }),
  (225, { cls := .type "frame", slots := #[some (.ref 224), some (.ref 3), some (.ref 221), none, some (.str (so "threepress.bits") 272), none, some (.ref 0)] }),
  (259, { cls := .type "super", data := .fields #[.ref 256, .ref 256, .ref 256] }),
  (260, { cls := .type "builtin_function_or_method", data := .fields #[.builtin "object.__init_subclass__", .ref 256] }),
  (286, { cls := .type "builtin_function_or_method", data := .fields #[.builtin "type.__prepare__", .type "type"] }),
  (287, { cls := .type "dict", data := .dict #[de P "__module__" 544 (.str (so "threepress.fse") 505), de P "__qualname__" 546 (.str (so "FseTable") 545), de P "__firstlineno__" 548 (.int 146 547), de P "__init__" 554 (.ref 296), de P "has" 562 (.ref 303), de P "first_state" 570 (.ref 310), de P "ahead" 582 (.ref 317), de P "__static_attributes__" 590 (.ref 318)] 8 }),
  (289, { cls := .none, data := .fields #[.int 148 0, .int 4 0, .ref 295, .int 162 0, .int 4 0, .ref 302, .int 165 0, .int 4 0, .ref 309, .int 168 0, .int 4 0, .ref 316] }),
  (290, { cls := .type "code", data := .fields #[.str (so "FseTable") 539, .str (so "FseTable") 540, .str (so "/claim/cut.py") 541, .int 146 0, .int 0 0, .int 0 0, .int 0 0, .int 0 0, .ref 288, .bool false, .int 181 0, .ref 289, .none, .none, .none, .none, .int 542 0, .int 146 0, .str (so "/claim/cut.py") 543] }),
  (291, { cls := .type "frame", slots := #[some (.ref 290), some (.ref 3), some (.ref 287), none, some (.str (so "threepress.fse") 505), none, some (.ref 0)] }),
  (323, { cls := .type "super", data := .fields #[.ref 320, .ref 320, .ref 320] }),
  (324, { cls := .type "builtin_function_or_method", data := .fields #[.builtin "object.__init_subclass__", .ref 320] }),
  (326, { cls := .type "builtin_function_or_method", data := .fields #[.builtin "type.__prepare__", .type "type"] }),
  (327, { cls := .type "dict", data := .dict #[de P "__module__" 605 (.str (so "threepress.fse") 505), de P "__qualname__" 607 (.str (so "FseReader") 606), de P "__firstlineno__" 609 (.int 173 608), de P "__init__" 617 (.ref 338), de P "start" 625 (.ref 345), de P "symbol" 632 (.ref 352), de P "needs" 639 (.ref 359), de P "step" 647 (.ref 366), de P "__static_attributes__" 650 (.ref 367)] 9 }),
  (329, { cls := .none, data := .fields #[.int 175 0, .int 4 0, .ref 337, .int 178 0, .int 4 0, .ref 344, .int 181 0, .int 4 0, .ref 351, .int 184 0, .int 4 0, .ref 358, .int 187 0, .int 4 0, .ref 365] }),
  (330, { cls := .type "code", data := .fields #[.str (so "FseReader") 600, .str (so "FseReader") 601, .str (so "/claim/cut.py") 602, .int 173 0, .int 0 0, .int 0 0, .int 0 0, .int 0 0, .ref 328, .bool false, .int 181 0, .ref 329, .none, .none, .none, .none, .int 603 0, .int 173 0, .str (so "/claim/cut.py") 604] }),
  (331, { cls := .type "frame", slots := #[some (.ref 330), some (.ref 3), some (.ref 327), none, some (.str (so "threepress.fse") 505), none, some (.ref 0)] }),
  (372, { cls := .type "super", data := .fields #[.ref 369, .ref 369, .ref 369] }),
  (373, { cls := .type "builtin_function_or_method", data := .fields #[.builtin "object.__init_subclass__", .ref 369] })]
noncomputable def c3_1 (P : Params) : Obj := { cls := .type "dict", data := .dict #[de P "__name__" 165 (.str (so "threepress.bits") 272), de P "__doc__" 166 (.none), de P "__package__" 167 (.none), de P "__loader__" 168 (.builtin "__main__.__loader__#opaque"), de P "__spec__" 169 (.none), de P "__annotations__" 170 (.ref 6), de P "__builtins__" 171 (.ref 4), de P "__file__" 173 (.str (so "/claim/cut.py") 172), de P "__cached__" 174 (.none), de P "_wall" 193 (.ref 21), de P "PressError" 223 (.ref 39), de P "CutShort" 239 (.ref 52), de P "BadTable" 255 (.ref 64), de P "BadArgument" 271 (.ref 76), de P "need_count" 280 (.ref 85), de P "need_value" 288 (.ref 92), de P "gathered" 302 (.ref 99), de P "LowWriter" 388 (.ref 165), de P "BackReader" 452 (.ref 214)] 19 }
noncomputable def c12_1 (P : Params) : Obj := { cls := .none, data := .fields #[.int 1 0, .int 0 0, .ref 20, .int 5 0, .int 0 0, .ref 27, .int 10 0, .int 0 0, .ref 48, .int 12 0, .int 0 0, .ref 60, .int 14 0, .int 0 0, .ref 72, .int 17 0, .int 0 0, .ref 84, .int 20 0, .int 0 0, .ref 91, .int 24 0, .int 0 0, .ref 98, .int 32 0, .int 0 0, .ref 105, .int 68 0, .int 0 0, .ref 175] }
noncomputable def c3_2 (P : Params) : Obj := { cls := .type "dict", data := .dict #[de P "__name__" 165 (.str (so "threepress.fse") 505), de P "__doc__" 166 (.none), de P "__package__" 167 (.none), de P "__loader__" 168 (.builtin "__main__.__loader__#opaque"), de P "__spec__" 169 (.none), de P "__annotations__" 170 (.ref 6), de P "__builtins__" 171 (.ref 4), de P "__file__" 173 (.str (so "/claim/cut.py") 172), de P "__cached__" 174 (.none), de P "_wall" 193 (.ref 21), de P "PressError" 223 (.ref 39), de P "CutShort" 239 (.ref 52), de P "BadTable" 255 (.ref 64), de P "BadArgument" 271 (.ref 76), de P "need_count" 280 (.ref 85), de P "need_value" 288 (.ref 92), de P "gathered" 302 (.ref 99), de P "LowWriter" 388 (.ref 165), de P "BackReader" 452 (.ref 214), de P "BackWriter" 504 (.ref 256), de P "LEAST_LOG" 508 (.int 5 507), de P "MOST_LOG" 510 (.int 20 509), de P "places_of" 517 (.ref 267), de P "high_bit" 524 (.ref 274), de P "counts_fault" 530 (.ref 279), de P "spread" 536 (.ref 284), de P "FseTable" 597 (.ref 320), de P "FseReader" 657 (.ref 369)] 28 }
noncomputable def c12_2 (P : Params) : Obj := { cls := .none, data := .fields #[.int 1 0, .int 0 0, .ref 20, .int 5 0, .int 0 0, .ref 27, .int 10 0, .int 0 0, .ref 48, .int 12 0, .int 0 0, .ref 60, .int 14 0, .int 0 0, .ref 72, .int 17 0, .int 0 0, .ref 84, .int 20 0, .int 0 0, .ref 91, .int 24 0, .int 0 0, .ref 98, .int 32 0, .int 0 0, .ref 105, .int 68 0, .int 0 0, .ref 175, .int 96 0, .int 0 0, .ref 224, .int 116 0, .int 0 0, .ref 266, .int 118 0, .int 0 0, .ref 273, .int 120 0, .int 0 0, .ref 278, .int 128 0, .int 0 0, .ref 283, .int 146 0, .int 0 0, .ref 290, .int 173 0, .int 0 0, .ref 330] }
noncomputable def kO (P : Params) (a : Nat) : Obj := (kf (hd.heap_1 P) a).getD default
noncomputable def xO (P : Params) (a : Nat) : Obj := (kf (xo P) a).getD default
noncomputable def tr1 (P : Params) : BT := (fun (n : Obj → BT → BT → BT) (k x f : Nat → Obj) => (n (boot_o_0 P) (n (boot_o_1 P) (n (c3_1 P) (n (boot_o_7 P) (n (k 15) (n ({ cls := .none, data := .fields #[] }) (n (k 63) (n (k 127) .nil .nil) (n (k 191) .nil .nil)) (n (k 95) (n (k 159) .nil .nil) .nil)) (n ({ cls := .none, data := .fields #[] }) (n (k 79) (n ({ cls := .none, data := .fields #[] }) .nil .nil) (n (k 207) .nil .nil)) (n (f 113) (n (x 175) .nil .nil) .nil))) (n (x 23) (n (k 39) (n ({ cls := .none, data := .fields #[] }) (n (k 135) .nil .nil) (n ({ cls := .none, data := .fields #[] }) .nil .nil)) (n ({ cls := .type "tuple", data := .seq #[] }) (n (k 167) .nil .nil) .nil)) (n (k 55) (n ({ cls := .none, data := .fields #[] }) (n (k 151) .nil .nil) (n (k 215) .nil .nil)) (n (k 119) (n (k 183) .nil .nil) .nil)))) (n ({ cls := .type "tuple", data := .seq #[] }) (n (f 21) (n (k 35) (n (k 67) (n (k 131) .nil .nil) (n (f 197) .nil .nil)) (n (k 99) (n (k 163) .nil .nil) .nil)) (n (k 51) (n (f 85) (n (k 147) .nil .nil) (n (k 211) .nil .nil)) (n ({ cls := .none, data := .fields #[] }) (n (k 179) .nil .nil) .nil))) (n (x 27) (n (k 43) (n (k 75) (n (f 141) .nil .nil) (n (k 203) .nil .nil)) (n (k 107) (n (x 171) .nil .nil) .nil)) (n ({ cls := .none, data := .fields #[] }) (n (k 91) (n (k 155) .nil .nil) .nil) (n (k 123) (n (k 187) .nil .nil) .nil))))) (n (boot_o_5 P) (n (boot_o_9 P) (n (k 17) (n (k 33) (n (x 65) (n ({ cls := .none, data := .fields #[] }) .nil .nil) (n (k 193) .nil .nil)) (n (f 99) (n (k 161) .nil .nil) .nil)) (n (x 49) (n (k 81) (n (k 145) .nil .nil) (n (f 211) .nil .nil)) (n (k 113) (n (k 177) .nil .nil) .nil))) (n ({ cls := .type "tuple", data := .seq #[] }) (n (x 41) (n (x 73) (n (k 137) .nil .nil) (n (k 201) .nil .nil)) (n (x 105) (n (x 169) .nil .nil) .nil)) (n (x 57) (n (k 89) (n (f 155) .nil .nil) (n (x 217) .nil .nil)) (n (k 121) (n ({ cls := .none, data := .fields #[] }) .nil .nil) .nil)))) (n (x 13) (n (k 21) (n (k 37) (n (x 69) (n (k 133) .nil .nil) (n (k 197) .nil .nil)) (n (x 101) (n (k 165) .nil .nil) .nil)) (n (x 53) (n (k 85) (n (k 149) .nil .nil) (n (k 213) .nil .nil)) (n (k 117) (n (f 183) .nil .nil) .nil))) (n (k 29) (n (x 45) (n (x 77) (n (k 141) .nil .nil) (n (k 205) .nil .nil)) (n (k 109) (n ({ cls := .type "tuple", data := .seq #[] }) .nil .nil) .nil)) (n (x 61) (n (k 93) (n ({ cls := .none, data := .fields #[] }) .nil .nil) .nil) (n (f 127) (n (k 189) .nil .nil) .nil)))))) (n (k 2) (n (boot_o_4 P) (n (boot_o_8 P) (n ({ cls := .none, data := .fields #[] }) (n (k 32) (n (k 64) (n (k 128) .nil .nil) (n ({ cls := .none, data := .fields #[] }) .nil .nil)) (n (k 96) (n (f 162) .nil .nil) .nil)) (n (x 48) (n ({ cls := .none, data := .fields #[] }) (n (k 144) .nil .nil) (n (k 208) .nil .nil)) (n (k 112) (n (x 176) .nil .nil) .nil))) (n (x 24) (n (k 40) (n (x 72) (n ({ cls := .none, data := .fields #[] }) .nil .nil) (n (k 200) .nil .nil)) (n (x 104) (n (x 168) .nil .nil) .nil)) (n (x 56) (n (k 88) (n (k 152) .nil .nil) (n (k 216) .nil .nil)) (n (k 120) (n (k 184) .nil .nil) .nil)))) (n (c12_1 P) (n (k 20) (n (k 36) (n (x 68) (n (f 134) .nil .nil) (n (k 196) .nil .nil)) (n ({ cls := .type "tuple", data := .seq #[] }) (n (k 164) .nil .nil) .nil)) (n (k 52) (n (k 84) (n (k 148) .nil .nil) (n (k 212) .nil .nil)) (n (k 116) (n (k 180) .nil .nil) .nil))) (n (x 28) (n (x 44) (n (k 76) (n (k 140) .nil .nil) (n (k 204) .nil .nil)) (n ({ cls := .none, data := .fields #[] }) (n (x 172) .nil .nil) .nil)) (n (x 60) (n (k 92) (n (k 156) .nil .nil) .nil) (n (k 124) (n (f 190) .nil .nil) .nil))))) (n (boot_o_6 P) (n (boot_o_10 P) (n (k 18) (n (f 36) (n (x 66) (n (k 130) .nil .nil) (n (k 194) .nil .nil)) (n (k 98) (n (k 162) .nil .nil) .nil)) (n (k 50) (n (k 82) (n (f 148) .nil .nil) (n (k 210) .nil .nil)) (n (k 114) (n ({ cls := .none, data := .fields #[] }) .nil .nil) .nil))) (n (x 26) (n (x 42) (n (k 74) (n (k 138) .nil .nil) (n (f 204) .nil .nil)) (n (x 106) (n ({ cls := .type "tuple", data := .seq #[] }) .nil .nil) .nil)) (n ({ cls := .type "tuple", data := .seq #[] }) (n (f 92) (n (k 154) .nil .nil) (n (x 218) .nil .nil)) (n ({ cls := .none, data := .fields #[] }) (n (k 186) .nil .nil) .nil)))) (n (x 14) (n (k 22) (n (k 38) (n ({ cls := .type "tuple", data := .seq #[] }) (n (k 134) .nil .nil) (n (k 198) .nil .nil)) (n (x 102) (n (k 166) .nil .nil) .nil)) (n (x 54) (n (k 86) (n ({ cls := .none, data := .fields #[] }) .nil .nil) (n (k 214) .nil .nil)) (n (f 120) (n (k 182) .nil .nil) .nil))) (n (k 30) (n ({ cls := .type "tuple", data := .seq #[] }) (n (x 78) (n (k 142) .nil .nil) (n ({ cls := .none, data := .fields #[] }) .nil .nil)) (n (k 110) (n (x 174) .nil .nil) .nil)) (n (k 62) (n ({ cls := .none, data := .fields #[] }) (n (k 158) .nil .nil) .nil) (n (k 126) (n (k 190) .nil .nil) .nil)))))))) BT.node (kO P) (xO P) (rawF (hd.heap_1 P))
noncomputable def tr2 (P : Params) : BT := (fun (n : Obj → BT → BT → BT) (k x f : Nat → Obj) => (n (boot_o_0 P) (n (boot_o_1 P) (n (c3_2 P) (n (boot_o_7 P) (n (k 15) (n ({ cls := .none, data := .fields #[] }) (n (k 63) (n (k 127) (n (k 255) .nil .nil) .nil) (n (k 191) (n (k 319) .nil .nil) .nil)) (n (k 95) (n (k 159) (n (x 287) .nil .nil) .nil) (n (x 223) (n (k 351) .nil .nil) .nil))) (n ({ cls := .none, data := .fields #[] }) (n (k 79) (n ({ cls := .none, data := .fields #[] }) (n (k 271) .nil .nil) .nil) (n (k 207) (n (k 335) .nil .nil) .nil)) (n (f 113) (n (x 175) (n (k 303) .nil .nil) .nil) (n (k 239) (n (k 367) .nil .nil) .nil)))) (n (x 23) (n (k 39) (n ({ cls := .none, data := .fields #[] }) (n (k 135) (n (k 263) .nil .nil) .nil) (n ({ cls := .none, data := .fields #[] }) (n (x 327) .nil .nil) .nil)) (n ({ cls := .type "tuple", data := .seq #[] }) (n (k 167) (n (k 295) .nil .nil) .nil) (n (k 231) (n (k 359) .nil .nil) .nil))) (n (k 55) (n ({ cls := .none, data := .fields #[] }) (n (k 151) (n (k 279) .nil .nil) .nil) (n (k 215) (n (f 345) .nil .nil) .nil)) (n (k 119) (n (k 183) (n (k 311) .nil .nil) .nil) (n (k 247) .nil .nil))))) (n ({ cls := .type "tuple", data := .seq #[] }) (n (f 21) (n (k 35) (n (k 67) (n (k 131) (n (x 259) .nil .nil) .nil) (n (f 197) (n (x 323) .nil .nil) .nil)) (n (k 99) (n (k 163) (n (x 291) .nil .nil) .nil) (n ({ cls := .none, data := .fields #[] }) (n (k 355) .nil .nil) .nil))) (n (k 51) (n (f 85) (n (k 147) (n (k 275) .nil .nil) .nil) (n (k 211) (n (k 339) .nil .nil) .nil)) (n ({ cls := .none, data := .fields #[] }) (n (k 179) (n (k 307) .nil .nil) .nil) (n (k 243) (n (k 371) .nil .nil) .nil)))) (n (x 27) (n (k 43) (n (k 75) (n (f 141) (n (k 267) .nil .nil) .nil) (n (k 203) (n (x 331) .nil .nil) .nil)) (n (k 107) (n (x 171) (n (k 299) .nil .nil) .nil) (n (k 235) (n (k 363) .nil .nil) .nil))) (n ({ cls := .none, data := .fields #[] }) (n (k 91) (n (k 155) (n (k 283) .nil .nil) .nil) (n ({ cls := .type "tuple", data := .seq #[] }) (n ({ cls := .none, data := .fields #[] }) .nil .nil) .nil)) (n (k 123) (n (k 187) (n (f 317) .nil .nil) .nil) (n (f 253) .nil .nil)))))) (n (boot_o_5 P) (n (boot_o_9 P) (n (k 17) (n (k 33) (n (x 65) (n ({ cls := .none, data := .fields #[] }) (n (k 257) .nil .nil) .nil) (n (k 193) (n (k 321) .nil .nil) .nil)) (n (f 99) (n (k 161) (n (x 289) .nil .nil) .nil) (n (x 225) (n (k 353) .nil .nil) .nil))) (n (x 49) (n (k 81) (n (k 145) (n (k 273) .nil .nil) .nil) (n (f 211) (n (k 337) .nil .nil) .nil)) (n (k 113) (n (k 177) (n ({ cls := .none, data := .fields #[] }) .nil .nil) .nil) (n ({ cls := .none, data := .fields #[] }) (n (k 369) .nil .nil) .nil)))) (n ({ cls := .type "tuple", data := .seq #[] }) (n (x 41) (n (x 73) (n (k 137) (n (f 267) .nil .nil) .nil) (n (k 201) (n (x 329) .nil .nil) .nil)) (n (x 105) (n (x 169) (n (k 297) .nil .nil) .nil) (n (k 233) (n ({ cls := .none, data := .fields #[] }) .nil .nil) .nil))) (n (x 57) (n (k 89) (n (f 155) (n ({ cls := .none, data := .fields #[] }) .nil .nil) .nil) (n (x 217) (n (k 345) .nil .nil) .nil)) (n (k 121) (n ({ cls := .none, data := .fields #[] }) (n (k 313) .nil .nil) .nil) (n (k 249) .nil .nil))))) (n (x 13) (n (k 21) (n (k 37) (n (x 69) (n (k 133) (n (k 261) .nil .nil) .nil) (n (k 197) (n ({ cls := .type "tuple", data := .seq #[] }) .nil .nil) .nil)) (n (x 101) (n (k 165) (n ({ cls := .none, data := .fields #[] }) .nil .nil) .nil) (n (k 229) (n (f 359) .nil .nil) .nil))) (n (x 53) (n (k 85) (n (k 149) (n (f 279) .nil .nil) .nil) (n (k 213) (n (k 341) .nil .nil) .nil)) (n (k 117) (n (f 183) (n (k 309) .nil .nil) .nil) (n (k 245) (n (x 373) .nil .nil) .nil)))) (n (k 29) (n (x 45) (n (x 77) (n (k 141) (n ({ cls := .none, data := .fields #[] }) .nil .nil) .nil) (n (k 205) (n ({ cls := .none, data := .fields #[] }) .nil .nil) .nil)) (n (k 109) (n ({ cls := .type "tuple", data := .seq #[] }) (n (f 303) .nil .nil) .nil) (n (f 239) (n (k 365) .nil .nil) .nil))) (n (x 61) (n (k 93) (n ({ cls := .none, data := .fields #[] }) (n ({ cls := .type "tuple", data := .seq #[] }) .nil .nil) .nil) (n (x 221) (n (k 349) .nil .nil) .nil)) (n (f 127) (n (k 189) (n (k 317) .nil .nil) .nil) (n (k 253) .nil .nil))))))) (n (k 2) (n (boot_o_4 P) (n (boot_o_8 P) (n ({ cls := .none, data := .fields #[] }) (n (k 32) (n (k 64) (n (k 128) (n (k 256) .nil .nil) .nil) (n ({ cls := .none, data := .fields #[] }) (n (k 320) .nil .nil) .nil)) (n (k 96) (n (f 162) (n ({ cls := .type "tuple", data := .seq #[] }) .nil .nil) .nil) (n (x 224) (n (k 352) .nil .nil) .nil))) (n (x 48) (n ({ cls := .none, data := .fields #[] }) (n (k 144) (n (f 274) .nil .nil) .nil) (n (k 208) (n (f 338) .nil .nil) .nil)) (n (k 112) (n (x 176) (n (k 304) .nil .nil) .nil) (n (k 240) (n (k 368) .nil .nil) .nil)))) (n (x 24) (n (k 40) (n (x 72) (n ({ cls := .none, data := .fields #[] }) (n (k 264) .nil .nil) .nil) (n (k 200) (n ({ cls := .type "tuple", data := .seq #[] }) .nil .nil) .nil)) (n (x 104) (n (x 168) (n (k 296) .nil .nil) .nil) (n (k 232) (n (k 360) .nil .nil) .nil))) (n (x 56) (n (k 88) (n (k 152) (n (k 280) .nil .nil) .nil) (n (k 216) (n (k 344) .nil .nil) .nil)) (n (k 120) (n (k 184) (n ({ cls := .none, data := .fields #[] }) .nil .nil) .nil) (n ({ cls := .none, data := .fields #[] }) .nil .nil))))) (n (c12_2 P) (n (k 20) (n (k 36) (n (x 68) (n (f 134) (n (x 260) .nil .nil) .nil) (n (k 196) (n (x 324) .nil .nil) .nil)) (n ({ cls := .type "tuple", data := .seq #[] }) (n (k 164) (n (k 292) .nil .nil) .nil) (n (k 228) (n (k 356) .nil .nil) .nil))) (n (k 52) (n (k 84) (n (k 148) (n ({ cls := .none, data := .fields #[] }) .nil .nil) .nil) (n (k 212) (n ({ cls := .none, data := .fields #[] }) .nil .nil) .nil)) (n (k 116) (n (k 180) (n (f 310) .nil .nil) .nil) (n (f 246) (n (x 372) .nil .nil) .nil)))) (n (x 28) (n (x 44) (n (k 76) (n (k 140) (n (k 268) .nil .nil) .nil) (n (k 204) (n (k 332) .nil .nil) .nil)) (n ({ cls := .none, data := .fields #[] }) (n (x 172) (n (k 300) .nil .nil) .nil) (n (k 236) (n (f 366) .nil .nil) .nil))) (n (x 60) (n (k 92) (n (k 156) (n (k 284) .nil .nil) .nil) (n (x 220) (n (k 348) .nil .nil) .nil)) (n (k 124) (n (f 190) (n (k 316) .nil .nil) .nil) (n (k 252) .nil .nil)))))) (n (boot_o_6 P) (n (boot_o_10 P) (n (k 18) (n (f 36) (n (x 66) (n (k 130) (n (k 258) .nil .nil) .nil) (n (k 194) (n (k 322) .nil .nil) .nil)) (n (k 98) (n (k 162) (n (x 290) .nil .nil) .nil) (n (k 226) (n ({ cls := .none, data := .fields #[] }) .nil .nil) .nil))) (n (k 50) (n (k 82) (n (f 148) (n (k 274) .nil .nil) .nil) (n (k 210) (n (k 338) .nil .nil) .nil)) (n (k 114) (n ({ cls := .none, data := .fields #[] }) (n (k 306) .nil .nil) .nil) (n (k 242) (n (k 370) .nil .nil) .nil)))) (n (x 26) (n (x 42) (n (k 74) (n (k 138) (n (k 266) .nil .nil) .nil) (n (f 204) (n (x 330) .nil .nil) .nil)) (n (x 106) (n ({ cls := .type "tuple", data := .seq #[] }) (n ({ cls := .none, data := .fields #[] }) .nil .nil) .nil) (n ({ cls := .none, data := .fields #[] }) (n (k 362) .nil .nil) .nil))) (n ({ cls := .type "tuple", data := .seq #[] }) (n (f 92) (n (k 154) (n (f 284) .nil .nil) .nil) (n (x 218) (n (k 346) .nil .nil) .nil)) (n ({ cls := .none, data := .fields #[] }) (n (k 186) (n (k 314) .nil .nil) .nil) (n (k 250) .nil .nil))))) (n (x 14) (n (k 22) (n (k 38) (n ({ cls := .type "tuple", data := .seq #[] }) (n (k 134) (n ({ cls := .none, data := .fields #[] }) .nil .nil) .nil) (n (k 198) (n (x 326) .nil .nil) .nil)) (n (x 102) (n (k 166) (n (f 296) .nil .nil) .nil) (n (f 232) (n (k 358) .nil .nil) .nil))) (n (x 54) (n (k 86) (n ({ cls := .none, data := .fields #[] }) (n (k 278) .nil .nil) .nil) (n (k 214) (n (k 342) .nil .nil) .nil)) (n (f 120) (n (k 182) (n (k 310) .nil .nil) .nil) (n (k 246) .nil .nil)))) (n (k 30) (n ({ cls := .type "tuple", data := .seq #[] }) (n (x 78) (n (k 142) (n (k 270) .nil .nil) .nil) (n ({ cls := .none, data := .fields #[] }) (n (k 334) .nil .nil) .nil)) (n (k 110) (n (x 174) (n (k 302) .nil .nil) .nil) (n (k 238) (n (k 366) .nil .nil) .nil))) (n (k 62) (n ({ cls := .none, data := .fields #[] }) (n (k 158) (n (x 286) .nil .nil) .nil) (n ({ cls := .type "tuple", data := .seq #[] }) (n (f 352) .nil .nil) .nil)) (n (k 126) (n (k 190) (n (k 318) .nil .nil) .nil) (n (k 254) .nil .nil))))))))) BT.node (kO P) (xO P) (rawF (hd.heap_1 P))
noncomputable def preT (P : Params) : List Obj := [boot_o_0 P,
  boot_o_1 P,
  boot_o_2 P,
  boot_o_3 P,
  boot_o_4 P,
  boot_o_5 P,
  boot_o_6 P,
  boot_o_7 P,
  boot_o_8 P,
  boot_o_9 P,
  boot_o_10 P,
  { cls := .type "tuple", data := .seq #[] },
  { cls := .none, data := .fields #[] },
  { cls := .type "code", data := .fields #[.str (so "<module>") 182, .str (so "<module>") 183, .str (so "/claim/cut.py") 184, .int 1 0, .int 0 0, .int 0 0, .int 0 0, .int 0 0, .ref 11, .bool false, .int 181 0, .ref 12, .none, .none, .none, .none, .int 185 0, .int 1 0, .str (so "/claim/cut.py") 186] },
  { cls := .type "frame", slots := #[some (.ref 13), some (.ref 3), some (.ref 3), none, some (.str (so "__main__") 164), none, some (.ref 0)] }]
noncomputable def Sa (w : World) (os : OsState) : SharedT := ⟨mkBT (preT w.params) 20 1 0, 15, (boot_heap w.params).life, Array.mk [], boot_drawn, 187, os⟩
noncomputable def S1 (w : World) (os : OsState) : SharedT := ⟨tr1 w.params, 219, (boot_heap w.params).life, Array.mk [], boot_drawn, 453, os⟩
noncomputable def S2 (w : World) (os : OsState) : SharedT := ⟨tr2 w.params, 374, (boot_heap w.params).life, Array.mk [], boot_drawn, 658, os⟩
noncomputable def p0 : Pos := ⟨0, 0, 0, 0⟩
noncomputable def p1 : Pos := ⟨68, 0, 95, 20⟩
noncomputable def p2 : Pos := ⟨173, 0, 188, 75⟩
noncomputable def bE : List Stmt := behindTheImports PySem.Challenge.pw_pq1208_01
noncomputable def evE : Env := { scope := PySem.Challenge.pw_pq1208_01.main.scope, locals := mainNs, globals := mainNs, cells := [], code := .ref 13, frame := some 14 }
noncomputable def cE : Code := .body bE evE
theorem pc_pre : ∀ (w : World) (os : OsState), topGoT treeTable PySem.Challenge.pw_pq1208_01 w 11 (some (.ref 6)) 12 (S0 w os) (topStub PySem.Challenge.pw_pq1208_01) = some (Sa w os, ⟨denote treeTable (.body bE evE), cE, p0, [topFrame p0]⟩) := fun w os => by kernel_rfl
theorem pc_block : ∀ (w : World) (os : OsState), segRunT treeTable PySem.Challenge.pw_pq1208_01 w 11 (some (.ref 6)) 1 1 (Sa w os) (blockOf bE evE cE p0 [topFrame p0]) = some (.next, Sa w os, cE, p0) := fun w os => by kernel_rfl
theorem pc_1 : ∀ (w : World) (os : OsState), segRunT treeTable PySem.Challenge.pw_pq1208_01 w 11 (some (.ref 6)) 1 1900 (Sa w os) (piecesOf (bE.take 12) evE cE p0 [topFrame p0]) = some (.next, S1 w os, cE, p1) := fun w os => by kernel_rfl
theorem pc_2 : ∀ (w : World) (os : OsState), segRunT treeTable PySem.Challenge.pw_pq1208_01 w 11 (some (.ref 6)) 1 1200 (S1 w os) (piecesOf ((bE.drop 12).take 10) evE cE p1 [topFrame p0]) = some (.next, S2 w os, cE, p2) := fun w os => by kernel_rfl
noncomputable def asK : List Addr := [2, 3, 15, 17, 18, 20, 21, 22, 29, 30, 32, 33, 35, 36, 37, 38, 39, 40, 43, 50, 51, 52, 55, 62, 63, 64, 67, 74, 75, 76, 79, 81, 82, 84, 85, 86, 88, 89, 91, 92, 93, 95, 96, 98, 99, 107, 109, 110, 112, 113, 114, 116, 117, 119, 120, 121, 123, 124, 126, 127, 128, 130, 131, 133, 134, 135, 137, 138, 140, 141, 142, 144, 145, 147, 148, 149, 151, 152, 154, 155, 156, 158, 159, 161, 162, 163, 164, 165, 166, 167, 177, 179, 180, 182, 183, 184, 186, 187, 189, 190, 191, 193, 194, 196, 197, 198, 200, 201, 203, 204, 205, 207, 208, 210, 211, 212, 213, 214, 215, 216, 226, 228, 229, 231, 232, 233, 235, 236, 238, 239, 240, 242, 243, 245, 246, 247, 249, 250, 252, 253, 254, 255, 256, 257, 258, 261, 263, 264, 266, 267, 268, 270, 271, 273, 274, 275, 278, 279, 280, 283, 284, 292, 295, 296, 297, 299, 300, 302, 303, 304, 306, 307, 309, 310, 311, 313, 314, 316, 317, 318, 319, 320, 321, 322, 332, 334, 335, 337, 338, 339, 341, 342, 344, 345, 346, 348, 349, 351, 352, 353, 355, 356, 358, 359, 360, 362, 363, 365, 366, 367, 368, 369, 370, 371, 381, 383, 384, 386, 387, 388, 390, 391, 393, 394, 395, 397, 398, 400, 401, 402, 404, 405, 407, 408, 409, 411, 412, 414, 415, 416, 417, 418, 419, 420, 423, 426, 427, 428, 430, 431, 433, 434, 435, 437, 438, 440, 441, 442, 444, 445, 447, 448, 449, 451, 452, 454, 455, 456, 458, 459, 461, 462, 463, 465, 466, 468, 469, 470, 473, 474, 475, 477, 478, 480, 481, 482, 485, 486, 487, 490, 491]
theorem asK_eq : ∀ P, asK = (hd.heap_1 P).map (·.1) := fun P => by kernel_rfl
noncomputable def hk : Hook := kHook hd.heap_1 asK asK_eq
noncomputable def xt (s : Shared) : Bool := xlAt vw [] s && recOk (RowW.records (OpenRow.toRowW (OpenLaw.row PySem.Challenge.rw_pq1208_01))) s
theorem look_seen : ∀ (w : World) (os : OsState), (topRunT treeTable PySem.Challenge.pw_pq1208_01 w 11 (some (.ref 6)) 787 (S2 w os) (restOf ((bE.drop 12).drop 10) evE cE p2 [topFrame p0])).map (fun S => ((staticsOk (importedModules PySem.Challenge.pw_pq1208_01.main.body) (boot_heap w.params) S.abs.heap && namesBound PySem.Challenge.pw_pq1208_01 S.abs.heap && gensDone S.abs && laidKept (boot_heap w.params) S.abs.heap), openSeen vw [Str.ofString "PressError"] (importedModules PySem.Challenge.pw_pq1208_01.main.body) xt true S.abs)) = some (true, openGood vw [Str.ofString "PressError"]) := fun w os => by kernel_rfl
theorem look_K : ∀ (w : World) (os : OsState), (topRunT treeTable PySem.Challenge.pw_pq1208_01 w 11 (some (.ref 6)) 787 (S2 w os) (restOf ((bE.drop 12).drop 10) evE cE p2 [topFrame p0])).map (fun S => Hook.obs hk S.abs) = some (Hook.val hk w) := fun w os => by kernel_rfl
theorem run_to {w : World} {os : OsState} {S : SharedT} (h : topRunT treeTable PySem.Challenge.pw_pq1208_01 w 11 (some (.ref 6)) 787 (S2 w os) (restOf ((bE.drop 12).drop 10) evE cE p2 [topFrame p0]) = some S) : topRun treeTable PySem.Challenge.pw_pq1208_01 w 11 (some (.ref 6)) 3900 (S0 w os).abs (topStub PySem.Challenge.pw_pq1208_01) = some S.abs := by
  have r := piece_app (segRun_of (pc_2 w os)) (topRunT_spec _ _ _ _ h)
  rw [List.take_append_drop] at r
  have r := piece_app (segRun_of (pc_1 w os)) r
  rw [List.take_append_drop] at r
  exact go_top (topGoT_spec _ _ _ _ _ (pc_pre w os)) (piece_block (segRun_of (pc_block w os)) r)
theorem S0_abs (w : World) (os : OsState) : (S0 w os).abs = ⟨boot_heap w.params, Array.mk [], boot_drawn, boot_toks, os⟩ := by
  show Shared.mk (absHeap (bt0 w.params) 11 (boot_heap w.params).life) _ _ _ _ = _
  rw [bt0_abs]
  rfl
theorem left_gen {N : Nat} {q : Program} {loose : List Str} {Xt : Shared → Bool} {α : Type} {Yf : Shared → α} {Ya : World → α} (hN : Nat.ble 600 N = true)
    (h : ∀ (w : World) (os : OsState), ∃ S : Shared, topRun treeTable PySem.Challenge.pw_pq1208_01 w 11 (some (.ref 6)) N ⟨boot_heap w.params, Array.mk [], boot_drawn, boot_toks, os⟩ (topStub PySem.Challenge.pw_pq1208_01) = some S ∧
      (staticsOk (importedModules PySem.Challenge.pw_pq1208_01.main.body) (boot_heap w.params) S.heap && namesBound PySem.Challenge.pw_pq1208_01 S.heap && gensDone S && laidKept (boot_heap w.params) S.heap) = true ∧
      openSeen q loose (importedModules PySem.Challenge.pw_pq1208_01.main.body) Xt true S = openGood q loose ∧ Yf S = Ya w) : LeftO PySem.Challenge.pw_pq1208_01 q loose Xt Yf Ya N := fun w => by
  obtain ⟨⟨hh, gs, d, k, os⟩, e, e'⟩ := Option.map_eq_some_iff.mp (boot_open plain_open hN plain_fence w)
  obtain ⟨rfl, rfl, rfl, rfl⟩ : hh = boot_heap w.params ∧ gs = Array.mk [] ∧ d = boot_drawn ∧ k = boot_toks := by simpa using e'
  obtain ⟨z1, z2, z3⟩ : _ ∧ _ ∧ _ := by simpa only [Prod.mk.injEq] using boot_size w.params
  obtain ⟨S, r, l1, l2, l3⟩ := h w os
  have t : topFrom treeTable PySem.Challenge.pw_pq1208_01 w N ⟨boot_heap w.params, Array.mk [], boot_drawn, boot_toks, os⟩ = some S := by
    unfold topFrom
    dsimp only
    rw [z1, z2, z3, r]
    show (match staticsOk (importedModules PySem.Challenge.pw_pq1208_01.main.body) (boot_heap w.params) S.heap && namesBound PySem.Challenge.pw_pq1208_01 S.heap && gensDone S && laidKept (boot_heap w.params) S.heap with | true => _ | false => _) = _
    rw [l1]
  unfold openEnds
  rw [e]
  show (topFrom treeTable PySem.Challenge.pw_pq1208_01 w N _).map _ = _
  rw [t]
  exact congrArg some (Prod.ext l2 l3)
theorem both_of {β γ : Type} {r : Option SharedT} {f : SharedT → Bool} {f' : SharedT → β} {g : SharedT → γ} {b : β} {c : γ} (h1 : r.map (fun S => (f S, f' S)) = some (true, b)) (h2 : r.map g = some c) : ∃ S, r = some S ∧ f S = true ∧ f' S = b ∧ g S = c := by
  cases r with
  | none => cases h1
  | some S => exact ⟨S, rfl, congrArg Prod.fst (Option.some.inj h1), congrArg Prod.snd (Option.some.inj h1), Option.some.inj h2⟩
theorem left_of : LeftO PySem.Challenge.pw_pq1208_01 vw [Str.ofString "PressError"] xt (Hook.obs hk) (Hook.val hk) 3900 :=
  left_gen rfl fun w os => (both_of (look_seen w os) (look_K w os)).elim fun S h => ⟨S.abs, S0_abs w os ▸ run_to h.1, h.2.1, h.2.2.1, h.2.2.2⟩
section
local macro_rules | `(tactic| o_head $_H:term) => `(tactic| (
  refine PySem.W.holds_open (q := vw) (loose := [Str.ofString "PressError"]) (Xt := xt) (XP := XL vw []) (Yf := Hook.obs hk) (Ya := Hook.val hk) (YP := Hook.says hk) (N := 3900)
    left_of (Hook.of hk) (Hook.keeps hk) (fun s e => xl_of s (Bool.and_eq_true_iff.mp e).1) XL.keeps (by rfl) (by rfl) (by rfl) (fun s e => recFacts_of (Bool.and_eq_true_iff.mp e).2) (by rfl) (by first | assumption | decide +kernel) (by decide +kernel) ⟨rfl, rfl, rfl, rfl, rfl, by decide +kernel⟩ ?hw ?hc))
set_option maxHeartbeats 8000000 in
open_top hdd for PySem.Challenge.rw_pq1208_01
end
end Hd
end
section -- A0
open PySem PySem.W PyProof.Rows
@[irreducible] def Stop (P : Prop) : Prop := P
theorem stop_of {P : Prop} (h : Stop P) : P := by unfold Stop at h; exact h
theorem Stop.go {P : Prop} (h : P) : Stop P := by unfold Stop; exact h
/-- the written defs that have a contract -/
def stopsAt (n : Nat) : Bool := [85, 92, 99, 267, 274, 279, 284, 303, 310, 317, 338, 345, 352, 359, 366, 387, 394, 401, 408, 415, 427, 434, 441, 448, 455, 462, 469, 474, 481, 486, 120, 127, 141, 148, 162, 183, 190, 197, 204, 211, 239, 253, 214, 256, 165, 320, 369, 418].contains n
theorem stop_call {M : Model} {A : Around} {n : Addr} {vs : List Value} {Q E : Value → Shared → Prop} {s : Shared} (hn : stopsAt n = true) (h : Stop (wpAny M A (call (.ref n) vs) Q E s)) : wpAny M A (call (.ref n) vs) Q E s := stop_of h
theorem rsmI {a b : Int} (h0 : 0 ≤ a) (h1 : a ≤ 1000) (h2 : -1000 ≤ b) (h3 : b ≤ 1000) : Builtin.Range.small a b 1 = true :=
  small_one (Int.le_trans (by decide) h0) (Int.lt_of_le_of_lt h1 (by decide)) (Int.le_trans (by decide) h2) (Int.lt_of_le_of_lt h3 (by decide))
theorem rsm {n : Nat} (h : n ≤ 1000) : Builtin.Range.small 0 (n : Int) 1 = true :=
  rsmI (Int.le_refl 0) (by decide) (Int.le_trans (by decide) (Int.natCast_nonneg n)) (Int.ofNat_le.mpr h)
theorem rszI {c : Int} : Builtin.Range.rangeSize 0 c 1 = (c.toNat : Int) := by rw [rangeSize_nat, Int.sub_zero]
theorem rsz {n : Nat} : Builtin.Range.rangeSize 0 (n : Int) 1 = (n : Int) := rszI
theorem rt1 {a z : Prop} (h : a ∧ z) : z := h.2
theorem rt2 {a b z : Prop} (h : a ∧ b ∧ z) : z := h.2.2
theorem rt3 {a b c z : Prop} (h : a ∧ b ∧ c ∧ z) : z := h.2.2.2
theorem rt4 {a b c d z : Prop} (h : a ∧ b ∧ c ∧ d ∧ z) : z := h.2.2.2.2
theorem rt5 {a b c d e z : Prop} (h : a ∧ b ∧ c ∧ d ∧ e ∧ z) : z := h.2.2.2.2.2

structure Cx (w : World) (mean : ExcName → Option Value) (mg mb : Str → Option Value) (dp un : Nat) (cs : Scope) (outer : List Env) (A₀ : Around) (base h₀ : Heap) (L : Addr) (m : Str → Option Value) (h : Heap) (k : Nat) : Prop where
  B : Below A₀ base outer h₀
  F : Fr h₀ L h m
  X : (Hd.hd.heap_1 w.params).In h₀
  T : Top Hd.vw (looseW Hd.vw [Str.ofString "PressError"]) mean mg mb h₀
  hk : cs.kind = .function
  hd : dp + k < recursionLimit
  hu : un + 8 * k < cLine

abbrev lst (vs : List Value) (n : Nat) : Obj := { cls := .type "list", data := .seq vs.toArray n }

theorem el2 {p1 p2 G : Prop} (h : p1 ∧ p2) (k : p1 → p2 → G) : G := k h.1 h.2
theorem el3 {p1 p2 p3 G : Prop} (h : p1 ∧ p2 ∧ p3) (k : p1 → p2 → p3 → G) : G := k h.1 h.2.1 h.2.2
theorem el4 {p1 p2 p3 p4 G : Prop} (h : p1 ∧ p2 ∧ p3 ∧ p4) (k : p1 → p2 → p3 → p4 → G) : G := k h.1 h.2.1 h.2.2.1 h.2.2.2
theorem el5 {p1 p2 p3 p4 p5 G : Prop} (h : p1 ∧ p2 ∧ p3 ∧ p4 ∧ p5) (k : p1 → p2 → p3 → p4 → p5 → G) : G := k h.1 h.2.1 h.2.2.1 h.2.2.2.1 h.2.2.2.2
theorem el6 {p1 p2 p3 p4 p5 p6 G : Prop} (h : p1 ∧ p2 ∧ p3 ∧ p4 ∧ p5 ∧ p6) (k : p1 → p2 → p3 → p4 → p5 → p6 → G) : G := k h.1 h.2.1 h.2.2.1 h.2.2.2.1 h.2.2.2.2.1 h.2.2.2.2.2
theorem el7 {p1 p2 p3 p4 p5 p6 p7 G : Prop} (h : p1 ∧ p2 ∧ p3 ∧ p4 ∧ p5 ∧ p6 ∧ p7) (k : p1 → p2 → p3 → p4 → p5 → p6 → p7 → G) : G := k h.1 h.2.1 h.2.2.1 h.2.2.2.1 h.2.2.2.2.1 h.2.2.2.2.2.1 h.2.2.2.2.2.2
theorem el8 {p1 p2 p3 p4 p5 p6 p7 p8 G : Prop} (h : p1 ∧ p2 ∧ p3 ∧ p4 ∧ p5 ∧ p6 ∧ p7 ∧ p8) (k : p1 → p2 → p3 → p4 → p5 → p6 → p7 → p8 → G) : G := k h.1 h.2.1 h.2.2.1 h.2.2.2.1 h.2.2.2.2.1 h.2.2.2.2.2.1 h.2.2.2.2.2.2.1 h.2.2.2.2.2.2.2
theorem el9 {p1 p2 p3 p4 p5 p6 p7 p8 p9 G : Prop} (h : p1 ∧ p2 ∧ p3 ∧ p4 ∧ p5 ∧ p6 ∧ p7 ∧ p8 ∧ p9) (k : p1 → p2 → p3 → p4 → p5 → p6 → p7 → p8 → p9 → G) : G := k h.1 h.2.1 h.2.2.1 h.2.2.2.1 h.2.2.2.2.1 h.2.2.2.2.2.1 h.2.2.2.2.2.2.1 h.2.2.2.2.2.2.2.1 h.2.2.2.2.2.2.2.2
theorem Cx.el {w : World} {mean : ExcName → Option Value} {mg mb : Str → Option Value} {dp un : Nat} {cs : Scope} {outer : List Env} {A₀ : Around} {base h₀ : Heap} {L : Addr} {m : Str → Option Value} {h : Heap} {k : Nat} {G : Prop} (C : Cx w mean mg mb dp un cs outer A₀ base h₀ L m h k)
    (g : Below A₀ base outer h₀ → Fr h₀ L h m → (Hd.hd.heap_1 w.params).In h₀ → Top Hd.vw (looseW Hd.vw [Str.ofString "PressError"]) mean mg mb h₀ → cs.kind = .function → dp + k < recursionLimit → un + 8 * k < cLine → G) : G :=
  g C.1 C.2 C.3 C.4 C.5 C.6 C.7
theorem exE2 {α β : Sort _} {P : α → β → Prop} {G : Prop} (h : ∃ a b, P a b) (k : ∀ a b, P a b → G) : G := h.elim fun a h => h.elim fun b h => k a b h
theorem exE3 {α β γ : Sort _} {P : α → β → γ → Prop} {G : Prop} (h : ∃ a b c, P a b c) (k : ∀ a b c, P a b c → G) : G := exE2 h fun a b h => h.elim fun c h => k a b c h
theorem exE4 {α β γ δ : Sort _} {P : α → β → γ → δ → Prop} {G : Prop} (h : ∃ a b c d, P a b c d) (k : ∀ a b c d, P a b c d → G) : G := exE3 h fun a b c h => h.elim fun d h => k a b c d h
theorem exE5 {α β γ δ ε : Sort _} {P : α → β → γ → δ → ε → Prop} {G : Prop} (h : ∃ a b c d e, P a b c d e) (k : ∀ a b c d e, P a b c d e → G) : G := exE4 h fun a b c d h => h.elim fun e h => k a b c d e h
theorem off_cons {r : List (Addr × Obj)} {a : Addr} {as : List Addr} (h : ∀ p ∈ r, p.1 ∉ a :: as) : (∀ p ∈ r, p.1 ≠ a) ∧ (∀ p ∈ r, p.1 ∉ as) :=
  ⟨fun p hp e => h p hp (e ▸ List.mem_cons_self), fun p hp e => h p hp (List.mem_cons_of_mem _ e)⟩

section rots
variable {h₀ h : Heap} {L : Addr} {a b c d e f : Addr × Obj} {r : List (Addr × Obj)}
theorem subC {α : Type} {a : α} {l l' : List α} (h1 : a ∈ l') (h2 : ∀ p ∈ l, p ∈ l') : ∀ p ∈ a :: l, p ∈ l' := List.forall_mem_cons.mpr ⟨h1, h2⟩
theorem subA {α : Type} {l k l' : List α} (h1 : ∀ p ∈ l, p ∈ l') (h2 : ∀ p ∈ k, p ∈ l') : ∀ p ∈ l ++ k, p ∈ l' := fun p hp => (List.mem_append.mp hp).elim (h1 p) (h2 p)
theorem rot1 (N : News h₀ L h (a :: b :: r)) : News h₀ L h (b :: a :: r) := cb_drop N (by (((repeat' (first | exact List.forall_mem_nil _ | refine subC (by ((repeat (first | assumption | exact List.Mem.head _ | exact List.mem_append_left _ (by assumption) | refine List.Mem.tail _ ?_ | refine List.mem_append_right _ ?_)))) ?_ | refine subA ?_ ?_)) <;> (intro p hp; ((repeat (first | assumption | exact List.Mem.head _ | exact List.mem_append_left _ (by assumption) | refine List.Mem.tail _ ?_ | refine List.mem_append_right _ ?_)))))))
theorem rot2 (N : News h₀ L h (a :: b :: c :: r)) : News h₀ L h (c :: a :: b :: r) := cb_drop N (by (((repeat' (first | exact List.forall_mem_nil _ | refine subC (by ((repeat (first | assumption | exact List.Mem.head _ | exact List.mem_append_left _ (by assumption) | refine List.Mem.tail _ ?_ | refine List.mem_append_right _ ?_)))) ?_ | refine subA ?_ ?_)) <;> (intro p hp; ((repeat (first | assumption | exact List.Mem.head _ | exact List.mem_append_left _ (by assumption) | refine List.Mem.tail _ ?_ | refine List.mem_append_right _ ?_)))))))
theorem rot3 (N : News h₀ L h (a :: b :: c :: d :: r)) : News h₀ L h (d :: a :: b :: c :: r) := cb_drop N (by (((repeat' (first | exact List.forall_mem_nil _ | refine subC (by ((repeat (first | assumption | exact List.Mem.head _ | exact List.mem_append_left _ (by assumption) | refine List.Mem.tail _ ?_ | refine List.mem_append_right _ ?_)))) ?_ | refine subA ?_ ?_)) <;> (intro p hp; ((repeat (first | assumption | exact List.Mem.head _ | exact List.mem_append_left _ (by assumption) | refine List.Mem.tail _ ?_ | refine List.mem_append_right _ ?_)))))))
theorem rot4 (N : News h₀ L h (a :: b :: c :: d :: e :: r)) : News h₀ L h (e :: a :: b :: c :: d :: r) := cb_drop N (by (((repeat' (first | exact List.forall_mem_nil _ | refine subC (by ((repeat (first | assumption | exact List.Mem.head _ | exact List.mem_append_left _ (by assumption) | refine List.Mem.tail _ ?_ | refine List.mem_append_right _ ?_)))) ?_ | refine subA ?_ ?_)) <;> (intro p hp; ((repeat (first | assumption | exact List.Mem.head _ | exact List.mem_append_left _ (by assumption) | refine List.Mem.tail _ ?_ | refine List.mem_append_right _ ?_)))))))
theorem rot5 (N : News h₀ L h (a :: b :: c :: d :: e :: f :: r)) : News h₀ L h (f :: a :: b :: c :: d :: e :: r) := cb_drop N (by (((repeat' (first | exact List.forall_mem_nil _ | refine subC (by ((repeat (first | assumption | exact List.Mem.head _ | exact List.mem_append_left _ (by assumption) | refine List.Mem.tail _ ?_ | refine List.mem_append_right _ ?_)))) ?_ | refine subA ?_ ?_)) <;> (intro p hp; ((repeat (first | assumption | exact List.Mem.head _ | exact List.mem_append_left _ (by assumption) | refine List.Mem.tail _ ?_ | refine List.mem_append_right _ ?_)))))))
theorem drop0 (N : News h₀ L h (a :: r)) : News h₀ L h r := cb_drop N (fun _ h => .tail _ h)
theorem drop1 (N : News h₀ L h (a :: b :: r)) : News h₀ L h (a :: r) := cb_drop N (by (((repeat' (first | exact List.forall_mem_nil _ | refine subC (by ((repeat (first | assumption | exact List.Mem.head _ | exact List.mem_append_left _ (by assumption) | refine List.Mem.tail _ ?_ | refine List.mem_append_right _ ?_)))) ?_ | refine subA ?_ ?_)) <;> (intro p hp; ((repeat (first | assumption | exact List.Mem.head _ | exact List.mem_append_left _ (by assumption) | refine List.Mem.tail _ ?_ | refine List.mem_append_right _ ?_)))))))
theorem drop2 (N : News h₀ L h (a :: b :: c :: r)) : News h₀ L h (a :: b :: r) := cb_drop N (by (((repeat' (first | exact List.forall_mem_nil _ | refine subC (by ((repeat (first | assumption | exact List.Mem.head _ | exact List.mem_append_left _ (by assumption) | refine List.Mem.tail _ ?_ | refine List.mem_append_right _ ?_)))) ?_ | refine subA ?_ ?_)) <;> (intro p hp; ((repeat (first | assumption | exact List.Mem.head _ | exact List.mem_append_left _ (by assumption) | refine List.Mem.tail _ ?_ | refine List.mem_append_right _ ?_)))))))
theorem drop3 (N : News h₀ L h (a :: b :: c :: d :: r)) : News h₀ L h (a :: b :: c :: r) := cb_drop N (by (((repeat' (first | exact List.forall_mem_nil _ | refine subC (by ((repeat (first | assumption | exact List.Mem.head _ | exact List.mem_append_left _ (by assumption) | refine List.Mem.tail _ ?_ | refine List.mem_append_right _ ?_)))) ?_ | refine subA ?_ ?_)) <;> (intro p hp; ((repeat (first | assumption | exact List.Mem.head _ | exact List.mem_append_left _ (by assumption) | refine List.Mem.tail _ ?_ | refine List.mem_append_right _ ?_)))))))
end rots
section rng
variable {prog : Program} {w : World} {A : Around} {E : Value → Shared → Prop} {s : Shared} {h₀ : Heap} {L : Addr} {m : Str → Option Value} {news : List (Addr × Obj)} {Q : Value → Shared → Prop} {a b c : Int} {t u v : Tok}
theorem rg1 (F : Fr h₀ L s.heap m) (N : News h₀ L s.heap news)
    (h : ∀ r h' tk t₁ u₁ v₁, IsRange h' r 0 b 1 t₁ u₁ v₁ → Fr h₀ L h' m → News h₀ L h' news → Q (.ref r) { s with heap := h', toks := tk }) :
    wpAny (model prog w) A (call (.type "range") [.int b u]) Q E s :=
  call_range_1 (h _ _ _ _ _ _ (IsRange.new ..) (F.push _) (fun p hq => ⟨Heap.get?_push_of_some _ (N p hq).1, (N p hq).2⟩))
theorem rg2 (F : Fr h₀ L s.heap m) (N : News h₀ L s.heap news)
    (h : ∀ r h' tk t₁ u₁ v₁, IsRange h' r a b 1 t₁ u₁ v₁ → Fr h₀ L h' m → News h₀ L h' news → Q (.ref r) { s with heap := h', toks := tk }) :
    wpAny (model prog w) A (call (.type "range") [.int a t, .int b u]) Q E s :=
  call_range_2 (h _ _ _ _ _ _ (IsRange.new ..) (F.push _) (fun p hq => ⟨Heap.get?_push_of_some _ (N p hq).1, (N p hq).2⟩))
theorem rg3 (F : Fr h₀ L s.heap m) (N : News h₀ L s.heap news) (hp : Builtin.divisionGoesByPylong (b - a) c = false) (hc : c ≠ 0)
    (h : ∀ r h' tk t₁ u₁ v₁, IsRange h' r a b c t₁ u₁ v₁ → Fr h₀ L h' m → News h₀ L h' news → Q (.ref r) { s with heap := h', toks := tk }) :
    wpAny (model prog w) A (call (.type "range") [.int a t, .int b u, .int c v]) Q E s :=
  call_range_3 hc (h _ _ _ _ _ _ (IsRange.new ..) (F.push _) (fun p hq => ⟨Heap.get?_push_of_some _ (N p hq).1, (N p hq).2⟩)) (.inl hp)
end rng
theorem off_nil {r : List (Addr × Obj)} : ∀ p ∈ r, p.1 ∉ ([] : List Addr) := fun _ _ h => by cases h
theorem off_snoc {r : List (Addr × Obj)} {a : Addr} {as : List Addr} (h1 : ∀ p ∈ r, p.1 ≠ a) (h2 : ∀ p ∈ r, p.1 ∉ as) : ∀ p ∈ r, p.1 ∉ a :: as := fun p hp h => by
  rcases List.mem_cons.mp h with h | h
  · exact h1 p hp h
  · exact h2 p hp h
theorem allLt_mem {d : Addr} : ∀ {r : List (Addr × Obj)}, AllLt d r → ∀ p ∈ r, p.1 < d
  | [], _, _, h => by cases h
  | x :: r, h, p, hp => by
    rcases List.mem_cons.mp hp with rfl | hp
    · exact h.1
    · exact allLt_mem h.2 p hp
theorem allLt_ne2 {d a : Addr} {r : List (Addr × Obj)} (h : AllLt d r) (hd : d < a) : ∀ p ∈ r, p.1 ≠ a := fun p hp => Nat.ne_of_lt (Nat.lt_trans (allLt_mem h p hp) hd)
theorem allLt_ne {d : Addr} {r : List (Addr × Obj)} (h : AllLt d r) : ∀ p ∈ r, p.1 ≠ d := fun p hp => Nat.ne_of_lt (allLt_mem h p hp)
/-- a call's end, told by the value alone -/
theorem leaveR {h₀ g : Heap} {L L' : Addr} {m m' : Str → Option Value} {news' : List (Addr × Obj)} {Q E : Value → Shared → Prop} {v : Value} {s' : Shared} (F' : Fr g L' s'.heap m') (N' : News g L' s'.heap news')
    (k : Fr h₀ L s'.heap m → News h₀ L s'.heap news' → Q v s') : LeaveK h₀ L m g (fun r s' => match r with | .ok (.ret v) => Q v s' | .ok _ => False | .error e => E e s') v s' := leaveK_ F' N' k
section loops
variable {prog : Program} {w : World} {A : Around} {E : Value → Shared → Prop} {s : Shared} {env : Env} {h₀ : Heap} {x : Str} {body : List Stmt} {Q : Flow → Shared → Prop}

def FEnd {σ : Type} (h₀ : Heap) (L : Addr) (H : σ → List (Addr × Obj)) (ps : σ → List (Str × Value)) (stored : List Str) (m₀ : Str → Option Value) (rest : List (Addr × Obj)) (I : σ → Prop) (s₁ s₂ : Shared) : Prop :=
  ∃ h' tk m' c', s₂ = { s₁ with heap := h', toks := tk } ∧ Fr h₀ L h' m' ∧ News h₀ L h' (H c' ++ rest) ∧ (∀ p ∈ ps c', m' p.1 = some p.2) ∧ (∀ z, (∀ p ∈ ps c', z ≠ p.1) → stored.contains z = false → m' z = m₀ z) ∧ I c'
def FPost {σ : Type} (h₀ : Heap) (L : Addr) (H : σ → List (Addr × Obj)) (ps : σ → List (Str × Value)) (stored : List Str) (m₀ : Str → Option Value) (rest : List (Addr × Obj)) (I : σ → Prop) (s₁ : Shared) (Q : Flow → Shared → Prop) (f : Flow) (s₂ : Shared) : Prop :=
  match f with
  | .ret v => Q (.ret v) s₂
  | .brk => Q .next s₂
  | _ => FEnd h₀ L H ps stored m₀ rest I s₁ s₂
theorem FEnd.intro {σ : Type} {h₀ : Heap} {L : Addr} {H : σ → List (Addr × Obj)} {ps : σ → List (Str × Value)} {stored : List Str} {m₀ m' : Str → Option Value} {rest : List (Addr × Obj)} {I : σ → Prop} {s₁ : Shared} {h' : Heap} {tk : Nat} (c' : σ)
    {news : List (Addr × Obj)} (F : Fr h₀ L h' m') (N : News h₀ L h' news) (hn : ∀ p ∈ H c' ++ rest, p ∈ news) (h1 : ∀ p ∈ ps c', m' p.1 = some p.2) (h2 : ∀ z, (∀ p ∈ ps c', z ≠ p.1) → stored.contains z = false → m' z = m₀ z) (hi : I c') :
    FEnd h₀ L H ps stored m₀ rest I s₁ { s₁ with heap := h', toks := tk } := ⟨h', tk, m', c', rfl, F, fun p hp => N p (hn p hp), h1, h2, hi⟩

theorem FEnd.at {σ : Type} {h₀ : Heap} {L : Addr} {H : σ → List (Addr × Obj)} {ps : σ → List (Str × Value)} {stored : List Str} {m₀ m' : Str → Option Value} {rest : List (Addr × Obj)} {I : σ → Prop} {s₁ : Shared} {h' : Heap} {tk : Nat} (c' : σ)
    (F : Fr h₀ L h' m') (N : News h₀ L h' (H c' ++ rest)) (h1 : ∀ p ∈ ps c', m' p.1 = some p.2) (h2 : ∀ z, (∀ p ∈ ps c', z ≠ p.1) → stored.contains z = false → m' z = m₀ z) (hi : I c') :
    FEnd h₀ L H ps stored m₀ rest I s₁ { s₁ with heap := h', toks := tk } := ⟨h', tk, m', c', rfl, F, N, h1, h2, hi⟩

abbrev base0 (stored : List Str) (u m₀ : Str → Option Value) : Str → Option Value := fun z => if stored.contains z then u z else m₀ z
theorem kst_out {rest : Str → Option Value} {z : Str} : ∀ {ps : List (Str × Value)}, (∀ n ∈ ps.map (·.1), z ≠ n) → kstB rest ps z = rest z
  | [], _ => rfl
  | p :: r, h => by
    show (if z = p.1 then some p.2 else kstB rest r z) = rest z
    rw [if_neg (h p.1 (.head _)), kst_out (fun n hn => h n (.tail _ hn))]
theorem nm_ne {stored : List Str} {ql : List (Str × Value)} {z n : Str} (h2 : ∀ p ∈ ql, z ≠ p.1) (h3 : stored.contains z = false) (hn : (stored.contains n || (ql.map (·.1)).contains n) = true) : ¬ z = n := by
  rintro rfl
  rw [h3, Bool.false_or] at hn
  obtain ⟨p, hp, e⟩ := List.mem_map.mp (List.contains_iff_mem.mp hn)
  exact h2 p hp e.symm
theorem same_if {α : Type} {c : Prop} [Decidable c] {a b r : α} (h : ¬ c) (k : b = r) : (if c then a else b) = r := (if_neg h).trans k
theorem same_of {stored : List Str} {u m₀ : Str → Option Value} {ps ql : List (Str × Value)} {z : Str} (hn : ((ps.map (·.1)).all fun n => stored.contains n || (ql.map (·.1)).contains n) = true) (h2 : ∀ p ∈ ql, z ≠ p.1) (h3 : stored.contains z = false) :
    kstB (base0 stored u m₀) ps z = m₀ z := by
  rw [kst_out]
  · show (if stored.contains z = true then u z else m₀ z) = m₀ z
    rw [h3]; rfl
  · rintro n hn' rfl
    have := List.all_eq_true.mp hn _ hn'
    rw [h3, Bool.false_or] at this
    obtain ⟨p, hp, e⟩ := List.mem_map.mp (List.contains_iff_mem.mp this)
    exact h2 p hp e.symm

theorem same_lay {stored : List Str} {ql : List (Str × Value)} {m' m₀ : Str → Option Value} {n : Str} {v : Option Value} (hn : (stored.contains n || (ql.map (·.1)).contains n) = true)
    (h : ∀ z, (∀ p ∈ ql, z ≠ p.1) → stored.contains z = false → m' z = m₀ z) : ∀ z, (∀ p ∈ ql, z ≠ p.1) → stored.contains z = false → (if z = n then v else m' z) = m₀ z :=
  fun z h2 h3 => same_if (nm_ne h2 h3 hn) (h z h2 h3)
theorem same_kst {stored stored' : List Str} {u m₁ m₀ : Str → Option Value} {ps ql : List (Str × Value)} (hn : ((ps.map (·.1) ++ stored').all fun n => stored.contains n || (ql.map (·.1)).contains n) = true)
    (h : ∀ z, (∀ p ∈ ql, z ≠ p.1) → stored.contains z = false → m₁ z = m₀ z) : ∀ z, (∀ p ∈ ql, z ≠ p.1) → stored.contains z = false → kstB (base0 stored' u m₁) ps z = m₀ z := fun z h2 h3 => by
  have ne : ∀ n ∈ ps.map (·.1) ++ stored', z ≠ n := fun n hm => nm_ne h2 h3 (List.all_eq_true.mp hn n hm)
  rw [kst_out fun n hm => ne n (List.mem_append_left _ hm)]
  refine (if_neg fun hc => ?_).trans (h z h2 h3)
  exact ne z (List.mem_append_right _ (List.contains_iff_mem.mp hc)) rfl

theorem loop_gen {σ : Type} {I : Addr} {fp wr : List Addr} {n : Nat} {P : Nat → Value → Prop} {St : Nat → Heap → Prop} {m₀ : Str → Option Value} (W : Walks prog w A I fp wr n P St)
    (H : σ → List (Addr × Obj)) (adr : List Addr) (hadr : ∀ c, (H c).map (·.1) = adr) (rest : List (Addr × Obj)) (ps : σ → List (Str × Value)) (stored : List Str) (Inv : Nat → σ → Prop) (c₀ : σ)
    (hx : stored.contains x = true)
    (hLf : env.locals ∉ fp) (hwr : ∀ b ∈ wr, h₀.get? b = none) (hfa : ∀ b ∈ fp, b ∉ adr) (hwrest : ∀ p ∈ rest, p.1 ∉ wr) (hoff : ∀ p ∈ rest, p.1 ∉ adr) (hst : St 0 s.heap)
    (F : Fr h₀ env.locals s.heap m₀) (N : News h₀ env.locals s.heap (H c₀ ++ rest)) (hk : ∀ p ∈ ps c₀, m₀ p.1 = some p.2) (hi : Inv 0 c₀)
    (turn : ∀ i v c u h tk rest', i < n → P i v → Inv i c → (∀ p ∈ rest', p.1 ∉ adr) → (∀ p ∈ rest, p ∈ rest') →
      Fr h₀ env.locals h (fun y => if y = x then some v else kstB (base0 stored u m₀) (ps c) y) → News h₀ env.locals h (H c ++ rest') →
      wpAny (model prog w) A (execs body env) (FPost h₀ env.locals H ps stored m₀ rest' (Inv (i + 1)) { s with heap := h, toks := tk } Q) E { s with heap := h, toks := tk })
    (done : ∀ c u h tk, Inv n c → Fr h₀ env.locals h (kstB (base0 stored u m₀) (ps c)) → News h₀ env.locals h (H c ++ rest) → Q .next { s with heap := h, toks := tk }) :
    LoopAtV prog w A h₀ env x body Q E (.ref I) s := by
  refine ⟨I, fp, wr, n, P, St, m₀, H c₀ ++ rest, (fun i m nx => ∃ c, nx = H c ++ rest ∧ (∀ p ∈ ps c, m p.1 = some p.2) ∧ (∀ z, (∀ p ∈ ps c, z ≠ p.1) → stored.contains z = false → m z = m₀ z) ∧ Inv i c), rfl, W, hLf, hwr, ?_, hst, F, N, ⟨c₀, rfl, hk, fun _ _ _ => rfl, hi⟩, ?_, ?_⟩
  · intro p hp hw
    rcases List.mem_append.mp hp with hp | hp
    · exact hfa p.1 (W.sub _ hw) (hadr c₀ ▸ List.mem_map.mpr ⟨p, hp, rfl⟩)
    · exact hwrest p hp hw
  · rintro i v m₁ news₁ s₁ own ⟨h, tk, rfl⟩ hin hP ⟨c, rfl, h1, h2, hI⟩ _ hown _ _ _ F₁ N₁
    have N₂ : News h₀ env.locals h (H c ++ (rest ++ own)) := fun p hp => N₁ p (by
      rcases List.mem_append.mp hp with hp | hp
      · exact List.mem_append_right _ (List.mem_append_left _ hp)
      · rcases List.mem_append.mp hp with hp | hp
        · exact List.mem_append_right _ (List.mem_append_right _ hp)
        · exact List.mem_append_left _ hp)
    have off' : ∀ p ∈ rest ++ own, p.1 ∉ adr := fun p hp => by
      rcases List.mem_append.mp hp with hp | hp
      · exact hoff p hp
      · exact hfa _ (hown p hp)
    refine wpAny_mono (turn i v c m₁ h tk (rest ++ own) hin hP hI off' (fun p hp => List.mem_append_left _ hp) (kst_fr h1 (fun z _ => h2 z) F₁) N₂) (fun f s₂ p => ?_) fun _ _ e => e
    have fin : FEnd h₀ env.locals H ps stored m₀ (rest ++ own) (Inv (i + 1)) { s with heap := h, toks := tk } s₂ → LoopStepU h₀ env.locals wr own (fun m nx => ∃ c, nx = H c ++ rest ∧ (∀ p ∈ ps c, m p.1 = some p.2) ∧ (∀ z, (∀ p ∈ ps c, z ≠ p.1) → stored.contains z = false → m z = m₀ z) ∧ Inv (i + 1) c) { s with heap := h, toks := tk } .next s₂ := by
      intro hx
      refine exE4 hx fun h' tk' m' c' hy => el6 hy fun e F' N' k1 k2 hI' => ?_
      clear hy hx
      refine ⟨rfl, h', tk', m', H c' ++ rest, e, F', fun p hp => N' p ?_, fun p hp hw => ?_, c', rfl, k1, k2, hI'⟩
      · rcases List.mem_append.mp hp with hp | hp
        · exact List.mem_append_right _ (List.mem_append_right _ hp)
        · rcases List.mem_append.mp hp with hp | hp
          · exact List.mem_append_left _ hp
          · exact List.mem_append_right _ (List.mem_append_left _ hp)
      · rcases List.mem_append.mp hp with hp | hp
        · exact hfa p.1 (W.sub _ hw) (hadr c' ▸ List.mem_map.mpr ⟨p, hp, rfl⟩)
        · exact hwrest p hp hw
    cases f with
    | ret v => exact .ret p
    | brk => exact .brk p
    | next => exact .next (fin p)
    | cont => exact .cont (fin p)
  · rintro h' tk m' news' F' N' _ ⟨c, rfl, h1, h2, hI⟩
    exact done c m' h' tk hI (ksw_fr h1 h2 F') N'

theorem it_list {σ : Type} {l : Addr} {vs : List Value} {m₀ : Str → Option Value} (H : σ → List (Addr × Obj)) (adr : List Addr) (rest : List (Addr × Obj)) (ps : σ → List (Str × Value)) (stored : List Str) (Inv : Nat → σ → Prop) (c₀ : σ)
    (hh : A.handled = none) (hl : s.heap.IsList l vs.toArray) (hlL : l ≠ env.locals) (hla : l ∉ adr) (hadr : ∀ c, (H c).map (·.1) = adr) (hx : stored.contains x = true) (hoff : ∀ p ∈ rest, p.1 ∉ adr)
    (F : Fr h₀ env.locals s.heap m₀) (N : News h₀ env.locals s.heap (H c₀ ++ rest)) (hk : ∀ p ∈ ps c₀, m₀ p.1 = some p.2) (hi : Inv 0 c₀)
    (turn : ∀ i v c u h tk rest', i < vs.length → vs[i]? = some v → Inv i c → (∀ p ∈ rest', p.1 ∉ adr) → (∀ p ∈ rest, p ∈ rest') →
      Fr h₀ env.locals h (fun y => if y = x then some v else kstB (base0 stored u m₀) (ps c) y) → News h₀ env.locals h (H c ++ rest') →
      wpAny (model prog w) A (execs body env) (FPost h₀ env.locals H ps stored m₀ rest' (Inv (i + 1)) { s with heap := h, toks := tk } Q) E { s with heap := h, toks := tk })
    (done : ∀ c u h tk, Inv vs.length c → Fr h₀ env.locals h (kstB (base0 stored u m₀) (ps c)) → News h₀ env.locals h (H c ++ rest) → Q .next { s with heap := h, toks := tk }) :
    wpAny (model prog w) A (pyIter (.ref l)) (fun it s₂ => LoopAtV prog w A h₀ env x body Q E it s₂) E s := by
  have hlt : l < s.heap.objs.size := by obtain ⟨_, e, _⟩ := hl; exact Heap.lt_size e
  have hne : l ≠ s.heap.objs.size := Nat.ne_of_lt hlt
  refine wpAny_pyIter_list hl ?_
  have W := Walks.list (prog := prog) (w := w) hh s.heap.objs.size l hne vs.toArray
  rw [List.size_toArray] at W
  have Ia : s.heap.objs.size ∉ adr := fun hm => by
    rw [← hadr c₀] at hm
    obtain ⟨p, hp, e⟩ := List.mem_map.mp hm
    exact absurd (Heap.lt_size (N p (List.mem_append_left _ hp)).1) (e ▸ Nat.lt_irrefl _)
  refine loop_gen W H adr hadr rest ps stored Inv c₀ hx ?_ ?_ ?_ ?_ hoff ⟨⟨_, Heap.get?_push_size _ rfl, rfl, rfl⟩, hl.at fun o e => Heap.get?_push_of_some _ e⟩ (F.push _) (fun p hp => ⟨Heap.get?_push_of_some _ (N p hp).1, (N p hp).2⟩) hk hi
    (fun i v c u h tk rest' h1 h2 => turn i v c u h tk rest' h1 (by simpa using h2)) done
  · intro hm
    rcases List.mem_cons.mp hm with e | hm
    · exact absurd F.ns.lt (e ▸ Nat.lt_irrefl _)
    · exact hlL (List.mem_singleton.mp hm).symm
  · intro b hb
    rw [List.mem_singleton.mp hb]
    exact next_is_new F
  · intro b hb
    rcases List.mem_cons.mp hb with e | hb
    · rw [e]; exact Ia
    · rw [List.mem_singleton.mp hb]; exact hla
  · intro p hp hI
    exact absurd (Heap.lt_size (N p (List.mem_append_right _ hp)).1) ((List.mem_singleton.mp hI) ▸ Nat.lt_irrefl _)

theorem it_range {σ : Type} {r : Addr} {a b c : Int} {t₁ t₂ t₃ : Tok} {n : Nat} {m₀ : Str → Option Value} (H : σ → List (Addr × Obj)) (adr : List Addr) (rest : List (Addr × Obj)) (ps : σ → List (Str × Value)) (stored : List Str) (Inv : Nat → σ → Prop) (c₀ : σ)
    (hh : A.handled = none) (hr : IsRange s.heap r a b c t₁ t₂ t₃) (hsmall : Builtin.Range.small a b c = true) (hn : Builtin.Range.rangeSize a b c = (n : Int)) (hadr : ∀ c, (H c).map (·.1) = adr) (hx : stored.contains x = true) (hoff : ∀ p ∈ rest, p.1 ∉ adr)
    (F : Fr h₀ env.locals s.heap m₀) (N : News h₀ env.locals s.heap (H c₀ ++ rest)) (hk : ∀ p ∈ ps c₀, m₀ p.1 = some p.2) (hi : Inv 0 c₀)
    (turn : ∀ (i : Nat) t d u h tk rest', i < n → Inv i d → (∀ p ∈ rest', p.1 ∉ adr) → (∀ p ∈ rest, p ∈ rest') →
      Fr h₀ env.locals h (fun y => if y = x then some (.int (a + (i : Int) * c) t) else kstB (base0 stored u m₀) (ps d) y) → News h₀ env.locals h (H d ++ rest') →
      wpAny (model prog w) A (execs body env) (FPost h₀ env.locals H ps stored m₀ rest' (Inv (i + 1)) { s with heap := h, toks := tk } Q) E { s with heap := h, toks := tk })
    (done : ∀ c u h tk, Inv n c → Fr h₀ env.locals h (kstB (base0 stored u m₀) (ps c)) → News h₀ env.locals h (H c ++ rest) → Q .next { s with heap := h, toks := tk }) :
    wpAny (model prog w) A (pyIter (.ref r)) (fun it s₂ => LoopAtV prog w A h₀ env x body Q E it s₂) E s := by
  refine wpAny_pyIter_range hr hsmall ?_
  have W : Walks prog w A s.heap.objs.size [s.heap.objs.size] [s.heap.objs.size] n (fun i v => i < n ∧ ∃ t, v = .int (a + i * c) t)
      (fun i h => IsRangeIter h s.heap.objs.size (a + (i : Nat) * c) ((n : Int) - (i : Nat)) c) := (Walks.range hh _ a c n).bound
  have Ia : s.heap.objs.size ∉ adr := fun hm => by
    rw [← hadr c₀] at hm
    obtain ⟨p, hp, e⟩ := List.mem_map.mp hm
    exact absurd (Heap.lt_size (N p (List.mem_append_left _ hp)).1) (e ▸ Nat.lt_irrefl _)
  refine loop_gen W H adr hadr rest ps stored Inv c₀ hx ?_ ?_ ?_ ?_ hoff (by show IsRangeIter _ _ _ _ _; rw [hn]; simpa using Heap.get?_push_size _ rfl) (F.push _) (fun p hp => ⟨Heap.get?_push_of_some _ (N p hp).1, (N p hp).2⟩) hk hi ?_ done
  · intro hm
    exact absurd F.ns.lt ((List.mem_singleton.mp hm) ▸ Nat.lt_irrefl _)
  · intro b hb
    rw [List.mem_singleton.mp hb]
    exact next_is_new F
  · intro b hb
    rw [List.mem_singleton.mp hb]; exact Ia
  · intro p hp hI
    exact absurd (Heap.lt_size (N p (List.mem_append_right _ hp)).1) ((List.mem_singleton.mp hI) ▸ Nat.lt_irrefl _)
  · rintro i v d u h tk rest' hi ⟨_, t, rfl⟩ hI ho hr' F₁ N₁
    exact turn i t d u h tk rest' hi hI ho hr' F₁ N₁

theorem while_inv {σ : Type} {test : Expr} {pos : Pos} {m₀ : Str → Option Value} {L : Addr} (H : σ → List (Addr × Obj)) (rest : List (Addr × Obj)) (ps : σ → List (Str × Value)) (stored : List Str) (Inv : σ → Prop) (μ : σ → Nat) (c₀ : σ)
    (F : Fr h₀ L s.heap m₀) (N : News h₀ L s.heap (H c₀ ++ rest)) (hk : ∀ p ∈ ps c₀, m₀ p.1 = some p.2) (hi : Inv c₀)
    (turn : ∀ c u h tk, Inv c → Fr h₀ L h (kstB (base0 stored u m₀) (ps c)) → News h₀ L h (H c ++ rest) →
      wpAny (model prog w) A (isTrue test env (eval test env)) (fun b s₂ =>
        if b = true then wpAny (model prog w) A (execs body env) (FPost h₀ L H ps stored m₀ rest (fun c' => Inv c' ∧ μ c' < μ c) s Q) E s₂ else Q .next s₂) E { s with heap := h, toks := tk })
    (hE : PassesOwn (model prog w) A env E := by passes_own) :
    wpAny (model prog w) A (exec (.While test body [] pos) env) Q E s := by
  refine While_inv2 (fun n m nx => ∃ c : σ, nx = H c ++ rest ∧ μ c = n ∧ (∀ p ∈ ps c, m p.1 = some p.2) ∧ (∀ z, (∀ p ∈ ps c, z ≠ p.1) → stored.contains z = false → m z = m₀ z) ∧ Inv c) F N ⟨c₀, rfl, rfl, hk, fun _ _ _ => rfl, hi⟩ ?_ hE
  rintro n m₁ nx h tk F₁ N₁ ⟨c, hnx, hsz, h1, h2, hp'⟩
  rw [hnx] at N₁
  rw [← hsz]
  refine wpAny_mono (turn c m₁ h tk hp' (ksw_fr h1 h2 F₁) N₁) (fun b s₂ p => ?_) fun _ _ x => x
  cases b with
  | false => simpa using p
  | true =>
    simp only [if_true] at p ⊢
    refine wpAny_mono p (fun f s₃ q => ?_) fun _ _ x => x
    cases f with
    | ret v => exact q
    | brk => exact q
    | next =>
      refine exE4 q fun h' tk' m' c' hy => el7 hy fun e F' N' k1 k2 hI' hm => ?_
      clear hy q
      subst e
      exact ⟨h', tk', m', H c' ++ rest, μ c', rfl, F', N', hm, c', rfl, rfl, k1, k2, hI'⟩
    | cont =>
      refine exE4 q fun h' tk' m' c' hy => el7 hy fun e F' N' k1 k2 hI' hm => ?_
      clear hy q
      subst e
      exact ⟨h', tk', m', H c' ++ rest, μ c', rfl, F', N', hm, c', rfl, rfl, k1, k2, hI'⟩
end loops
end
section -- G2
open PySem PySem.W PySem.Calls PyProof.Rows
set_option linter.unusedVariables false
set_option maxRecDepth 100000
/-- the built-ins that hold a bytearray while they run -/
def holderIds : List String := ["bytearray.__contains__", "bytearray.__mod__", "bytearray.__rmod__", "_struct.pack_into.held", "bytearray.find.held"] ++ Builtin.Bytes.decodersThatHold
def clean : Code → Bool
  | .builtin id _ => !holderIds.contains id
  | _ => true
def Clean (Γ : Ctx) : Prop := clean Γ.code = true ∧ ∀ c ∈ Γ.below, clean c.1 = true
theorem Clean.enter {Γ : Ctx} (h : Clean Γ) {c : Code} (hc : clean c = true) (hd : Option Value) (p : Pos) : Clean (Γ.enter c hd p) :=
  ⟨hc, fun x hx => by
    rcases List.mem_cons.mp hx with rfl | hx
    · exact h.1
    · exact h.2 x hx⟩
theorem Clean.goto {Γ : Ctx} (h : Clean Γ) {c : Code} (hc : clean c = true) : Clean (Γ.goto c) := ⟨hc, h.2⟩

def wpG {α : Type} (M : Model) (A : Around) (t : Sem α) (Q : α → Shared → Prop) (s : Shared) : Prop :=
  ∀ Γ p, Γ.In A → Clean Γ → Sem.wp M Γ t (fun a _ s' => Q a s') (fun _ _ _ => False) p s
def codeG (M : Model) (A : Around) (c : Code) (R : Flow → Shared → Prop) (s : Shared) : Prop :=
  ∀ Γ p, Γ.code = c → Γ.Below A → Clean Γ → wpCode M Γ (fun r s' => ∃ f, r = .ok f ∧ R f s') p s

section
variable {α β : Type} {M : Model} {A : Around} {s : Shared}
theorem wpG_of {t : Sem α} {Q : α → Shared → Prop} (h : wpAny M A t Q (fun _ _ => False) s) : wpG M A t Q s := fun Γ p hΓ _ => h Γ p hΓ
theorem wpG_mono {t : Sem α} {Q Q' : α → Shared → Prop} (h : wpG M A t Q s) (hQ : ∀ a s, Q a s → Q' a s) : wpG M A t Q' s :=
  fun Γ p hΓ hC => Sem.wp_mono M Γ t (fun a _ s => hQ a s) (fun _ _ _ x => x) p s (h Γ p hΓ hC)
theorem wpG_bind {m : Sem α} {f : α → Sem β} {Q : β → Shared → Prop} (h : wpG M A m (fun a s' => wpG M A (f a) Q s') s) : wpG M A (m >>= f) Q s := fun Γ p hΓ hC => by
  rw [Sem.wp_bind']
  exact Sem.wp_mono M Γ m (fun a p' s' h' => h' Γ p' hΓ hC) (fun _ _ _ x => x) p s (h Γ p hΓ hC)
theorem wpG_pure {a : α} {Q : α → Shared → Prop} (h : Q a s) : wpG M A (pure a) Q s := fun _ _ _ _ => h
theorem wpG_map {m : Sem α} {f : α → β} {Q : β → Shared → Prop} (h : wpG M A m (fun a s' => Q (f a) s') s) : wpG M A (f <$> m) Q s := fun Γ p hΓ hC => by
  rw [Sem.wp_map]; exact h Γ p hΓ hC
theorem wpG_onRaise {m : Sem α} {k : Value → Sem Unit} {Q : α → Shared → Prop} (h : wpG M A m Q s) : wpG M A (m.onRaise k) Q s := fun Γ p hΓ hC => by
  rw [Sem.wp_onRaise]
  exact Sem.wp_mono M Γ m (fun _ _ _ x => x) (fun _ _ _ x => x.elim) p s (h Γ p hΓ hC)
theorem wpG_tryCatch {m : Sem α} {k : Value → Sem α} {Q : α → Shared → Prop} (h : wpG M A m Q s) : wpG M A (tryCatch m k) Q s := fun Γ p hΓ hC => by
  rw [Sem.wp_tryCatch']
  exact Sem.wp_mono M Γ m (fun _ _ _ x => x) (fun _ _ _ x => x.elim) p s (h Γ p hΓ hC)
theorem wpG_attempt {m : Sem α} {Q : Except Value α → Shared → Prop} (h : wpG M A m (fun a => Q (.ok a)) s) : wpG M A m.attempt Q s := fun Γ p hΓ hC => by
  rw [Sem.wp_attempt]
  exact Sem.wp_mono M Γ m (fun _ _ _ x => x) (fun _ _ _ x => x.elim) p s (h Γ p hΓ hC)
theorem wpG_holding {vs : List Value} {m : Sem α} {Q : α → Shared → Prop} (h : wpG M A m Q s) : wpG M A (holding vs m) Q s := fun Γ p hΓ hC => by
  rw [Sem.wp_holding]; exact h Γ p hΓ hC
theorem wpG_keep {vs : List Value} {m : Sem α} {Q : α → Shared → Prop} (h : wpG M A m Q s) : wpG M A (m.keep vs) Q s := fun Γ p hΓ hC => by
  rw [Sem.wp_keep]; exact h Γ p hΓ hC
theorem wpG_standAt {pos : Pos} {Q : Unit → Shared → Prop} (h : Q () s) : wpG M A (standAt pos) Q s := fun _ _ _ _ => h
theorem wpG_point {Q : Unit → Shared → Prop} (h : Q () s) : wpG M A point Q s := fun _ _ _ _ => h
theorem wpG_of_eq {t : Sem α} {a : α} {Q : α → Shared → Prop} (e : t = pure a) (h : Q a s) : wpG M A t Q s := by subst e; exact wpG_pure h

theorem codeG_mono {c : Code} {R R' : Flow → Shared → Prop} (h : codeG M A c R s) (hR : ∀ r s, R r s → R' r s) : codeG M A c R' s :=
  fun Γ p hc hΓ hC => wpCode_mono (fun r s' ⟨f, e, x⟩ => ⟨f, e, hR f s' x⟩) (h Γ p hc hΓ hC)
theorem codeG_of_any {c : Code} {R : Flow → Shared → Prop} (h : codeAny M A c (fun r s' => match r with | .ok f => R f s' | .error _ => False) s) : codeG M A c R s :=
  fun Γ p hc hΓ _ => wpCode_mono (fun r s' x => by
    cases r with
    | ok f => exact ⟨f, rfl, x⟩
    | error e => exact x.elim) (h Γ p hc hΓ)
theorem mark_none (A : Around) : A.mark none = A := by
  obtain ⟨hd, d, fr, gs, u⟩ := A
  simp [Around.mark]
theorem wpG_run {c : Code} {Q : Flow → Shared → Prop} (hcl : clean c = true) (hc : codeG M A c Q s) : wpG M A (run c) Q s := fun Γ p hΓ hC => by
  rw [Sem.wp_run]
  have h1 := hΓ.enter c none p (by intro x; cases x)
  rw [mark_none] at h1
  refine wpCode_mono (fun r s' x => ?_) (hc (Γ.enter c none p) p rfl h1 (hC.enter hcl none p))
  obtain ⟨f, rfl, x⟩ := x
  exact x
theorem wpG_runValue {c : Code} {Q : Value → Shared → Prop} (hcl : clean c = true) (hc : codeG M A c (fun r s' => match r with | .ret v => Q v s' | _ => False) s) : wpG M A (runValue c) Q s := by
  unfold runValue
  refine wpG_bind (wpG_run hcl (codeG_mono hc fun f s' x => ?_))
  cases f with
  | ret v => exact wpG_pure x
  | _ => exact x.elim
theorem wpG_call {f : Value} {pos : List Value} {kw : List (Str × Value)} {Q : Value → Shared → Prop}
    (hc : codeG M A (.call f ⟨pos, kw⟩) (fun r s' => match r with | .ret v => Q v s' | _ => False) s) : wpG M A (call f pos kw) Q s := wpG_runValue rfl hc

def FinG (M : Model) (A : Around) (R : Flow → Shared → Prop) (fin : PySem.Fin) (s' : Shared) : Prop :=
  match fin with
  | .done f => R f s'
  | .again c' => c'.quiet = true ∧ clean c' = true ∧ codeG M A c' R s'
theorem codeG_of_tree {c : Code} {R : Flow → Shared → Prop} (h : wpG M (A.under c) (M.den c) (FinG M A R) s) : codeG M A c R s := fun Γ p hc hΓ hC => by
  rw [wpCode_iff_wp, hc]
  refine Sem.wp_mono M Γ _ (fun fin p' s' h' => ?_) (fun _ _ _ h' => h'.elim) p s (h Γ p (hc ▸ hΓ.in) hC)
  cases fin with
  | done f => exact ⟨f, rfl, h'⟩
  | again c' => exact ⟨h'.1, h'.2.2 (Γ.goto c') p' rfl (hΓ.goto c') (hC.goto h'.2.1)⟩
theorem codeG_loop {c : Code} {R : Flow → Shared → Prop} (hq : c.quiet = true) (hcl : clean c = true) (I : Nat → Shared → Prop)
    (turn : ∀ n s, I n s → wpG M (A.under c) (M.den c)
      (fun fin s' => match fin with
        | .done f => R f s'
        | .again c' => (c' = c ∧ ∃ m, m < n ∧ I m s') ∨ (c'.quiet = true ∧ clean c' = true ∧ codeG M A c' R s')) s)
    (n : Nat) (h : I n s) : codeG M A c R s := by
  induction n using Nat.strongRecOn generalizing s with
  | ind n ih =>
    refine codeG_of_tree (wpG_mono (turn n s h) (fun fin s' hf => ?_))
    cases fin with
    | done f => exact hf
    | again c' =>
      rcases hf with ⟨rfl, m, hm, hI⟩ | hf
      · exact ⟨hq, hcl, ih m hm hI⟩
      · exact hf
end

section stmts
variable {M : Model} {A : Around} {s : Shared} {env : Env}
theorem execsG_nil {Q : Flow → Shared → Prop} (h : Q .next s) : wpG M A (execs [] env) Q s := fun _ _ _ _ => h
/-- what a block asks of a statement's end -/
def nextQ (M : Model) (A : Around) (rest : List Stmt) (env : Env) (Q : Flow → Shared → Prop) (E : Value → Shared → Prop) (f : Flow) (s : Shared) : Prop :=
  match f with | .next => wpAny M A (execs rest env) Q E s | f => Q f s
def nextG (M : Model) (A : Around) (rest : List Stmt) (env : Env) (Q : Flow → Shared → Prop) (f : Flow) (s : Shared) : Prop :=
  match f with | .next => wpG M A (execs rest env) Q s | f => Q f s
section
variable {rest : List Stmt} {Q : Flow → Shared → Prop} {E : Value → Shared → Prop}
theorem execs_consQ {st} (h : wpAny M A (exec st env) (nextQ M A rest env Q E) E s) : wpAny M A (execs (st :: rest) env) Q E s := wpAny_execs_cons h
theorem nq_next (h : wpAny M A (execs rest env) Q E s) : nextQ M A rest env Q E .next s := h
theorem nq_ret {v} (h : Q (.ret v) s) : nextQ M A rest env Q E (.ret v) s := h
theorem nq_brk (h : Q .brk s) : nextQ M A rest env Q E .brk s := h
theorem nq_cont (h : Q .cont s) : nextQ M A rest env Q E .cont s := h
theorem ng_next (h : wpG M A (execs rest env) Q s) : nextG M A rest env Q .next s := h
theorem ng_ret {v} (h : Q (.ret v) s) : nextG M A rest env Q (.ret v) s := h
theorem ng_brk (h : Q .brk s) : nextG M A rest env Q .brk s := h
theorem ng_cont (h : Q .cont s) : nextG M A rest env Q .cont s := h
end
theorem execsG_cons {st rest} {Q : Flow → Shared → Prop}
    (h : wpG M A (exec st env) (nextG M A rest env Q) s) : wpG M A (execs (st :: rest) env) Q s := by
  rw [execs_cons]
  refine wpG_bind (wpG_mono h fun f s' x => ?_)
  cases f <;> first | exact x | exact wpG_pure x
/-- a statement that wpAny can walk -/
theorem execsG_any {st rest} {Q : Flow → Shared → Prop}
    (h : wpAny M A (exec st env) (nextG M A rest env Q) (fun _ _ => False) s) : wpG M A (execs (st :: rest) env) Q s := execsG_cons (wpG_of h)
theorem G_Return {e pos} {Q : Flow → Shared → Prop} (h : wpG M A (eval e env) (fun v => Q (.ret v)) s) : wpG M A (exec (.Return (some e) pos) env) Q s := by
  rw [exec_Return_some]
  exact wpG_bind (wpG_standAt (wpG_bind (wpG_mono h fun v s' x => wpG_pure x)))
theorem G_Expr {e pos} {Q : Flow → Shared → Prop} (h : wpG M A (eval e env) (fun v s' => match v with | .ref _ => False | _ => Q .next s') s)
    (hi : interactive env = false := by rfl) (hs : swapsWith e none pos.line env = pure false := by rfl) : wpG M A (exec (.Expr e pos) env) Q s := by
  rw [exec_Expr env e pos hi hs]
  refine wpG_bind (wpG_standAt (wpG_bind (wpG_mono h (fun v s' h' => ?_))))
  have hv : ∀ a, v ≠ .ref a := fun a hva => by subst hva; exact h'
  rw [dropValue_plain hv]
  refine wpG_pure ?_
  cases v <;> first | exact h' | exact (hv _ rfl).elim
theorem G_Assign_Name {x pos' value pos} {Q : Flow → Shared → Prop}
    (h : wpG M A (eval value env) (fun v s₁ => wpAny M A (storeName env x v) (fun _ => Q .next) (fun _ _ => False) s₁) s)
    (hs : swapsWith value (some (.Name x pos')) pos.line env = pure false := by rfl) : wpG M A (exec (.Assign [.Name x pos'] value pos) env) Q s := fun Γ p hΓ hC => by
  simp only [exec_Assign_Name env x pos' value pos hs, Sem.wp_bind', Sem.wp_cmd_standAt, Sem.wp_bindName, Sem.wp_pure']
  exact Sem.wp_mono M Γ _ (fun v _ s₁ h₁ => h₁ Γ _ hΓ) (fun _ _ _ h' => h') _ _ (h Γ _ hΓ hC)
theorem G_Assign_Attribute {o attr pos' value pos} {Q : Flow → Shared → Prop}
    (h : wpG M A (eval value env) (fun v s₁ => wpAny M A (eval o env) (fun ov s₂ => wpAny M A (setAttr ov attr v) (fun _ => Q .next) (fun _ _ => False) s₂) (fun _ _ => False) s₁) s)
    (hs : swapsWith value (some (.Attribute o attr pos')) pos.line env = pure false := by rfl) :
    wpG M A (exec (.Assign [.Attribute o attr pos'] value pos) env) Q s := fun Γ p hΓ hC => by
  simp only [plainObj_exec_Assign_Attribute o attr pos' value pos hs, assign_Attribute, Sem.wp_bind', Sem.wp_holding, Sem.wp_cmd_standAt, Sem.wp_release, Sem.wp_pure']
  exact Sem.wp_mono M Γ _ (fun v p₁ s₁ h₁ => Sem.wp_mono M Γ _ (fun ov _ s₂ h₂ => h₂ Γ _ hΓ) (fun _ _ _ h' => h') _ _ (h₁ Γ p₁ hΓ)) (fun _ _ _ h' => h') _ _ (h Γ _ hΓ hC)
theorem G_If {test body orelse pos} {Q : Flow → Shared → Prop}
    (h : wpG M A (isTrue test env (eval test env)) (fun b s₂ => if b = true then wpG M A (execs body env) Q s₂ else wpG M A (execs orelse env) Q s₂) s) :
    wpG M A (exec (.If test body orelse pos) env) Q s := by
  rw [exec_If]
  refine wpG_bind (wpG_standAt (wpG_bind (wpG_mono h fun b s₂ h₂ => ?_)))
  cases b <;> simpa using h₂
theorem G_isTrue_not {x pos whole} {Q : Bool → Shared → Prop} (h : wpG M A (isTrue x env (eval x env)) (fun c s' => Q (!c) s') s) :
    wpG M A (isTrue (.UnaryOp .Not x pos) env whole) Q s := by
  show wpG M A (do return !(← isTrue x env (eval x env))) Q s
  exact wpG_bind (wpG_mono h fun c s' h' => wpG_pure h')
theorem G_Call {func : Expr} {args : List Expr} {pos : Pos} {Q : Value → Shared → Prop}
    (h : wpAny M A (eval func env) (fun f s₁ => wpG M A (callWith pos f [] (backTo pos (starEach args env)) []) Q s₁) (fun _ _ => False) s)
    (he : eval (.Call func args [] pos) env = (do callWith pos (← eval func env) [] (backTo pos (starEach args env)) (backToKw pos (keywordEach [] env))) := by rfl) :
    wpG M A (eval (.Call func args [] pos) env) Q s := by
  rw [he]; exact wpG_bind (wpG_of h)
theorem G_MethodCall {o : Expr} {name : Str} {apos pos : Pos} {args : List Expr} {pl : Sem Bool} {Q : Value → Shared → Prop}
    (h : wpAny M A (eval o env) (fun ov s₁ => wpAny M A (getMethod ov name pl) (fun fx s₂ => wpG M A (callWith pos fx.1 fx.2 (backTo pos (starEach args env)) []) Q s₂) (fun _ _ => False) s₁) (fun _ _ => False) s)
    (he : eval (.Call (.Attribute o name apos) args [] pos) env = (do
      let ov ← eval o env
      standAt apos.atName
      let (f, first) ← holding [ov] (getMethod ov name pl)
      callWith pos f first (backTo pos (starEach args env)) []) := by rfl) :
    wpG M A (eval (.Call (.Attribute o name apos) args [] pos) env) Q s := by
  rw [he]
  refine wpG_bind (wpG_mono (wpG_of h) (fun ov s₁ h₁ => wpG_bind (wpG_standAt (wpG_bind (wpG_holding (wpG_mono (wpG_of h₁) (fun fx s₂ h₂ => ?_)))))))
  exact h₂
theorem G_callWith_of {P : Heap → Prop} {pos : Pos} {f : Value} {first : List Value} {args : List (Bool × Sem Value)} {keywords : List (Option Str × Sem Value)} {Q : Value → Shared → Prop} (hplain : (args.any (·.1) || keywords.any (·.1.isNone)) = false)
    (hk : ∀ h, P h → ∃ k, (k = Keeper.frame ∨ k = Keeper.machine ∨ k = Keeper.boundFrame) ∧ Looks M h (keeperOf f) k)
    (h : wpAny M A (evalArgs f true args keywords) (fun a s₁ => P s₁.heap ∧ wpG M A (call f (first ++ a.pos) a.kw) Q s₁) (fun _ _ => False) s) : wpG M A (callWith pos f first args keywords) Q s := by
  unfold callWith
  refine wpG_bind (wpG_holding (wpG_mono (wpG_of h) (fun a s₁ h₁ => wpG_bind (wpG_standAt ?_))))
  obtain ⟨k, hk', L⟩ := hk _ h₁.1
  simp only [hplain]
  refine wpG_bind (wpG_of (L.here ?_))
  have tail : ∀ {t : Sem Value}, wpG M A t Q s₁ → wpG M A (t >>= fun r => holding [r] point >>= fun _ => pure r) Q s₁ :=
    fun ht => wpG_bind (wpG_mono ht (fun r s₂ hr => wpG_bind (wpG_holding (wpG_point (wpG_pure hr)))))
  have marked (mk : Value) : wpG M A (callMarked mk f (first ++ a.pos) a.kw) Q s₁ := by unfold callMarked; exact wpG_keep h₁.2
  rcases hk' with rfl | rfl | rfl <;> dsimp only <;> first | exact tail h₁.2 | (split <;> first | exact tail h₁.2 | exact tail (marked _))
end stmts
end
section -- G3
open PySem PySem.W PySem.Calls PyProof.Rows
set_option linter.unusedVariables false
set_option maxRecDepth 100000
set_option maxHeartbeats 4000000
abbrev RG (R : Flow → Shared → Prop) : Result → Shared → Prop := fun r s' => match r with | .ok f => R f s' | .error _ => False
section
variable {prog : Program} {w : World} {A : Around} {s : Shared} {R : Flow → Shared → Prop}
theorem codeG_call_builtin {id : String} {args : Args} {b : Builtin} (hcl : clean (.builtin id args) = true) (hq : (Code.builtin id args).quiet = true) (hb : entryFor table id = some b)
    (h : wpAny (model prog w) A.in1 (checkBuiltinCall id args) (fun _ s₁ => wpG (model prog w) (A.under (.builtin id args)) (b args) (FinG (model prog w) A R) s₁) (fun _ _ => False) s) :
    codeG (model prog w) A (.call (.builtin id) args) R s := by
  refine codeG_of_tree ?_
  show wpG _ A.in1 (do checkBuiltinCall id args; again (.builtin id args)) _ s
  refine wpG_bind (wpG_mono (wpG_of h) (fun _ s₁ h₁ => wpG_pure ⟨hq, hcl, codeG_of_tree ?_⟩))
  show wpG _ _ (match entryFor table id with | some b => b args | none => unsupported ((withoutEnding? id "#data").getD id)) _ s₁
  rw [hb]; exact h₁
theorem codeG_builtin {id : String} {args : Args} {b : Builtin} (hb : entryFor table id = some b)
    (h : wpG (model prog w) (A.under (.builtin id args)) (b args) (FinG (model prog w) A R) s) : codeG (model prog w) A (.builtin id args) R s := by
  refine codeG_of_tree ?_
  show wpG _ _ (match entryFor table id with | some b => b args | none => unsupported ((withoutEnding? id "#data").getD id)) _ s
  rw [hb]; exact h
theorem codeG_func {body env} (h : wpG (model prog w) (A.deeper env) (execs body env) (fun f s' => R (.ret (match f with | .ret v => v | _ => .none)) s') s) :
    codeG (model prog w) A (.func body env) R s := by
  refine codeG_of_tree ?_
  show wpG _ (A.deeper env) (do point; match ← (execs body env).onRaise (leaving env) with | .ret v => ret v | _ => ret .none) _ s
  refine wpG_bind (wpG_point (wpG_bind (wpG_onRaise (wpG_mono h (fun f s' h' => ?_)))))
  cases f <;> exact wpG_pure h'
theorem codeG_call_function {a : Addr} {args : Args} {o : Obj} {fd : FuncData} {body : List Stmt} (hroom : A.depth < recursionLimit)
    (ho : s.heap.get? a = some o)
    (hd' : o.data = .func fd) (hco : fd.scope.isCoroutine = false) (hgen : fd.scope.isGenerator = false) (hbody : fd.body = .stmts body) (hcd : s.heap.CodeRec fd.code fd.qualname)
    (h : wpAny (model prog w) A.in1 (bindArgs fd args) (fun binds s₁ =>
      wpAny (model prog w) A.in1 (newFunctionEnv fd.scope fd.globals fd.closure binds (fd.qualname ++ ".<locals>.") (some a) fd.code none fd.builtins)
        (fun env s₂ => s₂.heap.NoLimit ∧ codeG (model prog w) A (.func body env) R s₂) (fun _ _ => False) s₁) (fun _ _ => False) s) :
    codeG (model prog w) A (.call (.ref a) args) R s := by
  refine codeG_of_tree ?_
  show wpG _ A.in1 (callAny (.ref a) args) _ s
  refine wpG_of ?_
  simp only [callAny]
  refine wpAny_bind (wpAny_load ho ?_)
  obtain ⟨c, oc, vs, tq, hc, hoc, hdc, hq⟩ := hcd
  simp only [hd', callFunction, hco, hgen, hbody, hc]
  rw [hc] at h
  refine wpAny_bind (m := field (.ref c) 1) (wpAny_field hoc hdc hq (wpAny_bind (wpAny_pure ?_)))
  exact wpAny_bind (wpAny_mono h (fun binds s₁ h₁ => wpAny_bind (wpAny_mono h₁ (fun env s₂ h₂ => wpAny_bind (wpAny_enterFrame h₂.1 hroom
    (wpAny_pure ⟨rfl, rfl, h₂.2⟩))) fun _ _ h' => h')) fun _ _ h' => h')
theorem codeG_call_def {a : Addr} {o : Obj} {fd : FuncData} {body : List Stmt} {args : Args} {binds : List (Str × Value)}
    (hroom : A.depth < recursionLimit) (ho : s.heap.get? a = some o) (hdata : o.data = .func fd) (hlim : s.heap.NoLimit) (hcd : s.heap.CodeRec fd.code fd.qualname)
    (hbody : fd.body = .stmts body) (hbind : BindsTo s fd args binds)
    (hcell : ∀ x ∈ fd.scope.names, x.2 ≠ .cell) (hloc : ∀ x ∈ binds, fd.scope.names.lookup x.1 = some .local)
    (h : ∀ h₀, h₀.Ns s.heap.objs.size (fun x => binds.reverse.lookup x) → (∀ b o, s.heap.get? b = some o → h₀.get? b = some o) →
      wpG (model prog w) (A.deeper (callEnv fd s.heap.objs.size a)) (execs body (callEnv fd s.heap.objs.size a)) (fun f s' => R (.ret (match f with | .ret v => v | _ => .none)) s')
        { s with heap := h₀, toks := s.toks + binds.length })
    (hco : fd.scope.isCoroutine = false := by rfl) (hgen : fd.scope.isGenerator = false := by rfl) (hk : fd.scope.kind = .function := by rfl) :
    codeG (model prog w) A (.call (.ref a) args) R s := by
  refine codeG_call_function hroom ho hdata hco hgen hbody hcd (hbind _ _ _ _ ?_)
  refine wpAny_newFunctionEnv hcell hloc (fun h₀ hns₀ hsb₀ => ⟨hlim.fresh _ hsb₀, codeG_func (h h₀ hns₀ fun b o e => ?_)⟩) hk
  exact hsb₀.extBut b o (Nat.ne_of_lt (Heap.lt_size e)) (Heap.get?_push_of_some _ e)
end
section
variable {prog : Program} {w : World} {A₀ A : Around} {s : Shared} {base h₀ : Heap} {outer : List Env} {L : Addr} {m : Str → Option Value} {env : Env} {news : List (Addr × Obj)} {K : Frag}
  {R : Flow → Shared → Prop} {name qual : Str} {params : Arguments} {body : List Stmt} {scope : Scope} {dV kV doc pm cdv ct oc : Value} {an od : Option Addr} {osl : Array (Option Value)} {f : Addr} {args : Args} {binds : List (Str × Value)}
  {p : Program} {loose : List Str} {mean : ExcName → Option Value} {mg mb : Str → Option Value}
theorem codeG_def
    (B : Below A₀ base outer h₀) (F : Fr h₀ L s.heap m) (X₀ : K.In h₀) (N : News h₀ L s.heap news) (T : Top p loose mean mg mb h₀) (hA : A.frames = some (env :: outer)) (hf : env.frame = some L) (hke : env.scope.kind = .function)
    (ho : K.lookup f = some ⟨oc, od, .func (fnOf name qual params body scope dV kV doc pm an cdv ct), osl⟩) (hcd : codeIn K cdv qual = true) (hroom : A.depth < recursionLimit)
    (hbind : BindsTo s (fnOf name qual params body scope dV kV doc pm an cdv ct) args binds) (hloc : ∀ y ∈ binds, scope.names.lookup y.1 = some .local)
    (h : ∀ g L' h₁, Fr h₀ L g m → Fr g L' h₁ (fun y => binds.reverse.lookup y) → News g L' h₁ news → Below A base (env :: outer) g → K.In g → Top p loose mean mg mb g →
      wpG (model prog w) (A.deeper (envOf qual scope L' f cdv)) (execs body (envOf qual scope L' f cdv))
        (fun fl s' => LeaveK h₀ L m g (RG R) (match fl with | .ret v => v | _ => .none) s')
        { s with heap := h₁, toks := s.toks + binds.length })
    (hco : scope.isCoroutine = false) (hgen : scope.isGenerator = false) (hk : scope.kind = .function)
    (hcell : ∀ x ∈ scope.names, x.2 ≠ .cell) : codeG (model prog w) A (.call (.ref f) args) R s := by
  have ho' := (X₀.keeps F.keep) _ _ ho
  have hcd' := codeRec_of (X₀.keeps F.keep) hcd
  obtain ⟨FG, BG, st, lv⟩ := groundX (R := RG R) B F N hA hf hke
  refine codeG_call_def (fd := fnOf name qual params body scope dV kV doc pm an cdv ct) (body := body) (binds := binds) hroom ho' rfl (T.nolimit.keeps F.keep) hcd' rfl hbind hcell hloc (fun h₁ hns hk₁ => ?_) hco hgen hk
  refine wpG_mono (h _ s.heap.objs.size h₁ FG ⟨hns, fun b o e => hk₁ b o (of_hideAll _ e), Nat.le_of_eq (hideAll_size _ _)⟩
    (fun p hp => ⟨hk₁ _ _ (N p hp).1, Nat.ne_of_lt (Heap.lt_size (N p hp).1), hideAll_none _ (List.mem_map_of_mem hp)⟩) BG (X₀.keeps st) (T.keeps st)) (fun fl s' hl => lv _ _ hl)
end
end
section -- L1
open PySem PySem.W PySem.Calls PyProof.Rows
set_option linter.unusedVariables false
set_option maxRecDepth 100000
set_option maxHeartbeats 4000000
abbrev bao (b : Array UInt8) : Obj := { cls := .type "bytearray", data := .bytearray b }
theorem ba_mro : mroOf (.type "bytearray") = pure [.type "bytearray", .type "object"] := by rw [mroOf_type]; kernel_rfl
theorem ba_lookup_new : typeLookup (.type "bytearray") "__new__" = pure (some (.builtin "bytearray.__new__")) := by rw [typeLookup_type, builtinLookup_eq_fast]; kernel_rfl
theorem ba_slot_init : Slot "bytearray" "__init__" "bytearray.__init__" :=
  .of (owner := "bytearray") (n := "__init__") (by rw [typeLookup_type, builtinLookup_eq_fast]; kernel_rfl) (by decide +kernel) (by decide +kernel) (by decide +kernel)
    (by first | exact .inl (by decide +kernel) | exact .inr (by decide +kernel)) (by rw [isSubtype_type]; kernel_rfl)
theorem ba_called : TypeCalled "bytearray" "bytearray.__new__" "bytearray.__init__" :=
  ⟨by decide +kernel, by decide +kernel, ⟨_, _, ba_mro⟩, madeBy_type ba_mro ba_lookup_new (by decide +kernel), by decide +kernel, by rw [isSubtype_type]; kernel_rfl, ba_slot_init⟩
theorem ba_typeCall : checkTypeCall "bytearray" ⟨[], []⟩ = pure () := by kernel_rfl
theorem ba_newCall : checkBuiltinCall "bytearray.__new__" ⟨[.type "bytearray"], []⟩ = pure () := by kernel_rfl
theorem ba_entry_new : entryFor table "bytearray.__new__" = some Builtin.«list.__new__» :=
  entryFor_alias (id' := "list.__new__") (by kernel_rfl) (by decide +kernel) (by decide +kernel) (by kernel_rfl)
theorem ba_entry_init : entryFor table "bytearray.__init__" = some Builtin.«bytearray.__init__» := by first | exact entryFor_of_fast (by kernel_rfl) | exact entryFor_of_tree (by kernel_rfl)
theorem ba_plain_new : plainId "bytearray.__new__" = true := by decide +kernel
theorem ba_slot_append : Slot "bytearray" "append" "bytearray.append" :=
  .of (owner := "bytearray") (n := "append") (by rw [typeLookup_type, builtinLookup_eq_fast]; kernel_rfl) (by decide +kernel) (by decide +kernel) (by decide +kernel)
    (by first | exact .inl (by decide +kernel) | exact .inr (by decide +kernel)) (by rw [isSubtype_type]; kernel_rfl)
theorem ba_slot_extend : Slot "bytearray" "extend" "bytearray.extend" :=
  .of (owner := "bytearray") (n := "extend") (by rw [typeLookup_type, builtinLookup_eq_fast]; kernel_rfl) (by decide +kernel) (by decide +kernel) (by decide +kernel)
    (by first | exact .inl (by decide +kernel) | exact .inr (by decide +kernel)) (by rw [isSubtype_type]; kernel_rfl)
theorem ba_entry_append : entryFor table "bytearray.append" = some Builtin.«bytearray.append» := by first | exact entryFor_of_fast (by kernel_rfl) | exact entryFor_of_tree (by kernel_rfl)
theorem ba_entry_extend : entryFor table "bytearray.extend" = some Builtin.«bytearray.extend» := by first | exact entryFor_of_fast (by kernel_rfl) | exact entryFor_of_tree (by kernel_rfl)
theorem ba_args_append (a b : Value) : argsOk "bytearray.append" ⟨[a, b], []⟩ := by unfold argsOk; kernel_rfl
theorem ba_args_extend (a b : Value) : argsOk "bytearray.extend" ⟨[a, b], []⟩ := by unfold argsOk; kernel_rfl
theorem ba_args_init (a : Value) : argsOk "bytearray.__init__" ⟨[a], []⟩ := by unfold argsOk; kernel_rfl
theorem ba_type_append : typeOf (.builtin "bytearray.append") = pure (.type "method_descriptor") := by show builtinType _ = _; rw [builtinType_eq_fast]; kernel_rfl
theorem ba_type_extend : typeOf (.builtin "bytearray.extend") = pure (.type "method_descriptor") := by show builtinType _ = _; rw [builtinType_eq_fast]; kernel_rfl
set_option maxRecDepth 1000000 in
theorem ba_owner : ("bytearray.__new__".splitOn ".__new__").headD "" = "bytearray" := by simp +decide [String.splitOn, String.splitOnAux]
theorem ba_sub : isSubtype (.type "bytearray") (.type "bytearray") = pure true := by rw [isSubtype_type]; kernel_rfl
theorem ba_release : typeLookup (.type "bytearray") "__release_buffer__" = pure (some (.builtin "bytearray.__release_buffer__")) := by rw [typeLookup_type, builtinLookup_eq_fast]; kernel_rfl

theorem clean_any {l : List (Code × Pos)} (h : ∀ c ∈ l, clean c.1 = true) {f : Code × Pos → Bool} (hf : ∀ c, clean c.1 = true → f c = false) : l.any f = false :=
  List.any_eq_false.mpr fun c hc => by rw [hf c (h c hc)]; decide
theorem wpG_exported {M : Model} {A : Around} {s : Shared} {v : Value} {Q : Bool → Shared → Prop} (h : Q false s) : wpG M A (Builtin.Bytes.exported v) Q s := fun Γ p hΓ hC => by
  unfold Builtin.Bytes.exported
  rw [Sem.wp_bind']
  unfold stack
  rw [Sem.wp_stack, Sem.wp_pure, Sem.wp_pure']
  rw [clean_any (l := (Γ.code, p) :: Γ.below)]
  · exact h
  · intro c hc
    rcases List.mem_cons.mp hc with rfl | hc
    · exact hC.1
    · exact hC.2 c hc
  · rintro ⟨c, p⟩ hc
    cases c with
    | builtin id a =>
      have hn : id ∉ holderIds := by
        intro hm
        have : holderIds.contains id = true := List.contains_iff_mem.mpr hm
        simp only [clean, this] at hc
        cases hc
      simp only [holderIds, List.mem_append, List.mem_cons, List.not_mem_nil, or_false, not_or] at hn
      obtain ⟨⟨h1, h2, h3, h4, h5⟩, h6⟩ := hn
      have h7 : Builtin.Bytes.decodersThatHold.contains id = false := by
        cases q : Builtin.Bytes.decodersThatHold.contains id with
        | false => rfl
        | true => exact absurd (List.contains_iff_mem.mp q) h6
      obtain ⟨pos, kw⟩ := a
      show Builtin.Bytes.exported.match_1 _ _ _ _ _ _ _ _ _ = _
      delta Builtin.Bytes.exported.match_1
      dsimp only
      refine (dif_neg h1).trans ?_
      refine (dif_neg h2).trans ?_
      refine (dif_neg h3).trans ?_
      refine (dif_neg h4).trans ?_
      refine (dif_neg h5).trans ?_
      cases pos with
      | nil => rfl
      | cons v r => exact (congrArg (Builtin.Bytes.sameRef v _ && ·) h7).trans (Bool.and_false _)
    | _ => rfl

theorem by_buffer : typeLookup (.type "bytes") "__buffer__" = pure (some (.builtin "bytes.__buffer__")) := by rw [typeLookup_type, builtinLookup_eq_fast]; kernel_rfl
theorem by_release : typeLookup (.type "bytes") "__release_buffer__" = pure none := by rw [typeLookup_type, builtinLookup_eq_fast]; kernel_rfl
theorem by_bytes : typeLookup (.type "bytes") "__bytes__" = pure (some (.builtin "bytes.__bytes__")) := by rw [typeLookup_type, builtinLookup_eq_fast]; kernel_rfl
theorem by_sub : isSubtype (.type "bytes") (.type "bytes") = pure true := by rw [isSubtype_type]; kernel_rfl
theorem ba_buffer : typeLookup (.type "bytearray") "__buffer__" = pure (some (.builtin "bytearray.__buffer__")) := by rw [typeLookup_type, builtinLookup_eq_fast]; kernel_rfl
theorem ba_bytes : typeLookup (.type "bytearray") "__bytes__" = pure none := by rw [typeLookup_type, builtinLookup_eq_fast]; kernel_rfl
theorem ba_index : typeLookup (.type "bytearray") "__index__" = pure none := by rw [typeLookup_type, builtinLookup_eq_fast]; kernel_rfl
section
variable {prog : Program} {w : World} {M : Model} {A : Around} {s : Shared} {E : Value → Shared → Prop} {D : Addr} {b : Array UInt8}
theorem ba_write {f : Array UInt8 → Array UInt8} {Q : Unit → Shared → Prop} (ho : s.heap.get? D = some (bao b)) (hz : (f b).size ≤ sizeLine)
    (h : (s.heap.update D (Obj.mapBytearray f)).get? D = some (bao (f b)) → Q () { s with heap := s.heap.update D (Obj.mapBytearray f) }) : wpAny M A (Builtin.Bytes.write (.ref D) f) Q E s := by
  show wpAny _ _ (updateBytearray D f) _ _ _
  unfold updateBytearray
  refine wpAny_bind (wpAny_load ho ?_)
  show wpAny _ _ (update D (Obj.mapBytearray f) >>= fun _ => lookBehind D) _ _ _
  refine wpAny_bind (wpAny_update ho ?_)
  have hS : (s.heap.update D (Obj.mapBytearray f)).get? D = some (bao (f b)) := Heap.get?_update_self (Obj.mapBytearray f) ho rfl
  refine wpAny_lookBehind hS ?_ (h hS)
  show (if (f b).size > sizeLine then some "bytearray:memory" else none) = none
  rw [if_neg (by omega)]
theorem ba_payload {Q : Array UInt8 → Shared → Prop} (ho : s.heap.get? D = some (bao b)) (h : Q b s) : wpAny M A (Builtin.Bytes.payload (.ref D)) Q E s := by
  unfold Builtin.Bytes.payload Builtin.Bytes.payload?
  refine wpAny_bind (wpAny_bind (wpAny_load ho ?_))
  exact wpAny_pure (wpAny_pure h)
theorem ba_exports {Q : Nat → Shared → Prop} (ho : s.heap.get? D = some (bao b)) (h : Q 0 s) : wpAny M A (Builtin.Bytes.exportsOf (.ref D)) Q E s := by
  unfold Builtin.Bytes.exportsOf
  refine wpAny_bind (wpAny_load ho ?_)
  exact wpAny_pure h
theorem ba_resize {Q : Unit → Shared → Prop} (ho : s.heap.get? D = some (bao b)) (h : Q () s) : wpG M A (Builtin.Bytes.checkResize (.ref D)) Q s := by
  unfold Builtin.Bytes.checkResize orM
  refine wpG_bind (wpG_bind (m := Builtin.Bytes.exported (.ref D)) (wpG_exported ?_))
  refine wpG_of ?_
  show wpAny _ _ (Builtin.Bytes.exportsOf (.ref D) >>= _) _ _ _
  refine wpAny_bind (ba_exports ho (wpAny_pure ?_))
  exact wpG_pure h
theorem slotOwn {v : Value} {T : String} {name : String} {id : String} {Q : Bool → Shared → Prop} (hT : s.TypeIs v T) (hl : typeLookup (.type T) (name : Str) = pure (some (.builtin id))) (he : id.endsWith ("." ++ name) = true)
    (hd : id.dropRight (name.length + 1) = T) (hs : isSubtype (.type T) (.type T) = pure true) (h : Q true s) : wpAny M A (Builtin.Bytes.slotIsOwn v name) Q E s := by
  unfold Builtin.Bytes.slotIsOwn
  refine wpAny_bind (wpAny_specialOf hT hl ?_)
  dsimp only
  rw [he, hd]
  exact wpAny_isInstance hT hs h
theorem slotOwn_none {v : Value} {T : String} {name : String} {Q : Bool → Shared → Prop} (hT : s.TypeIs v T) (hl : typeLookup (.type T) (name : Str) = pure none) (h : Q true s) : wpAny M A (Builtin.Bytes.slotIsOwn v name) Q E s := by
  unfold Builtin.Bytes.slotIsOwn
  exact wpAny_bind (wpAny_specialOf hT hl (wpAny_pure h))
theorem by_bufs (id : String) (c : Array UInt8) (t : Tok) (full : Bool) {Q : Option (Array UInt8) → Shared → Prop} (h : Q (some c) s) : wpAny M A (Builtin.Bytes.buffer? id (.bytes c t) full) Q E s := by
  have hT := typeIs_bytes s c t
  unfold Builtin.Bytes.buffer?
  refine wpAny_bind (wpAny_specialOf hT by_buffer ?_)
  refine wpAny_bind (slotOwn hT by_buffer (by decide +kernel) (by decide +kernel) by_sub ?_)
  refine wpAny_bind (wpAny_specialOf hT by_buffer ?_)
  refine wpAny_bind ?_
  unfold Builtin.Bytes.ownRelease
  refine wpAny_bind (slotOwn_none hT by_release ?_)
  refine wpAny_pure ?_
  show wpAny _ _ (Builtin.Bytes.payload (.bytes c t) >>= _) _ _ _
  unfold Builtin.Bytes.payload Builtin.Bytes.payload?
  exact wpAny_bind (wpAny_bind (wpAny_pure (wpAny_pure (wpAny_pure h))))
theorem by_takes (id : String) (c : Array UInt8) (t : Tok) {Q : Option (Array UInt8 × Option Value) → Shared → Prop} (h : Q (some (c, none)) s) : wpAny M A (Builtin.Bytes.takeBufferQuiet? id (.bytes c t) 0) Q E s := by
  have hT := typeIs_bytes s c t
  unfold Builtin.Bytes.takeBufferQuiet? Builtin.Bytes.takeBuffer?
  refine wpAny_bind (wpAny_attempt ?_)
  refine wpAny_bind (wpAny_specialOf hT by_buffer ?_)
  refine wpAny_bind (slotOwn hT by_buffer (by decide +kernel) (by decide +kernel) by_sub ?_)
  refine wpAny_bind (wpAny_specialOf hT by_buffer ?_)
  refine wpAny_bind (by_bufs _ _ _ _ ?_)
  exact wpAny_pure (wpAny_pure h)
theorem ba_bufs (id : String) (full : Bool) {Q : Option (Array UInt8) → Shared → Prop} (ho : s.heap.get? D = some (bao b)) (h : Q (some b) s) : wpAny M A (Builtin.Bytes.buffer? id (.ref D) full) Q E s := by
  have hT : s.TypeIs (.ref D) "bytearray" := ⟨_, ho, rfl⟩
  unfold Builtin.Bytes.buffer?
  refine wpAny_bind (wpAny_specialOf hT ba_buffer ?_)
  refine wpAny_bind (slotOwn hT ba_buffer (by decide +kernel) (by decide +kernel) ba_sub ?_)
  refine wpAny_bind (wpAny_specialOf hT ba_buffer ?_)
  refine wpAny_bind ?_
  unfold Builtin.Bytes.ownRelease
  refine wpAny_bind (slotOwn hT ba_release (by decide +kernel) (by decide +kernel) ba_sub ?_)
  refine wpAny_pure ?_
  show wpAny _ _ (Builtin.Bytes.payload (.ref D) >>= _) _ _ _
  exact wpAny_bind (ba_payload ho (wpAny_pure h))
end
section
variable {prog : Program} {w : World} {A : Around} {s : Shared} {E : Value → Shared → Prop} {D : Addr} {b : Array UInt8} {h₀ : Heap} {L : Addr} {m : Str → Option Value} {news pre post : List (Addr × Obj)}
/-- what a call of a built-in gives -/
theorem wpG_call_entry {T : String} {name : Str} {id : String} {bl : Builtin} {self : Value} {rest : List Value} {Q : Value → Shared → Prop} (h : Slot T name id) (hT : s.TypeIs self T)
    (hb : entryFor table id = some bl) (hcl : holderIds.contains id = false)
    (hc : wpG (model prog w) A.in1 (bl ⟨self :: rest, []⟩) (fun fin s' => ∃ v, fin = .done (.ret v) ∧ Q v s') s) (ha : argsOk id ⟨self :: rest, []⟩) :
    wpG (model prog w) A (call (.builtin id) (self :: rest)) Q s := by
  refine wpG_call (codeG_call_builtin (by simp only [clean, hcl, Bool.not_false]) (plainId_quiet h.plain _) hb (h.check _ _ _ _ _ _ _ _ hT ha ?_))
  rw [Around.under_plainId h.plain _]
  refine wpG_mono hc (fun fin s' h' => ?_)
  obtain ⟨v, rfl, hv⟩ := h'; exact hv
theorem ba_append {n : Int} {t : Tok} {Q : Value → Shared → Prop} (F : Fr h₀ L s.heap m) (N : News h₀ L s.heap ((D, bao b) :: news)) (hoff : ∀ p ∈ news, p.1 ≠ D) (h0 : 0 ≤ n) (h1 : n < 256) (hz : b.size < sizeLine)
    (h : ∀ h', Fr h₀ L h' m → News h₀ L h' ((D, bao (b.push n.toNat.toUInt8)) :: news) → Q .none { s with heap := h' }) :
    wpG (model prog w) A (call (.builtin "bytearray.append") [.ref D, .int n t]) Q s := by
  have ho := (N _ (.head _)).1
  refine wpG_call_entry ba_slot_append ⟨_, ho, rfl⟩ ba_entry_append (by decide +kernel) ?_ (ba_args_append _ _)
  unfold Builtin.«bytearray.append»
  refine wpG_bind (wpG_pure (a := (Value.ref D, Value.int n t)) ?_)
  refine wpG_bind (wpG_of_eq (a := n.toNat.toUInt8) ?_ ?_)
  · unfold Builtin.Bytes.byteValue
    show (if (decide (n < 0) || decide (n ≥ 256)) = true then _ else _) = _
    rw [if_neg (by simp only [Bool.or_eq_true, decide_eq_true_eq]; omega)]
  refine wpG_bind (ba_resize ho ?_)
  refine wpG_bind (wpG_of (ba_write ho (by rw [Array.size_push]; omega) fun hS => ?_))
  exact wpG_pure ⟨_, rfl, h _ (F.change (Heap.SameBut.update ..) (N _ (.head _)).2.1 (N _ (.head _)).2.2) (news_set (pre := []) N (fun _ h => by cases h) hoff (Heap.SameBut.update ..) hS)⟩
theorem ba_extend {c : Array UInt8} {t : Tok} {Q : Value → Shared → Prop} (F : Fr h₀ L s.heap m) (N : News h₀ L s.heap ((D, bao b) :: news)) (hoff : ∀ p ∈ news, p.1 ≠ D) (hz : b.size + c.size ≤ sizeLine)
    (h : ∀ h', Fr h₀ L h' m → News h₀ L h' ((D, bao (b ++ c)) :: news) → Q .none { s with heap := h' }) :
    wpG (model prog w) A (call (.builtin "bytearray.extend") [.ref D, .bytes c t]) Q s := by
  have ho := (N _ (.head _)).1
  refine wpG_call_entry ba_slot_extend ⟨_, ho, rfl⟩ ba_entry_extend (by decide +kernel) ?_ (ba_args_extend _ _)
  unfold Builtin.«bytearray.extend»
  refine wpG_bind (wpG_pure (a := (Value.ref D, Value.bytes c t)) ?_)
  refine wpG_bind (wpG_of (wpAny_specialOf (typeIs_bytes s c t) by_buffer ?_))
  refine wpG_bind (wpG_of (wpAny_rule ?_))
  refine wpG_bind (wpG_of (ba_payload ho ?_))
  refine wpG_bind (wpG_of (by_takes _ _ _ ?_))
  show wpG _ _ (if (!c.isEmpty) = true then Builtin.Bytes.checkResize (.ref D) >>= fun _ => (Builtin.Bytes.write (.ref D) (· ++ c) >>= fun _ => ret .none) else (Builtin.Bytes.write (.ref D) (· ++ c) >>= fun _ => ret .none)) _ _
  have fin : wpG (model prog w) A.in1 (Builtin.Bytes.write (.ref D) (· ++ c) >>= fun _ => ret .none) (fun fin s' => ∃ v, fin = .done (.ret v) ∧ Q v s') s := by
    refine wpG_bind (wpG_of (ba_write ho (by rw [Array.size_append]; exact hz) fun hS => ?_))
    exact wpG_pure ⟨_, rfl, h _ (F.change (Heap.SameBut.update ..) (N _ (.head _)).2.1 (N _ (.head _)).2.2) (news_set (pre := []) N (fun _ h => by cases h) hoff (Heap.SameBut.update ..) hS)⟩
  cases c.isEmpty
  · exact wpG_bind (ba_resize ho fin)
  · exact fin
theorem ba_getattribute : typeLookup (.type "bytearray") "__getattribute__" = pure (some (.builtin "bytearray.__getattribute__")) := by rw [typeLookup_type, builtinLookup_eq_fast]; kernel_rfl
theorem ba_getattr_none : typeLookup (.type "bytearray") "__getattr__" = pure none := by rw [typeLookup_type, builtinLookup_eq_fast]; kernel_rfl
theorem ba_canon : Manifest.canonical "bytearray.__getattribute__" = "object.__getattribute__" := by decide +kernel
theorem ba_method {name : Str} {id : String} {pl : Sem Bool} {Q : Value × List Value → Shared → Prop} (ho : s.heap.get? D = some (bao b)) (hS : Slot "bytearray" name id) (ht : typeOf (.builtin id) = pure (.type "method_descriptor"))
    (h : Q (.builtin id, [.ref D]) s) : wpAny (model prog w) A (getMethod (.ref D) name pl) Q E s := by
  have hT : s.TypeIs (.ref D) "bytearray" := ⟨_, ho, rfl⟩
  unfold getMethod
  refine wpAny_bind (wpAny_specialOf hT ba_getattribute ?_)
  show wpAny _ A (if (Manifest.canonical "bytearray.__getattribute__" != "object.__getattribute__") = true then _ else _) Q E s
  rw [ba_canon, if_neg (by decide)]
  refine wpAny_bind (wpAny_specialOf hT ba_getattr_none ?_)
  refine wpAny_bind (wpAny_specialOf hT hS.lookup ?_)
  refine wpAny_bind (wpAny_of_eq ht ?_)
  refine wpAny_bind (wpAny_load ho ?_)
  exact wpAny_bind (wpAny_rule (wpAny_pure h))
end
end
section -- L2
open PySem PySem.W PySem.Calls PyProof.Rows
set_option linter.unusedVariables false
set_option maxRecDepth 100000
set_option maxHeartbeats 4000000
section
variable {prog : Program} {w : World} {A : Around} {s : Shared} {E : Value → Shared → Prop} {D : Addr} {b : Array UInt8} {h₀ : Heap} {L : Addr} {m : Str → Option Value} {news pre post : List (Addr × Obj)}
theorem by_newCall (a : Value) : checkBuiltinCall "bytes.__new__" ⟨[.type "bytes", a], []⟩ = pure () := F.bm_newCall a
theorem by_call {x : Value} {Q : Value → Shared → Prop}
    (hnew : ∀ A : Around, wpAny (model prog w) A (Builtin.«bytes.__new__» ⟨[.type "bytes", x], []⟩) (fun fin s' => ∃ v, fin = .done (.ret v) ∧ s'.TypeIs v "bytes" ∧ Q v s') (fun _ _ => False) s) :
    wpAny (model prog w) A (call (.type "bytes") [x]) Q E s := by
  refine callType_codes (Q₁ := fun obj s₁ => s₁.TypeIs obj "bytes" ∧ Q obj s₁) F.bm_called (F.bm_typeCall _) F.entry_object_init ?_ fun obj s₁ h₁ => ?_
  · refine codeAny_of_tree ?_
    show wpAny _ A.in1.in1 (do checkBuiltinCall "bytes.__new__" ⟨[.type "bytes", x], []⟩; again (.builtin "bytes.__new__" ⟨[.type "bytes", x], []⟩)) _ _ s
    refine wpAny_bind (wpAny_of_eq (F.bm_newCall _) (wpAny_pure ⟨plainId_quiet F.bm_plain _, codeAny_builtin F.bm_entry ?_⟩))
    refine wpAny_mono (hnew _) (fun fin s' h => ?_) fun _ _ h => h.elim
    obtain ⟨v, rfl, h1, h2⟩ := h
    exact ⟨h1, h2⟩
  · exact ⟨h₁.1, F.args_object_init_2 obj _, object_init_meets F.bm_called.init.lookup F.bm_called.made (by decide) prog w A.in1 _ s₁ ⟨h₁.1, rfl, h₁.2⟩⟩
theorem by_of_bytes {c : Array UInt8} {t : Tok} {Q : Value → Shared → Prop} (h : Q (.bytes c t) s) : wpAny (model prog w) A (call (.type "bytes") [.bytes c t]) Q E s := by
  refine by_call fun A => ?_
  unfold Builtin.«bytes.__new__»
  refine wpAny_bind (wpAny_of_eq (a := true) rfl ?_)
  refine bm_if_false rfl ?_
  refine wpAny_bind (wpAny_of_eq F.bm_sub ?_)
  refine bm_if_false rfl ?_
  refine wpAny_bind (wpAny_of_eq (F.bm_bind _) ?_)
  refine wpAny_bind (wpAny_of_eq (a := ()) rfl ?_)
  refine wpAny_bind (wpAny_of_eq (a := ()) rfl ?_)
  refine bm_if_false rfl ?_
  refine wpAny_bind (wpAny_specialOf (typeIs_bytes s c t) by_bytes ?_)
  refine wpAny_bind (wpAny_rule ?_)
  refine wpAny_bind (wpAny_typeOf (typeIs_bytes s c t) ?_)
  refine bm_if_true (by decide) ?_
  show wpAny _ _ (if (Value.type "bytes" == Value.type "bytes") = true then _ else _) _ _ _
  refine bm_if_true (by decide) ?_
  first
    | exact wpAny_pure ⟨_, rfl, typeIs_bytes _ _ _, h⟩
    | exact wpAny_bind (wpAny_pure (wpAny_pure ⟨_, rfl, typeIs_bytes _ _ _, h⟩))
theorem by_of_ba {Q : Value → Shared → Prop} (F' : Fr h₀ L s.heap m) (N : News h₀ L s.heap news) (ho : s.heap.get? D = some (bao b)) (hz : b.size ≤ sizeLine) (h : ∀ t tk, Fr h₀ L s.heap m → News h₀ L s.heap news → Q (.bytes b t) { s with toks := tk }) :
    wpAny (model prog w) A (call (.type "bytes") [.ref D]) Q E s := by
  have hT : s.TypeIs (.ref D) "bytearray" := ⟨_, ho, rfl⟩
  refine by_call fun A => ?_
  unfold Builtin.«bytes.__new__»
  refine wpAny_bind (wpAny_of_eq (a := true) rfl ?_)
  refine bm_if_false rfl ?_
  refine wpAny_bind (wpAny_of_eq F.bm_sub ?_)
  refine bm_if_false rfl ?_
  refine wpAny_bind (wpAny_of_eq (F.bm_bind _) ?_)
  refine wpAny_bind (wpAny_of_eq (a := ()) rfl ?_)
  refine wpAny_bind (wpAny_of_eq (a := ()) rfl ?_)
  refine bm_if_false rfl ?_
  refine wpAny_bind (wpAny_specialOf hT ba_bytes ?_)
  refine wpAny_bind (wpAny_bind ?_)
  show wpAny _ _ (load D >>= _) _ _ _
  refine wpAny_bind (wpAny_load ho ?_)
  refine wpAny_pure (wpAny_pure ?_)
  refine bm_if_false rfl ?_
  refine wpAny_bind (wpAny_specialOf hT ba_index ?_)
  refine bm_if_true rfl ?_
  first
    | show wpAny _ _ (Builtin.Bytes.buffer? "bytes.__new__" (.ref D) true >>= _) _ _ _
    | (refine wpAny_bind ?_; show wpAny _ _ (Builtin.Bytes.buffer? "bytes.__new__" (.ref D) true >>= _) _ _ _)
  refine wpAny_bind (ba_bufs _ _ ho ?_)
  refine wpAny_bind (wpAny_rule ?_)
  refine wpAny_bind (wpAny_mkBytes ?_ hz)
  show wpAny _ _ (if (Value.type "bytes" == Value.type "bytes") = true then _ else _) _ _ _
  refine bm_if_true (by decide) ?_
  first
    | exact wpAny_pure ⟨_, rfl, typeIs_bytes _ _ _, h _ _ F' N⟩
    | exact wpAny_pure (wpAny_pure ⟨_, rfl, typeIs_bytes _ _ _, h _ _ F' N⟩)
    | exact wpAny_bind (wpAny_pure (wpAny_pure ⟨_, rfl, typeIs_bytes _ _ _, h _ _ F' N⟩))
theorem g_else {α : Type} {c : Prop} [Decidable c] {x y : Sem α} {Q : α → Shared → Prop} (h : ¬ c) (hy : wpG (model prog w) A y Q s) : wpG (model prog w) A (if c then x else y) Q s := by rw [if_neg h]; exact hy
theorem ba_new {Q : Value → Shared → Prop} (F' : Fr h₀ L s.heap m) (N : News h₀ L s.heap news)
    (h : ∀ D h', Fr h₀ L h' m → News h₀ L h' ((D, bao #[]) :: news) → (∀ p ∈ news, p.1 < D) → Q (.ref D) { s with heap := h' }) :
    wpG (model prog w) A (call (.type "bytearray") []) Q s := by
  obtain ⟨c, tl, hmro⟩ := ba_called.mro
  refine wpG_call (codeG_of_tree ?_)
  show wpG _ _ (callAny (.type "bytearray") _) _ _
  refine wpG_pure ⟨Code.quiet_builtin _ (by decide +kernel), by decide +kernel, codeG_builtin F.entry_type_call ?_⟩
  rw [Around.under_plain (weight_type_call_type "bytearray" [] []) rfl]
  unfold Builtin.«type.__call__»
  refine g_else (by rw [ba_called.notType]; exact Bool.false_ne_true) ?_
  refine g_else (by rw [ba_called.canCreate]; exact Bool.false_ne_true) ?_
  refine wpG_bind (wpG_of_eq ba_typeCall ?_)
  refine wpG_bind (wpG_of_eq hmro ?_)
  refine g_else Bool.false_ne_true ?_
  refine wpG_bind (wpG_of_eq ba_called.made ?_)
  refine wpG_bind (wpG_pure ?_)
  refine wpG_bind (wpG_holding (wpG_of (wpAny_call ?_)))
  have hnew : ∀ (A' : Around) (R : Result → Shared → Prop), R (.ok (.ret (.ref s.heap.objs.size))) { s with heap := s.heap.push (bao #[]) } → codeAny (model prog w) A' (.call (.builtin "bytearray.__new__") ⟨[.type "bytearray"], []⟩) R s := by
    intro A' R hR
    refine codeAny_of_tree ?_
    show wpAny _ A'.in1 (do checkBuiltinCall "bytearray.__new__" ⟨[.type "bytearray"], []⟩; again (.builtin "bytearray.__new__" ⟨[.type "bytearray"], []⟩)) _ _ s
    refine wpAny_bind (wpAny_of_eq ba_newCall (wpAny_pure ⟨plainId_quiet ba_plain_new _, codeAny_builtin_stack ba_entry_new rfl fun p st => ?_⟩))
    rw [Around.under_plainId ba_plain_new _]
    have hsub := ba_sub
    have hown := ba_owner
    obtain ⟨hp, g, d, tk, os⟩ := s
    refine wpAny_bind (wpAny_of_eq (a := true) rfl ?_)
    refine bm_if_false rfl ?_
    refine wpAny_bind (wpAny_of_eq (by rw [hown]; exact hsub) ?_)
    refine bm_if_false rfl ?_
    rw [hown]
    refine wpAny_bind (wpAny_pure ?_)
    wp_walk
    exact hR
  refine hnew _ _ ?_
  have hT : ({ s with heap := s.heap.push (bao #[]) } : Shared).TypeIs (.ref s.heap.objs.size) "bytearray" := ⟨_, Heap.get?_push_size _ rfl, rfl⟩
  refine wpG_bind (wpG_of (wpAny_isInstance hT ba_sub ?_))
  refine g_else (by decide) ?_
  refine wpG_bind (wpG_holding ?_)
  have ho : (s.heap.push (bao #[])).get? s.heap.objs.size = some (bao #[]) := Heap.get?_push_size _ rfl
  unfold callSpecial?
  refine wpG_bind (wpG_of (wpAny_specialOf hT ba_slot_init.lookup ?_))
  refine wpG_holding ?_
  refine wpG_bind (wpG_of_eq (ba_slot_init.bind _) ?_)
  refine wpG_bind (wpG_call_entry ba_slot_init hT ba_entry_init (by decide +kernel) ?_ (ba_args_init _))
  unfold Builtin.«bytearray.__init__»
  refine wpG_bind ?_
  unfold Builtin.Bytes.ownRelease
  refine wpG_bind (wpG_of (slotOwn hT ba_release (by decide +kernel) (by decide +kernel) ba_sub ?_))
  refine wpG_pure ?_
  refine g_else (by decide) ?_
  refine wpG_bind (wpG_of_eq (a := [none, none, none]) (by kernel_rfl) ?_)
  refine wpG_bind (wpG_of_eq (a := ()) rfl ?_)
  refine wpG_bind (wpG_of_eq (a := ()) rfl ?_)
  refine wpG_bind ?_
  unfold orM
  refine wpG_bind (m := Builtin.Bytes.exported (.ref s.heap.objs.size)) (wpG_exported ?_)
  refine wpG_of ?_
  show wpAny _ _ (Builtin.Bytes.exportsOf (.ref s.heap.objs.size) >>= _) _ _ _
  refine wpAny_bind (ba_exports ho (wpAny_pure ?_))
  show wpG _ _ (Builtin.Bytes.write (.ref s.heap.objs.size) (fun _ => #[]) >>= fun _ => _) _ _
  refine wpG_bind (wpG_of (ba_write ho (Nat.zero_le _) fun hS => ?_))
  refine wpG_pure ⟨_, rfl, ?_⟩
  refine wpG_pure (wpG_pure ?_)
  have N₁ := N.push F' (bao #[])
  exact h _ _ (F'.push _ |>.change (Heap.SameBut.update ..) (N₁ _ (.head _)).2.1 (N₁ _ (.head _)).2.2) (news_set (pre := []) N₁ (fun _ h => by cases h) (fun p hp => Nat.ne_of_lt (Heap.lt_size (N p hp).1)) (Heap.SameBut.update ..) hS) fun p hp => Heap.lt_size (N p hp).1
end
end
section -- G4
open PySem PySem.W PySem.Calls PyProof.Rows Builtin
set_option linter.unusedVariables false
set_option maxRecDepth 100000
set_option maxHeartbeats 4000000
section
variable {prog : Program} {w : World} {A : Around} {K : Frag} {C : Addr} {h : Heap} {g : Array GenState} {d : Drawn} {t : Nat} {os : OsState} {Q : Value → Shared → Prop}
theorem make_coreG {rest : List Value} {init : Value} (Y : Makes (model prog w) h C) (hi : Looks (model prog w) h (typeLookup (.ref C) "__init__") (some init))
    (hb : ∀ self, Looks (model prog w) h (bindSpecial init self) (init, [self])) (hne : (some init != some (Value.builtin "object.__init__")) = true ∨ (rest = [] ∧ ([] : List (Str × Value)) = []))
    (hq : codeG (model prog w) (A.under (.builtin "type.__call__" ⟨.ref C :: rest, []⟩)) (.call init ⟨.ref (h.objs.size + 1) :: rest, []⟩) (fun r s' => match r with | .ret v => v = .none ∧ Q (.ref (h.objs.size + 1)) s' | _ => False) ⟨(h.push emptyDict).push (instObj C h.objs.size), g, d, t, os⟩) :
    wpG (model prog w) A (call (.ref C) rest []) Q ⟨h, g, d, t, os⟩ := by
  have Y' := Y
  obtain ⟨⟨oc, od, cd, sl, hC, e1, e2, e4⟩, made, base, self, top, call, typ⟩ := Y
  refine wpG_call (codeG_of_tree ?_)
  show wpG _ _ (callAny (.ref C) _) _ _
  refine wpG_of ?_
  refine nd_load hC ?_
  show wpAny _ _ (callAny.viaDunder (.ref C) _) _ _ _
  unfold callAny.viaDunder
  refine wpAny_bind (call.at ?_)
  dsimp only
  rw [tc_bind]
  refine wpAny_bind (wpAny_pure (wpAny_bind (wpAny_pure ?_)))
  refine wpAny_pure (a := Fin.again (.call (.builtin "type.__call__") ⟨.ref C :: rest, []⟩)) ⟨rfl, rfl, ?_⟩
  refine codeG_call_builtin (by show (!holderIds.contains "type.__call__") = true; decide +kernel) (Code.quiet_builtin _ (by decide +kernel)) entry_typeCall (check_slot tc_kind tc_split typ (tc_args _ _ _) ?_)
  unfold Builtin.«type.__call__»
  have hm : Looks (model prog w) h (mroOf (.ref C)) cd.mro := ((Looks.ld (part := none) hC).andThen .now).andThen .now
  refine wpG_bind (wpG_of (hm.at ?_))
  simp only [e4, Bool.false_eq_true, if_false]
  refine wpG_bind (wpG_of (made.at ?_))
  refine wpG_bind (wpG_pure ?_)
  refine wpG_bind (wpG_holding (wpG_of (wpAny_call (new_K Y' hi hne ?_))))
  have k : ∀ b o, h.get? b = some o → ((h.push emptyDict).push (instObj C h.objs.size)).get? b = some o := fun b o e => Heap.get?_push_of_some _ (Heap.get?_push_of_some _ e)
  have hx : ((h.push emptyDict).push (instObj C h.objs.size)).get? (h.objs.size + 1) = some (instObj C h.objs.size) := by heap_get
  have t1 : Looks (model prog w) ((h.push emptyDict).push (instObj C h.objs.size)) (typeOf (.ref (h.objs.size + 1))) (.ref C) := (Looks.ld hx).andThen .now
  have s1 := self.keeps k
  have i1 := hi.keeps k
  have b1 := (hb (.ref (h.objs.size + 1))).keeps k
  unfold isInstance callSpecial? specialOf
  refine wpG_bind (wpG_of (wpAny_bind (t1.at (s1.at ?_))))
  simp only [Bool.not_true, Bool.false_eq_true, if_false]
  refine wpG_bind (wpG_holding ?_)
  refine wpG_bind (wpG_of (wpAny_bind (t1.at (i1.at ?_))))
  refine wpG_holding (wpG_bind (wpG_of (b1.at ?_)))
  refine wpG_bind (wpG_call (codeG_mono hq fun r s' z => ?_))
  rcases r with (_ | _ | _ | v) <;> first | exact z.elim | skip
  obtain ⟨rfl, z⟩ := z
  exact wpG_pure (wpG_pure z)
end
section
variable {prog : Program} {w : World} {A A₀ : Around} {s : Shared} {K : Frag} {C L : Addr} {h₀ base : Heap} {m mg mb : Str → Option Value} {news : List (Addr × Obj)} {Q : Value → Shared → Prop}
theorem call_clsG {pos : List Value} {fI : Addr} (F : Fr h₀ L s.heap m) (X₀ : K.In h₀) (N : News h₀ L s.heap news) (hm : makesIn K C = true) (hi : findIn K (.ref C) "__init__" = some (some (.ref fI))) (hf : isFn K (.ref fI) = true)
    (h : ∀ x dx h', Fr h₀ L h' m → News h₀ L h' ((x, instObj C dx) :: (dx, dictOf [] 0) :: news) → (∀ p ∈ news, p.1 < dx) → dx < x →
      codeG (model prog w) (A.under (.builtin "type.__call__" ⟨.ref C :: pos, []⟩)) (.call (.ref fI) ⟨.ref x :: pos, []⟩) (fun r s' => match r with | .ret v => v = .none ∧ Q (.ref x) s' | _ => False) { s with heap := h' }) :
    wpG (model prog w) A (call (.ref C) pos []) Q s := by
  obtain ⟨hh, g, d, t, os⟩ := s
  have X := X₀.keeps F.keep
  refine make_coreG (makes_of X hm) (looks_findIn X hi) (fun self => bind_fn X self (beq_iff_eq.mp hf)) (.inl rfl) (h _ hh.objs.size _ ((F.push _).push _) ?_ (fun p hp => Heap.lt_size (N p hp).1) (Nat.lt_succ_self _))
  have := (N.push F emptyDict).push (F.push _) (instObj C hh.objs.size)
  rwa [Heap.size_push] at this
end
end
section -- G5
open PySem PySem.W PySem.Calls PyProof.Rows
set_option linter.unusedVariables false
set_option maxRecDepth 100000
set_option maxHeartbeats 4000000
section
variable {M : Model} {A : Around} {s : Shared} {env : Env} {pos : Pos} {Q : Value → Shared → Prop} {first : List Value} {K : Frag} {f : Value}
theorem gc_plain {args : List (Bool × Sem Value)} (hk : keeperOf f = pure .frame ∨ keeperOf f = pure .machine) (hplain : args.any (·.1) = false)
    (h : wpAny M A (evalArgs f true args []) (fun a s₁ => wpG M A (call f (first ++ a.pos) a.kw) Q s₁) (fun _ _ => False) s) : wpG M A (callWith pos f first args []) Q s :=
  G_callWith_of (P := fun _ => True) (by simp [hplain]) (fun h _ => by
    rcases hk with e | e
    · exact ⟨_, .inl rfl, Looks.of_pure e⟩
    · exact ⟨_, .inr (.inl rfl), Looks.of_pure e⟩) (wpAny_mono h (fun a s₁ h₁ => ⟨trivial, h₁⟩) fun _ _ x => x)
theorem gc_type0 {T : String} (h : wpG M A (call (.type T) []) Q s) : wpG M A (callWith pos (.type T) [] (backTo pos (starEach [] env)) []) Q s :=
  gc_plain (by first | exact .inl rfl | exact .inr rfl) rfl (evalArgs_nil3 h)
theorem gc_meth1 {id : String} {e : Expr} {rest : List Expr}
    (h : wpAny M A (spliced (backTo pos (starEach (e :: rest) env))) (fun vs s₁ => wpG M A (call (.builtin id) (first ++ vs)) Q s₁) (fun _ _ => False) s)
    (he : starEach (e :: rest) env = (false, eval e env) :: starEach rest env := by rfl) (hplain : (backTo pos (starEach rest env)).any (·.1) = false := by rfl) :
    wpG M A (callWith pos (.builtin id) first (backTo pos (starEach (e :: rest) env)) []) Q s := by
  rw [he] at h ⊢
  exact gc_plain (by first | exact .inl rfl | exact .inr rfl) (by show (false || (backTo pos (starEach rest env)).any (·.1)) = false; rw [hplain]; rfl) (evalArgs_plain h)
theorem gc_K {h₀ : Heap} {e : Expr} {rest : List Expr} (_X : K.In h₀) (hk : keepIn K f = true) (h : wpAny M A (spliced (backTo pos (starEach (e :: rest) env))) (fun vs s₁ => K.In s₁.heap ∧ wpG M A (call f (first ++ vs)) Q s₁) (fun _ _ => False) s)
    (he : starEach (e :: rest) env = (false, eval e env) :: starEach rest env := by rfl) (hplain : (backTo pos (starEach rest env)).any (·.1) = false := by rfl) :
    wpG M A (callWith pos f first (backTo pos (starEach (e :: rest) env)) []) Q s := by
  rw [he] at h ⊢
  exact G_callWith_of (by show ((false || (backTo pos (starEach rest env)).any (·.1)) || false) = false; rw [hplain]; rfl) (keeps_K hk) (evalArgs_plain h)
theorem gc_K0 (X : K.In s.heap) (hk : keepIn K f = true) (h : wpG M A (call f (first ++ [])) Q s) : wpG M A (callWith pos f first (backTo pos (starEach [] env)) []) Q s :=
  G_callWith_of rfl (keeps_K hk) (evalArgs_nil3 ⟨X, h⟩)
theorem gc_K0' {h₀ : Heap} {L : Addr} {m : Str → Option Value} (F : Fr h₀ L s.heap m) (X : K.In h₀) (hk : keepIn K f = true) (h : wpG M A (call f (first ++ [])) Q s) : wpG M A (callWith pos f first (backTo pos (starEach [] env)) []) Q s :=
  gc_K0 (X.keeps F.keep) hk h
end
end
section -- G6
open PySem PySem.W PySem.Calls PyProof.Rows
set_option linter.unusedVariables false
set_option maxRecDepth 100000
set_option maxHeartbeats 4000000
section
variable {prog : Program} {w : World} {A : Around} {s : Shared} {env : Env} {R : Flow → Shared → Prop}
theorem codeG_block {stmts : List Stmt} (h : wpG (model prog w) A (execs stmts env) R s) : codeG (model prog w) A (.block stmts env) R s := by
  refine codeG_of_tree ?_
  show wpG _ _ (do return Fin.done (← (execs stmts env).onRaise (fun x => do noteFrame x env; theTreesLotGoes x))) _ s
  exact wpG_bind (wpG_onRaise (wpG_mono h (fun f s' h' => wpG_pure h')))
theorem wpG_runOwn {M : Model} {c : Code} {Q : Flow → Shared → Prop} (hcl : clean c = true) (hc : codeG M A c Q s) : wpG M A (runOwn c env) Q s := by
  unfold runOwn
  exact wpG_onRaise (wpG_run hcl hc)
theorem codeG_whileLoop {test body} (I : Nat → Shared → Prop)
    (turn : ∀ n s, I n s → wpAny (model prog w) A (isTrue test env (eval test env)) (fun b s₂ =>
        if b = true then wpG (model prog w) A (execs body env) (fun f s₃ => match f with
            | .next | .cont => ∃ m, m < n ∧ I m s₃
            | .brk => R .next s₃
            | .ret v => R (.ret v) s₃) s₂
        else R .next s₂) (fun _ _ => False) s)
    (n : Nat) (h : I n s) : codeG (model prog w) A (.whileLoop test body [] env) R s := by
  refine codeG_loop rfl rfl I (fun n s hI => ?_) n h
  show wpG _ A ((whileTurn test body [] env).onRaise (fun x => do noteFrame x env; theTreesLotGoes x)) _ s
  refine wpG_onRaise ?_
  simp only [whileTurn]
  refine wpG_bind (wpG_mono (wpG_of (turn n s hI)) (fun b s₂ h₂ => ?_))
  cases b with
  | false =>
    simp only [Bool.false_eq_true, if_false] at h₂ ⊢
    exact wpG_bind (execsG_nil (wpG_pure h₂))
  | true =>
    simp only [if_true] at h₂ ⊢
    refine wpG_bind (wpG_mono h₂ (fun f s₃ h₃ => ?_))
    cases f with
    | next => exact wpG_pure (.inl ⟨rfl, h₃⟩)
    | cont => exact wpG_pure (.inl ⟨rfl, h₃⟩)
    | brk => exact wpG_pure h₃
    | ret v => exact wpG_pure h₃
theorem codeG_forLoop {target it body} (I : Nat → Shared → Prop)
    (turn : ∀ n s, I n s → wpAny (model prog w) A (pyNext it) (fun r s₁ => match r with
      | none => R .next s₁
      | some v => wpAny (model prog w) A (assign target env v) (fun _ s₂ => wpG (model prog w) A (execs body env) (fun f s₃ => match f with
          | .next | .cont => ∃ m, m < n ∧ I m s₃
          | .brk => R .next s₃
          | .ret v => R (.ret v) s₃) s₂) (fun _ _ => False) s₁) (fun _ _ => False) s)
    (n : Nat) (h : I n s) (ht : ∀ v, letOwnedTupleGo target it v = pure () := by intro _; rfl) : codeG (model prog w) A (.forLoop target it body [] env) R s := by
  refine codeG_loop rfl rfl I (fun n s hI => ?_) n h
  show wpG _ _ ((forTurn target it body [] env).onRaise (fun x => do noteFrame x env; theTreesLotGoes x)) _ s
  refine wpG_onRaise ?_
  simp only [forTurn]
  refine wpG_bind (wpG_standAt (wpG_bind (wpG_onRaise (wpG_mono (wpG_of (turn n s hI)) (fun r s₁ h₁ => ?_)))))
  cases r with
  | none => exact wpG_pure (.inr ⟨rfl, rfl, codeG_block (execsG_nil h₁)⟩)
  | some v =>
    refine wpG_bind (wpG_of_eq (ht v) ?_)
    refine wpG_bind (wpG_mono (wpG_of h₁) (fun _ s₂ h₂ => wpG_bind (wpG_mono h₂ (fun f s₃ h₃ => ?_))))
    cases f with
    | next => exact wpG_pure (.inl ⟨rfl, h₃⟩)
    | cont => exact wpG_pure (.inl ⟨rfl, h₃⟩)
    | brk => exact wpG_pure h₃
    | ret v => exact wpG_pure h₃
theorem G_For {target iter body pos} {Q : Flow → Shared → Prop}
    (h : wpAny (model prog w) A (eval iter env) (fun x s₁ => wpAny (model prog w) A (pyIter x) (fun it s₂ => codeG (model prog w) A (.forLoop target it body [] env) Q s₂) (fun _ _ => False) s₁) (fun _ _ => False) s)
    (hs : ∀ x, foldedSetIterable iter env x = pure x := by intro _; rfl) : wpG (model prog w) A (exec (.For target iter body [] pos) env) Q s := by
  rw [exec_For]
  exact wpG_bind (wpG_standAt (wpG_bind (wpG_mono (wpG_of h) (fun x s₁ h₁ => wpG_bind (wpG_of_eq (hs x) (wpG_bind (wpG_standAt (wpG_bind (wpG_holding
    (wpG_mono (wpG_of h₁) (fun it s₂ h₂ => wpG_runOwn rfl h₂)))))))))))
theorem G_While {test body pos} {Q : Flow → Shared → Prop} (h : codeG (model prog w) A (.whileLoop test body [] env) Q s) : wpG (model prog w) A (exec (.While test body [] pos) env) Q s := by
  rw [exec_While]; exact wpG_bind (wpG_standAt (wpG_runOwn rfl h))
end
section
variable {prog : Program} {w : World} {A : Around} {s : Shared} {env : Env} {h₀ : Heap} {x : Str} {px : Pos} {body : List Stmt} {Q : Flow → Shared → Prop}
theorem while_invG {σ : Type} {test : Expr} {pos : Pos} {m₀ : Str → Option Value} {L : Addr} (H : σ → List (Addr × Obj)) (rest : List (Addr × Obj)) (ps : σ → List (Str × Value)) (stored : List Str) (Inv : σ → Prop) (μ : σ → Nat) (c₀ : σ)
    (F : Fr h₀ L s.heap m₀) (N : News h₀ L s.heap (H c₀ ++ rest)) (hk : ∀ p ∈ ps c₀, m₀ p.1 = some p.2) (hi : Inv c₀)
    (turn : ∀ c u h tk, Inv c → Fr h₀ L h (kstB (base0 stored u m₀) (ps c)) → News h₀ L h (H c ++ rest) →
      wpAny (model prog w) A (isTrue test env (eval test env)) (fun b s₂ =>
        if b = true then wpG (model prog w) A (execs body env) (FPost h₀ L H ps stored m₀ rest (fun c' => Inv c' ∧ μ c' < μ c) s Q) s₂ else Q .next s₂) (fun _ _ => False) { s with heap := h, toks := tk }) :
    wpG (model prog w) A (exec (.While test body [] pos) env) Q s := by
  refine G_While (codeG_whileLoop (fun n s' => ∃ c h tk m₁, s' = { s with heap := h, toks := tk } ∧ μ c = n ∧ Fr h₀ L h m₁ ∧ News h₀ L h (H c ++ rest) ∧ (∀ p ∈ ps c, m₁ p.1 = some p.2) ∧ (∀ z, (∀ p ∈ ps c, z ≠ p.1) → stored.contains z = false → m₁ z = m₀ z) ∧ Inv c) ?_ (μ c₀)
    ⟨c₀, s.heap, s.toks, m₀, rfl, rfl, F, N, hk, fun _ _ _ => rfl, hi⟩)
  intro n s₂ hx
  refine exE4 hx fun c h tk m₁ hy => el7 hy fun e₁ e₂ F₁ N₁ h1 h2 hI => ?_
  clear hy hx
  subst e₁
  subst e₂
  refine wpAny_mono (turn c m₁ h tk hI (ksw_fr h1 h2 F₁) N₁) (fun b s₂ p => ?_) fun _ _ x => x
  cases b with
  | false => simpa using p
  | true =>
    simp only [if_true] at p ⊢
    refine wpG_mono p (fun f s₃ q => ?_)
    cases f with
    | ret v => exact q
    | brk => exact q
    | next =>
      refine exE4 q fun h' tk' m' c' hy => el7 hy fun e F' N' k1 k2 hI' hm => ?_
      clear hy q
      subst e
      exact ⟨μ c', hm, c', h', tk', m', rfl, rfl, F', N', k1, k2, hI'⟩
    | cont =>
      refine exE4 q fun h' tk' m' c' hy => el7 hy fun e F' N' k1 k2 hI' hm => ?_
      clear hy q
      subst e
      exact ⟨μ c', hm, c', h', tk', m', rfl, rfl, F', N', k1, k2, hI'⟩
theorem it_listG {σ : Type} {l : Addr} {vs : List Value} {m₀ : Str → Option Value} (H : σ → List (Addr × Obj)) (adr : List Addr) (rest : List (Addr × Obj)) (ps : σ → List (Str × Value)) (stored : List Str) (Inv : Nat → σ → Prop) (c₀ : σ)
    (hh : A.handled = none) (hkx : env.kindOf x = some .local) (hp : (env.scope.kind == .class || (env.scope.kind == .module && env.locals != env.globals)) = false) {cap : Nat} (hl : (l, lst vs cap) ∈ rest)
    (hadr : ∀ c, (H c).map (·.1) = adr) (hx : stored.contains x = true) (hoff : ∀ p ∈ rest, p.1 ∉ adr)
    (F : Fr h₀ env.locals s.heap m₀) (N : News h₀ env.locals s.heap (H c₀ ++ rest)) (hk : ∀ p ∈ ps c₀, m₀ p.1 = some p.2) (hi : Inv 0 c₀)
    (turn : ∀ i v c u h tk rest', i < vs.length → vs[i]? = some v → Inv i c → (∀ p ∈ rest', p.1 ∉ adr) → (∀ p ∈ rest, p ∈ rest') →
      Fr h₀ env.locals h (fun y => if y = x then some v else kstB (base0 stored u m₀) (ps c) y) → News h₀ env.locals h (H c ++ rest') →
      wpG (model prog w) A (execs body env) (FPost h₀ env.locals H ps stored m₀ rest' (Inv (i + 1)) { s with heap := h, toks := tk } Q) { s with heap := h, toks := tk })
    (done : ∀ c u h tk, Inv vs.length c → Fr h₀ env.locals h (kstB (base0 stored u m₀) (ps c)) → News h₀ env.locals h (H c ++ rest) → Q .next { s with heap := h, toks := tk }) :
    wpAny (model prog w) A (pyIter (.ref l)) (fun it s₂ => codeG (model prog w) A (.forLoop (.Name x px) it body [] env) Q s₂) (fun _ _ => False) s := by
  have gl := (N _ (List.mem_append_right _ hl)).1
  have isl : ∀ h : Heap, h.get? l = some (lst vs cap) → h.IsList l vs.toArray := fun h e => ⟨_, e, rfl, cap, rfl⟩
  refine wpAny_pyIter_list (isl _ gl) ?_
  have ltI : ∀ c p, p ∈ H c ++ rest → p.1 < s.heap.objs.size := fun c p hp => by
    rcases List.mem_append.mp hp with hp | hp
    · have : p.1 ∈ adr := hadr c ▸ List.mem_map.mpr ⟨p, hp, rfl⟩
      rw [← hadr c₀] at this
      obtain ⟨q, hq, e⟩ := List.mem_map.mp this
      exact e ▸ Heap.lt_size (N q (List.mem_append_left _ hq)).1
    · exact Heap.lt_size (N p (List.mem_append_right _ hp)).1
  have hIL : s.heap.objs.size ≠ env.locals := Nat.ne_of_gt F.ns.lt
  have hI0 : h₀.get? s.heap.objs.size = none := next_is_new F
  have hIa : s.heap.objs.size ∉ adr := fun hm => by
    rw [← hadr c₀] at hm
    obtain ⟨p, hp, e⟩ := List.mem_map.mp hm
    exact absurd (Heap.lt_size (N p (List.mem_append_left _ hp)).1) (e ▸ Nat.lt_irrefl _)
  refine codeG_forLoop (fun k s' => ∃ h' tk m' c i, s' = { s with heap := h', toks := tk } ∧ h'.IsListIter s.heap.objs.size l i ∧ Fr h₀ env.locals h' m' ∧ News h₀ env.locals h' (H c ++ rest) ∧
      (∀ p ∈ ps c, m' p.1 = some p.2) ∧ (∀ z, (∀ p ∈ ps c, z ≠ p.1) → stored.contains z = false → m' z = m₀ z) ∧ Inv i c ∧ i ≤ vs.length ∧ k = vs.length + 1 - i) ?_ (vs.length + 1)
    ⟨_, s.toks, m₀, c₀, 0, rfl, ⟨_, Heap.get?_push_size _ rfl, rfl, rfl⟩, F.push _, fun p hp => ⟨Heap.get?_push_of_some _ (N p hp).1, (N p hp).2⟩, hk, fun _ _ _ => rfl, hi, Nat.zero_le _, rfl⟩
  intro k s₂ hx
  refine exE5 hx fun h' tk m' c i hy => el9 hy fun e₁ hit F' N' h1 h2 hI hle e₂ => ?_
  clear hy hx
  subst e₁
  subst e₂
  have gl' := (N' _ (List.mem_append_right _ hl)).1
  have next : ∀ h₁ : Heap, Heap.ExtBut s.heap.objs.size h' h₁ → Fr h₀ env.locals h₁ m' ∧ News h₀ env.locals h₁ (H c ++ rest) := fun h₁ hs =>
    ⟨⟨F'.ns.at' fun o e => hs _ o (Ne.symm hIL) e, fun b o e => hs b o (fun q => by rw [q, hI0] at e; cases e) (F'.keep b o e), F'.above⟩,
      fun p hp => ⟨hs _ _ (Nat.ne_of_lt (ltI c p hp)) (N' p hp).1, (N' p hp).2⟩⟩
  rcases Nat.lt_or_ge i vs.length with hlt | hge
  · have hv : vs[i]? = some vs[i] := List.getElem?_eq_getElem hlt
    refine wpAny_pyNext_list_item (x := vs[i]) hit (isl _ gl') (by simpa using hv) fun h₁ hit₁ hs => ?_
    obtain ⟨F₁, N₁⟩ := next h₁ hs.extBut
    refine wpAny_assign_Name (wpAny_storeName_local hkx F₁.ns (fun h₃ hn₃ hs₃ => ?_) hp)
    have F₂ := F₁.set hn₃ hs₃
    have N₂ := N₁.set hs₃
    obtain ⟨oI, gI, cI, dI⟩ := id hit₁
    have gI₃ : h₃.get? s.heap.objs.size = some oI := (hs₃.2 _ hIL).trans gI
    have NI : News h₀ env.locals h₃ (H c ++ (rest ++ [(s.heap.objs.size, oI)])) := fun p hp => by
      rw [← List.append_assoc] at hp
      rcases List.mem_append.mp hp with hp | hp
      · exact N₂ p hp
      · obtain rfl := List.mem_singleton.mp hp
        exact ⟨gI₃, hIL, hI0⟩
    have hoff' : ∀ p ∈ rest ++ [(s.heap.objs.size, oI)], p.1 ∉ adr := fun p hp => by
      rcases List.mem_append.mp hp with hp | hp
      · exact hoff p hp
      · obtain rfl := List.mem_singleton.mp hp
        exact hIa
    refine wpG_mono (turn i vs[i] c m' h₃ _ (rest ++ [(s.heap.objs.size, oI)]) hlt hv hI hoff' (fun p hp => List.mem_append_left _ hp) (kst_fr h1 (fun z _ => h2 z) F₂) NI) (fun f s₃ p => ?_)
    have fin : FEnd h₀ env.locals H ps stored m₀ (rest ++ [(s.heap.objs.size, oI)]) (Inv (i + 1)) { s with heap := h₃, toks := tk } s₃ → ∃ m, m < vs.length + 1 - i ∧ ∃ h' tk m' c i, s₃ = { s with heap := h', toks := tk } ∧ h'.IsListIter s.heap.objs.size l i ∧ Fr h₀ env.locals h' m' ∧ News h₀ env.locals h' (H c ++ rest) ∧
      (∀ p ∈ ps c, m' p.1 = some p.2) ∧ (∀ z, (∀ p ∈ ps c, z ≠ p.1) → stored.contains z = false → m' z = m₀ z) ∧ Inv i c ∧ i ≤ vs.length ∧ m = vs.length + 1 - i := by
      intro hx
      refine exE4 hx fun h₄ tk₄ m₄ c₄ hy => el6 hy fun e F₄ N₄ k1 k2 hI₄ => ?_
      clear hy hx
      subst e
      refine ⟨vs.length + 1 - (i + 1), Nat.sub_lt_sub_left (Nat.lt_succ_of_lt hlt) (Nat.lt_succ_self i), h₄, tk₄, m₄, c₄, i + 1, rfl, ⟨oI, (N₄ (s.heap.objs.size, oI) (by simp)).1, cI, dI⟩, F₄, fun p hp => N₄ p ?_, k1, k2, hI₄, hlt, rfl⟩
      rw [← List.append_assoc]
      exact List.mem_append_left _ hp
    cases f with
    | ret v => exact p
    | brk => exact p
    | next => exact fin p
    | cont => exact fin p
  · have : i = vs.length := by omega
    subst this
    refine wpAny_pyNext_list_end hh hit (isl _ gl') (by simp) fun h₁ he => ?_
    obtain ⟨F₁, N₁⟩ := next h₁ he
    exact done c m' h₁ tk hI (ksw_fr h1 h2 F₁) N₁
end
end
section -- M0
def fl (n z : Nat) : Nat := (z / n).log2
def ce (n z : Nat) : Nat := if n * 2 ^ fl n z = z then fl n z else fl n z + 1
theorem tn3 (n : Nat) : (-1 + (n : Int)).toNat = n - 1 := by
  rw [Int.add_comm]
  exact Int.toNat_sub n 1
theorem ns0 (r i : Nat) : r - 2 - i = r - 1 - i - 1 := Nat.sub_right_comm (r - 1) 1 i
theorem ns1 {r i : Nat} (h : i < r - 1) : r - 2 - i + 1 = r - 1 - i := by rw [ns0]; exact Nat.sub_add_cancel (Nat.sub_pos_of_lt h)
theorem ns3 {r i : Nat} (h : i < r - 1) : r - 2 - i < r - 1 := Nat.lt_of_le_of_lt (Nat.sub_le _ _) (Nat.sub_lt (Nat.zero_lt_of_lt h) Nat.one_pos)
theorem ns2 {r i : Nat} (h : i < r - 1) : r - 2 - i < r := Nat.lt_of_lt_of_le (ns3 h) (Nat.sub_le _ _)
theorem ns4 {r : Nat} (h : 1 ≤ r) (i : Nat) : r - 1 - i < r := Nat.lt_of_le_of_lt (Nat.sub_le _ _) (Nat.sub_lt h Nat.one_pos)
theorem ns5 {r k : Nat} (h : k < r) : r - 1 - (r - 1 - k) = k := Nat.sub_sub_self (Nat.le_sub_one_of_lt h)
theorem ns6 {r n : Nat} (i : Nat) (hr : r ≤ 12) (h : n ≤ 6 * (r - i - 1)) : n ≤ 72 :=
  Nat.le_trans h (Nat.mul_le_mul_left 6 (Nat.le_trans (Nat.sub_le _ _) (Nat.le_trans (Nat.sub_le _ _) hr)))
theorem fl_le {n z : Nat} (hn : 1 ≤ n) (hz : n ≤ z) : n * 2 ^ fl n z ≤ z := by
  have h1 : z / n ≠ 0 := by
    have := Nat.div_pos hz hn; omega
  have h2 := Nat.log2_self_le h1
  calc n * 2 ^ fl n z ≤ n * (z / n) := Nat.mul_le_mul_left _ h2
    _ ≤ z := Nat.mul_div_le z n
theorem lt_fl {n z : Nat} (hn : 1 ≤ n) : z < n * 2 ^ (fl n z + 1) := by
  have h2 : z / n < 2 ^ (fl n z + 1) := Nat.lt_log2_self
  rw [Nat.div_lt_iff_lt_mul hn] at h2
  rw [Nat.mul_comm]; exact h2
theorem fl_uniq {n z k : Nat} (hn : 1 ≤ n) (hz : n ≤ z) (h : n * 2 ^ k ≤ z) (h' : z < n * 2 ^ (k + 1)) : fl n z = k := by
  have a := fl_le hn hz
  have b := lt_fl (z := z) hn
  have c1 : 2 ^ fl n z < 2 ^ (k + 1) := Nat.lt_of_mul_lt_mul_left (Nat.lt_of_le_of_lt a h')
  have c2 : 2 ^ k < 2 ^ (fl n z + 1) := Nat.lt_of_mul_lt_mul_left (Nat.lt_of_le_of_lt h b)
  have d1 := (Nat.pow_lt_pow_iff_right (by decide : 1 < 2)).mp c1
  have d2 := (Nat.pow_lt_pow_iff_right (by decide : 1 < 2)).mp c2
  omega
theorem le_fl {n z k : Nat} (hn : 1 ≤ n) (h : n * 2 ^ k ≤ z) : k ≤ fl n z := by
  have b := lt_fl (z := z) hn
  have c2 : 2 ^ k < 2 ^ (fl n z + 1) := Nat.lt_of_mul_lt_mul_left (Nat.lt_of_le_of_lt h b)
  have d2 := (Nat.pow_lt_pow_iff_right (by decide : 1 < 2)).mp c2
  omega
theorem fl_small {n z : Nat} (hn : 1 ≤ n) (hz : n ≤ z) (h : z ≤ 64) : fl n z ≤ 6 := by
  have a := fl_le hn hz
  have : 2 ^ fl n z ≤ 64 := Nat.le_trans (Nat.le_trans (by simpa using Nat.mul_le_mul_right (2 ^ fl n z) hn) a) h
  have : 2 ^ fl n z < 2 ^ 7 := by omega
  have := (Nat.pow_lt_pow_iff_right (by decide : 1 < 2)).mp this
  omega
theorem fl_ce {n z : Nat} : fl n z ≤ ce n z := by unfold ce; split <;> omega
theorem ce_fl {n z : Nat} : ce n z ≤ fl n z + 1 := by unfold ce; split <;> omega
theorem le_ce {n z : Nat} (hn : 1 ≤ n) : z ≤ n * 2 ^ ce n z := by
  unfold ce; split
  · rename_i h; omega
  · exact Nat.le_of_lt (lt_fl hn)
theorem ce_least {n z k : Nat} (hn : 1 ≤ n) (hz : n ≤ z) (h : k < ce n z) : n * 2 ^ k < z := by
  have a := fl_le hn hz
  have mono : ∀ i j, i ≤ j → n * 2 ^ i ≤ n * 2 ^ j := fun i j hij => Nat.mul_le_mul_left _ (Nat.pow_le_pow_right (by decide) hij)
  unfold ce at h; split at h
  · rename_i e
    have h1 := mono (k + 1) (fl n z) h
    have h2 : 0 < n * 2 ^ k := Nat.mul_pos hn (Nat.pow_pos (by decide))
    rw [Nat.pow_succ, ← Nat.mul_assoc] at h1
    omega
  · have h1 := mono k (fl n z) (by omega)
    omega
theorem two_cast (k : Nat) : ((2 : Int) ^ k) = ((2 ^ k : Nat) : Int) := by rw [Int.natCast_pow]; rfl
end
section -- M1
open PySem PySem.W PyProof.Rows
theorem and_low {a v j : Nat} (h : a < 2 ^ j) : a &&& (v * 2 ^ j) = 0 := by
  apply Nat.eq_of_testBit_eq
  intro i
  rw [Nat.testBit_and, Nat.zero_testBit, Nat.testBit_mul_two_pow]
  by_cases hi : j ≤ i
  · rw [Nat.testBit_lt_two_pow (Nat.lt_of_lt_of_le h (Nat.pow_le_pow_right (by decide) hi))]; rfl
  · simp [hi]
theorem two_pow_cast (k : Nat) : (2 : Int) ^ k = ((2 ^ k : Nat) : Int) := by rw [Int.natCast_pow]; rfl
theorem or_add {a v : Int} {j : Nat} (h0 : 0 ≤ a) (h : a < 2 ^ j) (hv : 0 ≤ v) : Builtin.bitOr a (v * 2 ^ j) = a + v * 2 ^ j := by
  have hp : 0 ≤ v * 2 ^ j := Int.mul_nonneg hv (by rw [two_pow_cast]; exact Int.natCast_nonneg _)
  rw [bitOr_and, bitAnd_pp h0 hp]
  obtain ⟨A, rfl⟩ := Int.eq_ofNat_of_zero_le h0
  obtain ⟨V, rfl⟩ := Int.eq_ofNat_of_zero_le hv
  rw [two_pow_cast] at h ⊢
  rw [← Int.natCast_mul, Int.toNat_natCast, Int.toNat_natCast, and_low (Int.ofNat_lt.mp h)]
  simp
theorem and_mask {x : Int} (k : Nat) (h0 : 0 ≤ x) : Builtin.bitAnd x (2 ^ k - 1) = x % 2 ^ k := by
  have hp : 0 < 2 ^ k := Nat.two_pow_pos k
  have e : ((2 ^ k : Nat) : Int) - 1 = ((2 ^ k - 1 : Nat) : Int) := by
    generalize 2 ^ k = P at *; omega
  rw [two_pow_cast, e, bitAnd_pp h0 (Int.natCast_nonneg _)]
  obtain ⟨X, rfl⟩ := Int.eq_ofNat_of_zero_le h0
  rw [Int.toNat_natCast, Int.toNat_natCast, Nat.and_two_pow_sub_one_eq_mod, Int.natCast_emod]
end
section -- A1
open PySem PySem.W PySem.Calls PyProof.Rows
set_option linter.unusedVariables false
abbrev de (w : World) (x : String) (t : Tok) (v : Value) : DictEntry := ⟨PyData.keyHash w.params (Str.ofString x), .str (Str.ofString x) t, v⟩
structure LWo where
  x : Addr
  dx : Addr
  D : Addr
  k1 : Tok
  k2 : Tok
  k3 : Tok
structure LWo.Ok (o : LWo) (rest : List (Addr × Obj)) : Prop where
  h1 : @LT.lt Nat _ o.dx o.x
  h2 : @LT.lt Nat _ o.x o.D
  r1 : ∀ p ∈ rest, p.1 ≠ o.dx
  r2 : ∀ p ∈ rest, p.1 ≠ o.x
  r3 : ∀ p ∈ rest, p.1 ≠ o.D
structure LWs where
  b : Array UInt8
  held : Int
  th : Tok
  hb : Int
  tb : Tok
abbrev lwE (w : World) (o : LWo) (c : LWs) : List (Addr × Obj) :=
  [(o.D, bao c.b), (o.x, instObj 165 o.dx), (o.dx, dictOf [de w "made" o.k1 (.ref o.D), de w "held" o.k2 (.int c.held c.th), de w "held_bits" o.k3 (.int c.hb c.tb)] 3)]
def bNat (b : Array UInt8) : Int := b.toList.foldr (fun x n => (x.toNat : Int) + 256 * n) 0
theorem bNat_push (b : Array UInt8) (x : UInt8) : bNat (b.push x) = bNat b + x.toNat * 256 ^ b.size := by
  unfold bNat
  rw [Array.toList_push, ← Array.length_toList]
  induction b.toList with
  | nil => simp
  | cons y l ih =>
    rw [List.cons_append, List.foldr_cons, ih, List.foldr_cons, List.length_cons, Int.pow_succ]
    rw [Int.mul_add, ← Int.add_assoc]
    congr 1
    rw [← Int.mul_assoc, Int.mul_comm 256 (x.toNat : Int), Int.mul_assoc, Int.mul_comm 256]
/-- the bits written so far: their value W and their number n -/
structure LWs.Ok (c : LWs) (W : Int) (n : Nat) : Prop where
  hb0 : 0 ≤ c.hb
  hb8 : c.hb < 8
  h0 : 0 ≤ c.held
  h1 : c.held < 2 ^ c.hb.toNat
  len : (n : Int) = 8 * c.b.size + c.hb
  val : W = bNat c.b + c.held * 256 ^ c.b.size
structure LWs.Go (c : LWs) (W : Int) (n : Nat) : Prop where
  hb0 : 0 ≤ c.hb
  h0 : 0 ≤ c.held
  h1 : c.held < 2 ^ c.hb.toNat
  len : (n : Int) = 8 * c.b.size + c.hb
  val : W = bNat c.b + c.held * 256 ^ c.b.size
theorem pow_split {a b : Int} (h0 : 0 ≤ a) (h1 : 0 ≤ b) : (2 : Int) ^ (a + b).toNat = 2 ^ a.toNat * 2 ^ b.toNat := by
  rw [Int.toNat_add h0 h1, Int.pow_add]
theorem p256 (n : Nat) : (256 : Int) ^ n = 2 ^ (8 * n) := by rw [Int.pow_mul]; rfl
theorem lw_start {b : Array UInt8} {held hb W v k : Int} {t1 t2 : Tok} {n : Nat} (c1 : 0 ≤ hb) (c3 : 0 ≤ held) (c4 : held < 2 ^ hb.toNat) (c5 : (n : Int) = 8 * b.size + hb) (c6 : W = bNat b + held * 256 ^ b.size)
    (k0 : 0 ≤ k) (v0 : 0 ≤ v) (v1 : v < 2 ^ k.toNat) : LWs.Go ⟨b, Builtin.bitOr held (v * 2 ^ hb.toNat), t1, hb + k, t2⟩ (W + v * 2 ^ n) (n + k.toNat) := by
  rw [or_add c3 c4 v0]
  have hp : 0 < (2 : Int) ^ hb.toNat := Int.pow_pos (by decide)
  refine ⟨by show 0 ≤ hb + k; omega, Int.add_nonneg c3 (Int.mul_nonneg v0 (Int.le_of_lt hp)), ?_, by show ((n + k.toNat : Nat) : Int) = 8 * (b.size : Int) + (hb + k); omega, ?_⟩
  · show held + v * 2 ^ hb.toNat < 2 ^ (hb + k).toNat
    rw [pow_split c1 k0, Int.mul_comm (2 ^ hb.toNat)]
    have h1 : v + 1 ≤ 2 ^ k.toNat := v1
    have h2 := Int.mul_le_mul_of_nonneg_right h1 (Int.le_of_lt hp)
    rw [Int.add_mul] at h2
    omega
  · show W + v * 2 ^ n = bNat b + (held + v * 2 ^ hb.toNat) * 256 ^ b.size
    rw [c6, Int.add_mul, Int.add_assoc, Int.mul_assoc, p256, ← Int.pow_add]
    rw [show n = hb.toNat + 8 * b.size by omega]
theorem lw_turn {b : Array UInt8} {held hb W : Int} {th tb t1 t2 : Tok} {n : Nat} (c : LWs.Go ⟨b, held, th, hb, tb⟩ W n) (h8 : 8 ≤ hb) : LWs.Go ⟨b.push (held % 256).toNat.toUInt8, held / 256, t1, hb - 8, t2⟩ W n := by
  obtain ⟨c1, c2, c3, c4, c5⟩ := c
  simp only at c1 c2 c3 c4 c5
  refine ⟨by show 0 ≤ hb - 8; omega, by show 0 ≤ held / 256; omega, ?_, ?_, ?_⟩
  · show held / 256 < 2 ^ (hb - 8).toNat
    have e : (2 : Int) ^ hb.toNat = 256 * 2 ^ (hb - 8).toNat := by
      rw [show hb.toNat = 8 + (hb - 8).toNat by omega, Int.pow_add]; rfl
    rw [e] at c3
    generalize (2 : Int) ^ (hb - 8).toNat = P at *
    omega
  · show (n : Int) = 8 * ((b.push _).size : Nat) + (hb - 8)
    rw [Array.size_push]; omega
  · show W = bNat (b.push _) + (held / 256) * 256 ^ (b.push _).size
    have e : (((held % 256).toNat.toUInt8).toNat : Int) = held % 256 := by
      have : ((held % 256).toNat.toUInt8).toNat = (held % 256).toNat := by
        show (UInt8.ofNat _).toNat = _
        rw [UInt8.toNat_ofNat']; omega
      rw [this]; omega
    rw [bNat_push, e, Array.size_push, c5, Int.pow_succ, Int.add_assoc]
    congr 1
    rw [← Int.mul_assoc, Int.mul_right_comm, ← Int.add_mul]
    congr 1
    omega
section
variable {prog : Program} {w : World} {A : Around} {s : Shared} {E : Value → Shared → Prop} {D : Addr} {b : Array UInt8} {h₀ : Heap} {L : Addr} {news : List (Addr × Obj)}
theorem ba_methA {pl : Sem Bool} {Q : Value × List Value → Shared → Prop} (N : News h₀ L s.heap news) (hm : (D, bao b) ∈ news) (h : Q (.builtin "bytearray.append", [.ref D]) s) : wpAny (model prog w) A (getMethod (.ref D) (Str.ofString "append") pl) Q E s :=
  ba_method (N.get hm) ba_slot_append ba_type_append h
theorem ba_methE {pl : Sem Bool} {Q : Value × List Value → Shared → Prop} (N : News h₀ L s.heap news) (hm : (D, bao b) ∈ news) (h : Q (.builtin "bytearray.extend", [.ref D]) s) : wpAny (model prog w) A (getMethod (.ref D) (Str.ofString "extend") pl) Q E s :=
  ba_method (N.get hm) ba_slot_extend ba_type_extend h
end
theorem lw_ok0 {th tb : Tok} : LWs.Ok ⟨#[], 0, th, 0, tb⟩ 0 0 := ⟨by show (0 : Int) ≤ 0; decide, by show (0 : Int) < 8; decide, by show (0 : Int) ≤ 0; decide, by show (0 : Int) < 2 ^ (0 : Int).toNat; decide, rfl, rfl⟩
theorem by_of_baN {prog : Program} {w : World} {A : Around} {s : Shared} {E Q : Value → Shared → Prop} {D : Addr} {b : Array UInt8} {h₀ : Heap} {L : Addr} {m : Str → Option Value} {news : List (Addr × Obj)} (F : Fr h₀ L s.heap m) (N : News h₀ L s.heap news) (hm : (D, bao b) ∈ news) (hz : b.size ≤ sizeLine)
    (h : ∀ t tk, Fr h₀ L s.heap m → News h₀ L s.heap news → Q (.bytes b t) { s with toks := tk }) : wpAny (model prog w) A (call (.type "bytes") [.ref D]) Q E s := by_of_ba F N (N.get hm) hz h
theorem by_of_list0 {prog : Program} {w : World} {A : Around} {s : Shared} {E Q : Value → Shared → Prop} {D : Addr} {k : Nat} {h₀ : Heap} {L : Addr} {m : Str → Option Value} {news : List (Addr × Obj)} (F : Fr h₀ L s.heap m) (N : News h₀ L s.heap news) (hm : (D, PySem.W.listOf #[] k) ∈ news) (hh : A.handled = none)
    (h : ∀ h' t tk, Fr h₀ L h' m → News h₀ L h' news → Q (.bytes #[] t) { s with heap := h', toks := tk }) : wpAny (model prog w) A (call (.type "bytes") [.ref D]) Q E s :=
  call_bytes_ints (vs := []) ⟨_, N.get hm, rfl, k, rfl⟩ IntsAre.nil (fun _ h => by cases h) (Nat.zero_le _) hh fun h' t' k hk => h h' t' k (F.keptAll hk) (N.grown hk)
theorem lw_byte {b : Array UInt8} {held : Int} (h0 : 0 ≤ held) (h1 : held < 256) : bNat (b ++ #[held.toNat.toUInt8]) = bNat b + held * 256 ^ b.size := by
  have e : ((held.toNat.toUInt8).toNat : Int) = held := by
    have : (held.toNat.toUInt8).toNat = held.toNat := by
      show (UInt8.ofNat _).toNat = _
      rw [UInt8.toNat_ofNat']; omega
    rw [this]; omega
  rw [show b ++ #[held.toNat.toUInt8] = b.push held.toNat.toUInt8 by simp, bNat_push, e]
theorem lw_hb0 {c : LWs} (h : c.Ok 0 0) : c.hb = 0 := by have h1 := h.hb0; have h2 := h.len; omega
theorem lw_b0 {c : LWs} (h : c.Ok 0 0) : c.b = #[] := by have h1 := h.hb0; have h2 := h.len; exact Array.eq_empty_of_size_eq_zero (by omega)
theorem lw_ext {c : LWs} {b : Array UInt8} (h : c.Ok 0 0) : LWs.Ok ⟨c.b ++ b, c.held, c.th, c.hb, c.tb⟩ (bNat b) (8 * b.size) := by
  have hb := lw_b0 h
  have h8 := lw_hb0 h
  have h9 : c.held = 0 := by have := h.h1; rw [h8] at this; have h0 := h.h0; have : c.held < 1 := this; omega
  rw [hb, Array.empty_append]
  exact ⟨h.hb0, h.hb8, h.h0, h.h1, by show ((8 * b.size : Nat) : Int) = 8 * (b.size : Int) + c.hb; omega, by show bNat b = bNat b + c.held * _; rw [h9, Int.zero_mul, Int.add_zero]⟩
structure BWo where
  x : Addr
  dx : Addr
  k : Tok
  o : LWo
structure BWo.Ok (p : BWo) (rest : List (Addr × Obj)) : Prop where
  h1 : @LT.lt Nat _ p.dx p.x
  h2 : @LT.lt Nat _ p.x p.o.dx
  h3 : @LT.lt Nat _ p.o.dx p.o.x
  h4 : @LT.lt Nat _ p.o.x p.o.D
  r1 : ∀ q ∈ rest, q.1 ≠ p.dx
  r2 : ∀ q ∈ rest, q.1 ≠ p.x
  r3 : ∀ q ∈ rest, q.1 ≠ p.o.dx
  r4 : ∀ q ∈ rest, q.1 ≠ p.o.x
  r5 : ∀ q ∈ rest, q.1 ≠ p.o.D
abbrev bwE (w : World) (p : BWo) (c : LWs) : List (Addr × Obj) := lwE w p.o c ++ [(p.x, instObj 256 p.dx), (p.dx, dictOf [de w "under" p.k (.ref p.o.x)] 1)]
theorem lw_size {c : LWs} {W : Int} {n : Nat} (h : c.Ok W n) (hn : n ≤ 1000) : c.b.size ≤ 1000 := by have h1 := h.hb0; have h2 := h.len; omega
end
section -- A2
open PySem PySem.W PySem.Calls PyProof.Rows
set_option linter.unusedVariables false
theorem foldr_at : ∀ (l : List UInt8) (i : Nat), i < l.length → (l.foldr (fun x n => (x.toNat : Int) + 256 * n) 0) / 256 ^ i % 256 = ((l.getD i 0).toNat : Int)
  | [], i, h => by simp at h
  | x :: l, 0, _ => by
    have := x.toNat_lt
    simp only [List.foldr_cons, Int.pow_zero, List.getD_cons_zero]
    omega
  | x :: l, i + 1, h => by
    have hx := x.toNat_lt
    have := foldr_at l i (by simpa using h)
    rw [List.foldr_cons, List.getD_cons_succ, ← this, Int.pow_succ, Int.mul_comm (256 ^ i) 256, ← Int.ediv_ediv_of_nonneg (by decide : (0 : Int) ≤ 256)]
    congr 2
    omega
theorem bNat_at {b : Array UInt8} {i : Nat} (h : i < b.size) : bNat b / 2 ^ (8 * i) % 256 = ((b.toList.getD i 0).toNat : Int) := by
  rw [← p256]; exact foldr_at b.toList i (by simpa using h)
section
variable {prog : Program} {w : World} {A : Around} {s : Shared} {E Q : Value → Shared → Prop} {b : Array UInt8} {t u : Tok} {i : Int} {value slice : Expr}
theorem by_item (hz : b.size ≤ 1000) (h0 : 0 ≤ i) (h1 : i < b.size) (h : ∀ y : Int, y = bNat b / 2 ^ (8 * i.toNat) % 256 → 0 ≤ y → y < 256 → ∀ t' k, Q (.int y t') { s with toks := k })
    (hs : subscripted slice false (.bytes b t) (.int i u) = operate [.bytes b t, .int i u] (getItem (.bytes b t) (.int i u)) := by with_unfolding_all rfl)
    (ht : ∀ r, letTemporaryGo value (.bytes b t) r = pure () := by intro _; with_unfolding_all rfl) :
    wpAny (model prog w) A (subscriptTail value slice (.bytes b t) (.int i u)) Q E s := by
  refine KBw.item_K (ks := KBw.bInts b) rfl ?_ h0 ?_ (fun t' k k0 k1 => h _ ?_ k0 k1 _ _) hs ht
  · rw [KBw.ints_length]; omega
  · rw [KBw.ints_length]; exact h1
  · rw [bNat_at (by omega), KBw.getD_ints]; rfl
theorem by_last (hz : b.size ≤ 1000) (h0 : 1 ≤ b.size) (h : ∀ y : Int, y = bNat b / 2 ^ (8 * (b.size - 1)) % 256 → 0 ≤ y → y < 256 → ∀ t' k, Q (.int y t') { s with toks := k })
    (hs : subscripted slice false (.bytes b t) (.int (-1) u) = operate [.bytes b t, .int (-1) u] (getItem (.bytes b t) (.int (-1) u)) := by with_unfolding_all rfl)
    (ht : ∀ r, letTemporaryGo value (.bytes b t) r = pure () := by intro _; with_unfolding_all rfl) :
    wpAny (model prog w) A (subscriptTail value slice (.bytes b t) (.int (-1) u)) Q E s := by
  refine KBc.itemR_K (ks := KBw.bInts b) rfl ?_ ?_ (by decide) (fun t' k k0 k1 => h _ ?_ k0 k1 _ _) hs ht
  · rw [KBw.ints_length]; omega
  · rw [KBw.ints_length]; omega
  · rw [bNat_at (by omega), KBw.getD_ints, KBw.ints_length, tn3]; rfl
end
theorem call_bitlen {prog : Program} {w : World} {A : Around} {s : Shared} {E Q : Value → Shared → Prop} {a : Int} {t : Tok} (h : ∀ k : Int, k = ((Builtin.Int.intBits a : Nat) : Int) → Q (.int k s.toks) { s with toks := s.toks + 1 }) :
    wpAny (model prog w) A (call (.builtin "int.bit_length") [.int a t]) Q E s := call_int_bit_length (h _ rfl)
structure RDo where
  x : Addr
  dx : Addr
  k1 : Tok
  k2 : Tok
  tb : Tok
structure RDs where
  pos : Int
  tp : Tok
structure RDo.Ok (o : RDo) (rest : List (Addr × Obj)) : Prop where
  h1 : @LT.lt Nat _ o.dx o.x
  r1 : ∀ p ∈ rest, p.1 ≠ o.dx
  r2 : ∀ p ∈ rest, p.1 ≠ o.x
abbrev rdE (w : World) (b : Array UInt8) (o : RDo) (c : RDs) : List (Addr × Obj) :=
  [(o.x, instObj 214 o.dx), (o.dx, dictOf [de w "data" o.k1 (.bytes b o.tb), de w "position" o.k2 (.int c.pos c.tp)] 2)]
end
section -- LC
open PySem PySem.W PySem.Calls PyProof.Rows
set_option linter.unusedVariables false
open LCg LCt
section
variable {prog : Program} {w : World} {A : Around} {s : Shared} {h₀ : Heap} {L : Addr} {m : Str → Option Value} {env : Env} {ct elt : Expr} {x : Str} {scope : Scope} {cl : List (Str × Addr)} {S : List (Addr × Obj) → Prop} {P : Nat → Value → Prop} {Fin : List Value → List (Addr × Obj) → Prop} {n : Nat} {news : List (Addr × Obj)}
def CEnd (h₀ : Heap) (L : Addr) (m : Str → Option Value) (s : Shared) (all : List (Addr × Obj)) (I : Value → Prop) (y : Value) (s₂ : Shared) : Prop :=
  ∃ h' tk', s₂ = { s with heap := h', toks := tk' } ∧ Fr h₀ L h' m ∧ News h₀ L h' all ∧ I y
theorem CEnd.at {s : Shared} {all : List (Addr × Obj)} {I : Value → Prop} {y : Value} {h' : Heap} {tk' : Nat} (F : Fr h₀ L h' m) (N : News h₀ L h' all) (hi : I y) : CEnd h₀ L m s all I y { s with heap := h', toks := tk' } := ⟨h', tk', rfl, F, N, hi⟩
theorem comp_rest (Inv : Nat → List Value → Prop) (hS : S news)
    (turn : ∀ i v ys I oI C oC D m₂ h tk (E' : Value → Shared → Prop), i < n → P i v → Inv i ys → NsObj oC m₂ → m₂ x = some v → Fr h₀ L h m → News h₀ L h ((I, oI) :: (C, oC) :: (D, LCg.lst ys) :: news) → Off3 I C D news → ((@Ne Nat I C) ∧ (@Ne Nat I D) ∧ (@Ne Nat C D)) →
      wpAny (model prog w) A (eval elt (compEnvC scope cl C env)) (CEnd h₀ L m s ((I, oI) :: (C, oC) :: (D, LCg.lst ys) :: news) (fun y => Inv (i + 1) (ys ++ [y]))) E' { s with heap := h, toks := tk })
    (fin : ∀ ys, Inv n ys → Fin ys news) : ∀ k i ys, k + i = n → Inv i ys → CompRest prog w A h₀ L m env elt x scope cl s S P Fin k i ys news := by
  intro k
  induction k with
  | zero => intro i ys e hi; exact fin ys (by rw [show i = n by omega] at hi; exact hi)
  | succ k ih =>
    intro i ys e hi
    refine CompRest.succ fun v I oI C oC D m₂ h tk E' hP hC hm F N off ne => ?_
    refine wpAny_mono (turn i v ys I oI C oC D m₂ h tk E' (by omega) hP hi hC hm F N off ne) (fun y s₂ q => ?_) fun _ _ e => e
    obtain ⟨h', tk', rfl, F', N', hI⟩ := q
    exact ⟨h', tk', news, rfl, F', N', off, hS, ih (i + 1) _ (by omega) hI⟩
theorem comp_restT (Inv : Nat → List Value → Prop) (hS : S news)
    (turn : ∀ i v ys I oI C oC D m₂ h tk (E' : Value → Shared → Prop), i < n → P i v → Inv i ys → NsObj oC m₂ → m₂ x = some v → Fr h₀ L h m → News h₀ L h ((I, oI) :: (C, oC) :: (D, LCg.lst ys) :: news) → Off3 I C D news → ((@Ne Nat I C) ∧ (@Ne Nat I D) ∧ (@Ne Nat C D)) →
      wpAny (model prog w) A (PySem.isTrue ct (compEnvC scope cl C env) (eval ct (compEnvC scope cl C env))) (fun ok s' => if ok = true then
        wpAny (model prog w) A (eval elt (compEnvC scope cl C env)) (CEnd h₀ L m s ((I, oI) :: (C, oC) :: (D, LCg.lst ys) :: news) (fun y => Inv (i + 1) (ys ++ [y]))) E' s'
        else CEnd h₀ L m s ((I, oI) :: (C, oC) :: (D, LCg.lst ys) :: news) (fun _ => Inv (i + 1) ys) Value.none s') E' { s with heap := h, toks := tk })
    (fin : ∀ ys, Inv n ys → Fin ys news) : ∀ k i ys, k + i = n → Inv i ys → CompRestT prog w A h₀ L m env ct elt x scope cl s S P Fin k i ys news := by
  intro k
  induction k with
  | zero => intro i ys e hi; exact fin ys (by rw [show i = n by omega] at hi; exact hi)
  | succ k ih =>
    intro i ys e hi
    refine CompRestT.succ fun v I oI C oC D m₂ h tk E' hP hC hm F N off ne => ?_
    refine wpAny_mono (turn i v ys I oI C oC D m₂ h tk E' (by omega) hP hi hC hm F N off ne) (fun ok s₂ q => ?_) fun _ _ e => e
    cases ok with
    | true =>
      simp only [if_true] at q ⊢
      refine wpAny_mono q (fun y s₃ q => ?_) fun _ _ e => e
      obtain ⟨h', tk', rfl, F', N', hI⟩ := q
      exact ⟨h', tk', news, rfl, F', N', off, hS, ih (i + 1) _ (by omega) hI⟩
    | false =>
      simp only [Bool.false_eq_true, if_false] at q ⊢
      obtain ⟨h', tk', rfl, F', N', hI⟩ := q
      exact ⟨h', tk', news, rfl, F', N', off, hS, ih (i + 1) _ (by omega) hI⟩
end
section
variable {prog : Program} {w : World} {A : Around} {s : Shared} {E Q : Value → Shared → Prop} {h₀ : Heap} {L a b : Addr} {news : List (Addr × Obj)} {vs us : List Value} {ns ms : List Int} {c1 c2 : Nat}
theorem ne_led (N : News h₀ L s.heap news) (h1 : (a, lst vs c1) ∈ news) (hi : IntsAre vs ns) (h2 : (b, lst us c2) ∈ news) (hi' : IntsAre us ms) (hu : A.units + 64 < cLine) (h : Q (.bool (!decide (ns = ms))) s) :
    wpAny (model prog w) A (compareOp .NotEq (.ref a) (.ref b)) Q E s := ne_intsK ⟨_, N.get h1, rfl, _, rfl⟩ hi ⟨_, N.get h2, rfl, _, rfl⟩ hi' hu h
theorem eq_led (N : News h₀ L s.heap news) (h1 : (a, lst vs c1) ∈ news) (hi : IntsAre vs ns) (h2 : (b, lst us c2) ∈ news) (hi' : IntsAre us ms) (hu : A.units + 64 < cLine) (h : Q (.bool (decide (ns = ms))) s) :
    wpAny (model prog w) A (compareOp .Eq (.ref a) (.ref b)) Q E s := eq_intsK ⟨_, N.get h1, rfl, _, rfl⟩ hi ⟨_, N.get h2, rfl, _, rfl⟩ hi' hu h
end
end
section -- A3
open PySem PySem.W PySem.Calls PyProof.Rows
set_option linter.unusedVariables false
section
variable {prog : Program} {w : World} {A : Around} {E : Value → Shared → Prop} {s : Shared} {env : Env} {h₀ : Heap} {xi xc : Str} {body : List Stmt} {Q : Flow → Shared → Prop}
theorem it_enum {σ : Type} {l : Addr} {vs : List Value} {m₀ : Str → Option Value} (H : σ → List (Addr × Obj)) (adr : List Addr) (rest : List (Addr × Obj)) (ps : σ → List (Str × Value)) (stored : List Str) (Inv : Nat → σ → Prop) (c₀ : σ)
    (hh : A.handled = none) (hl : s.heap.IsList l vs.toArray) (hlL : l ≠ env.locals) (hla : l ∉ adr) (hadr : ∀ c, (H c).map (·.1) = adr) (hxi : stored.contains xi = true) (hxc : stored.contains xc = true) (hoff : ∀ p ∈ rest, p.1 ∉ adr)
    (F : Fr h₀ env.locals s.heap m₀) (N : News h₀ env.locals s.heap (H c₀ ++ rest)) (hk : ∀ p ∈ ps c₀, m₀ p.1 = some p.2) (hi : Inv 0 c₀)
    (turn : ∀ (i : Nat) v t c u h tk rest', i < vs.length → vs[i]? = some v → Inv i c → (∀ p ∈ rest', p.1 ∉ adr) → (∀ p ∈ rest, p ∈ rest') →
      Fr h₀ env.locals h (fun y => if y = xc then some v else if y = xi then some (.int (i : Int) t) else kstB (base0 stored u m₀) (ps c) y) → News h₀ env.locals h (H c ++ rest') →
      wpAny (model prog w) A (execs body env) (FPost h₀ env.locals H ps stored m₀ rest' (Inv (i + 1)) { s with heap := h, toks := tk } Q) E { s with heap := h, toks := tk })
    (done : ∀ c u h tk, Inv vs.length c → Fr h₀ env.locals h (kstB (base0 stored u m₀) (ps c)) → News h₀ env.locals h (H c ++ rest) → Q .next { s with heap := h, toks := tk }) :
    wpAny (model prog w) A (call (.type "enumerate") [.ref l]) (fun xv s₁ => wpAny (model prog w) A (pyIter xv) (fun it s₂ => PairAt3 prog w A h₀ env xi xc body Q E it s₂) E s₁) E s := by
  have hlt : l < s.heap.objs.size := by obtain ⟨_, e, _⟩ := hl; exact Heap.lt_size e
  refine call_enumerate_list hl fun h' he hit hsz keep => ?_
  refine wpAny_pyIter_enum he ?_
  have W := WalksT.enumerate (prog := prog) (w := w) hh (s.heap.objs.size + 1) s.heap.objs.size l (Nat.succ_ne_self _) (Nat.ne_of_lt (Nat.lt_succ_of_lt hlt)) (Nat.ne_of_lt hlt) vs.toArray
  rw [List.size_toArray] at W
  have fresh₀ : ∀ a, s.heap.objs.size ≤ a → h₀.get? a = none := fun a ha => by
    cases e : h₀.get? a with
    | none => rfl
    | some o' => exact absurd (Heap.lt_size (F.keep a o' e)) (Nat.not_lt.mpr ha)
  have adrlt : ∀ a ∈ adr, a < s.heap.objs.size := fun a hm => by
    rw [← hadr c₀] at hm
    obtain ⟨p, hp, e⟩ := List.mem_map.mp hm
    exact e ▸ Heap.lt_size (N p (List.mem_append_left _ hp)).1
  have fpadr : ∀ b ∈ [s.heap.objs.size + 1, s.heap.objs.size, l], b ∉ adr := fun b hb hm => by
    have := adrlt b hm
    simp only [List.mem_cons, List.not_mem_nil, or_false] at hb
    rcases hb with rfl | rfl | rfl
    · exact absurd this (Nat.not_lt.mpr (Nat.le_succ _))
    · exact absurd this (Nat.lt_irrefl _)
    · exact hla hm
  refine ⟨s.heap.objs.size + 1, _, _, vs.length, _, _, _, (fun i v0 v1 => ∃ t, v0 = .int (i : Int) t ∧ vs[i]? = some v1), m₀, H c₀ ++ rest,
    (fun i m nx => ∃ c, nx = H c ++ rest ∧ (∀ p ∈ ps c, m p.1 = some p.2) ∧ (∀ z, (∀ p ∈ ps c, z ≠ p.1) → stored.contains z = false → m z = m₀ z) ∧ Inv i c), rfl, W, ?_, ?_, ?_, ?_, ⟨⟨_, he⟩, hit, hl.at fun o e => keep l o e⟩,
    ⟨F.ns.at' fun o e => keep _ o e, fun b o e => keep b o (F.keep b o e), F.above⟩, fun p hp => ⟨keep _ _ (N p hp).1, (N p hp).2⟩, ⟨c₀, rfl, hk, fun _ _ _ => rfl, hi⟩, ?_, ?_⟩
  · rintro i vals ⟨t, x, hx, rfl⟩
    exact ⟨_, _, rfl, t, rfl, by simpa using hx⟩
  · intro hm
    have := F.ns.lt
    simp only [List.mem_cons, List.not_mem_nil, or_false] at hm
    rcases hm with e | e | e
    · rw [e] at this; exact absurd this (Nat.not_lt.mpr (Nat.le_succ _))
    · rw [e] at this; exact absurd this (Nat.lt_irrefl _)
    · exact hlL e.symm
  · intro b hb
    simp only [List.mem_cons, List.not_mem_nil, or_false] at hb
    rcases hb with rfl | rfl
    · exact fresh₀ _ (Nat.le_succ _)
    · exact fresh₀ _ (Nat.le_refl _)
  · intro p hp hw
    have := Heap.lt_size (N p hp).1
    simp only [List.mem_cons, List.not_mem_nil, or_false] at hw
    rcases hw with e | e
    · rw [e] at this; exact absurd this (Nat.not_lt.mpr (Nat.le_succ _))
    · rw [e] at this; exact absurd this (Nat.lt_irrefl _)
  · rintro i v0 v1 m₁ news₁ s₁ own ⟨h, tk, rfl⟩ hin ⟨t, rfl, hv⟩ ⟨c, rfl, h1, h2, hI⟩ _ hown F₁ N₁
    have N₂ : News h₀ env.locals h (H c ++ (rest ++ own)) := fun p hp => N₁ p (by
      rcases List.mem_append.mp hp with hp | hp
      · exact List.mem_append_right _ (List.mem_append_left _ hp)
      · rcases List.mem_append.mp hp with hp | hp
        · exact List.mem_append_right _ (List.mem_append_right _ hp)
        · exact List.mem_append_left _ hp)
    have off' : ∀ p ∈ rest ++ own, p.1 ∉ adr := fun p hp => by
      rcases List.mem_append.mp hp with hp | hp
      · exact hoff p hp
      · exact fpadr _ (hown p hp)
    have F₂ : Fr h₀ env.locals h (fun y => if y = xc then some v1 else if y = xi then some (.int (i : Int) t) else kstB (base0 stored m₁ m₀) (ps c) y) := by
      have em : kstB (base0 stored m₁ m₀) (ps c) = m₁ := by
        funext y
        refine kstB_eq h1 fun hn => ?_
        show (if stored.contains y = true then m₁ y else m₀ y) = m₁ y
        cases h3 : stored.contains y with
        | true => rfl
        | false => rw [if_neg (by decide)]; exact (h2 y hn h3).symm
      rw [em]; exact F₁
    refine wpAny_mono (turn i v1 t c m₁ h tk (rest ++ own) hin hv hI off' (fun p hp => List.mem_append_left _ hp) F₂ N₂) (fun f s₂ p => ?_) fun _ _ e => e
    have fin : FEnd h₀ env.locals H ps stored m₀ (rest ++ own) (Inv (i + 1)) { s with heap := h, toks := tk } s₂ → LoopStep2 h₀ env.locals own (H c ++ rest) (fun m nx => ∃ c, nx = H c ++ rest ∧ (∀ p ∈ ps c, m p.1 = some p.2) ∧ (∀ z, (∀ p ∈ ps c, z ≠ p.1) → stored.contains z = false → m z = m₀ z) ∧ Inv (i + 1) c) { s with heap := h, toks := tk } .next s₂ := by
      intro hx
      refine exE4 hx fun h' tk' m' c' hy => el6 hy fun e F' N' k1 k2 hI' => ?_
      clear hy hx
      refine ⟨rfl, h', tk', m', H c' ++ rest, e, F', fun p hp => N' p ?_, ?_, c', rfl, k1, k2, hI'⟩
      · rcases List.mem_append.mp hp with hp | hp
        · exact List.mem_append_right _ (List.mem_append_right _ hp)
        · rcases List.mem_append.mp hp with hp | hp
          · exact List.mem_append_left _ hp
          · exact List.mem_append_right _ (List.mem_append_left _ hp)
      · rw [List.map_append, List.map_append, hadr, hadr]
    cases f with
    | ret v => exact p
    | brk => exact p
    | next => exact fin p
    | cont => exact fin p
  · rintro h' tk m' news' F' N' _ ⟨c, rfl, h1, h2, hI⟩
    exact done c m' h' tk hI (ksw_fr h1 h2 F') N'
end
end
section -- M3
set_option linter.unusedVariables false
/-! the places that spread visits -/
def stp (z : Nat) : Nat := z / 2 + z / 8 + 3
def skipF (z hi : Nat) : Nat → Nat → Option Nat
  | 0, st => if st ≤ hi then some st else none
  | f + 1, st => if st ≤ hi then some st else skipF z hi f ((st + stp z) % z)
def nxt (z hi st : Nat) : Option Nat := skipF z hi 12 ((st + stp z) % z)
def orbL (z hi : Nat) : Nat → Nat → List Nat
  | 0, _ => []
  | n + 1, st => st :: orbL z hi n ((nxt z hi st).getD 0)
def nodupB : List Nat → Bool
  | [] => true
  | a :: l => !l.contains a && nodupB l
def okP (z hi : Nat) : Bool := (orbL z hi (hi + 1) 0).all (fun p => decide (p ≤ hi) && (nxt z hi p).isSome) && nodupB (orbL z hi (hi + 1) 0)
theorem okAll : ([32, 64] : List Nat).all (fun z => (List.range 12).all fun k => okP z (z - 1 - k)) = true := by decide +kernel
def itr (z hi : Nat) : Nat → Nat
  | 0 => 0
  | j + 1 => (nxt z hi (itr z hi j)).getD 0
theorem orbL_get (z hi : Nat) : ∀ (n j i : Nat), i < n → (orbL z hi n (itr z hi j))[i]? = some (itr z hi (j + i))
  | 0, _, _, h => by omega
  | n + 1, j, 0, _ => rfl
  | n + 1, j, i + 1, h => by
    show (orbL z hi n (itr z hi (j + 1)))[i]? = _
    rw [orbL_get z hi n (j + 1) i (by omega), show j + 1 + i = j + (i + 1) by omega]
theorem nodupB_get : ∀ {l : List Nat}, nodupB l = true → ∀ {i j a b : Nat}, i < j → l[i]? = some a → l[j]? = some b → a ≠ b
  | [], _, i, j, a, b, _, h, _ => by simp at h
  | x :: l, h, 0, j + 1, a, b, _, h1, h2 => by
    simp only [nodupB, Bool.and_eq_true, Bool.not_eq_true', List.contains_eq_mem, decide_eq_false_iff_not] at h
    simp only [List.getElem?_cons_zero, Option.some.injEq] at h1
    simp only [List.getElem?_cons_succ] at h2
    rintro rfl
    exact h.1 (h1 ▸ List.mem_of_getElem? h2)
  | x :: l, h, i + 1, j + 1, a, b, hij, h1, h2 => by
    simp only [nodupB, Bool.and_eq_true] at h
    exact nodupB_get h.2 (by omega : i < j) (by simpa using h1) (by simpa using h2)
  | x :: l, h, i + 1, 0, a, b, hij, h1, h2 => by omega
  | x :: l, h, 0, 0, a, b, hij, h1, h2 => by omega
structure Orb (z hi : Nat) : Prop where
  le : ∀ j, j ≤ hi → itr z hi j ≤ hi
  nx : ∀ j, j ≤ hi → nxt z hi (itr z hi j) = some (itr z hi (j + 1))
  inj : ∀ i j, i < j → j ≤ hi → itr z hi i ≠ itr z hi j
theorem orb_ok {z k : Nat} (hz : z = 32 ∨ z = 64) (hk : k < 12) : Orb z (z - 1 - k) := by
  have h := okAll
  rw [List.all_eq_true] at h
  have h1 := h z (by rcases hz with rfl | rfl <;> simp)
  rw [List.all_eq_true] at h1
  have h2 := h1 k (List.mem_range.mpr hk)
  unfold okP at h2
  rw [Bool.and_eq_true, List.all_eq_true] at h2
  obtain ⟨a, b⟩ := h2
  generalize z - 1 - k = hi at *
  have g : ∀ j, j ≤ hi → (orbL z hi (hi + 1) 0)[j]? = some (itr z hi j) := fun j hj => by
    have := orbL_get z hi (hi + 1) 0 j (by omega)
    rwa [Nat.zero_add] at this
  have m : ∀ j, j ≤ hi → itr z hi j ≤ hi ∧ (nxt z hi (itr z hi j)).isSome = true := fun j hj => by
    have := a _ (List.mem_of_getElem? (g j hj))
    simpa using this
  refine ⟨fun j hj => (m j hj).1, fun j hj => ?_, fun i j hij hj => nodupB_get b hij (g i (by omega)) (g j hj)⟩
  obtain ⟨x, hx⟩ := Option.isSome_iff_exists.mp (m j hj).2
  show _ = some ((nxt z hi (itr z hi j)).getD 0)
  rw [hx]; rfl
theorem skip_le {z hi f st t : Nat} (h : skipF z hi f st = some t) (hs : st ≤ hi) : st = t := by
  cases f <;> simpa [skipF, hs] using h
theorem skip_gt {z hi f st t : Nat} (h : skipF z hi f st = some t) (hs : hi < st) : ∃ f', f = f' + 1 ∧ skipF z hi f' ((st + stp z) % z) = some t := by
  cases f with
  | zero => simp [skipF, Nat.not_le.mpr hs] at h
  | succ f => exact ⟨f, rfl, by simpa [skipF, Nat.not_le.mpr hs] using h⟩
/-! what is placed -/
structure Vis (sy V : List Nat) (f : Nat → Nat) (z bd : Nat) : Prop where
  len : sy.length = z
  nd : V.Nodup
  lt : ∀ p ∈ V, p < z
  cnt : ∀ s, V.countP (fun p => sy.getD p 0 == s) = f s
  bd : ∀ x ∈ sy, x < bd
theorem getD_set_ne {sy : List Nat} {p q x : Nat} (h : q ≠ p) : (sy.set p x).getD q 0 = sy.getD q 0 := by
  simp only [List.getD_eq_getElem?_getD, List.getElem?_set_ne (Ne.symm h)]
theorem getD_set_eq {sy : List Nat} {p x : Nat} (h : p < sy.length) : (sy.set p x).getD p 0 = x := by
  simp [List.getD_eq_getElem?_getD, h]
theorem Vis.step {sy V : List Nat} {f : Nat → Nat} {z bd p x : Nat} (h : Vis sy V f z bd) (hp : p ∉ V) (hz : p < z) (hx : x < bd) :
    Vis (sy.set p x) (p :: V) (fun s => f s + if x = s then 1 else 0) z bd := by
  refine ⟨by rw [List.length_set, h.len], List.nodup_cons.mpr ⟨hp, h.nd⟩, ?_, ?_, ?_⟩
  · intro q hq
    rcases List.mem_cons.mp hq with rfl | hq
    · exact hz
    · exact h.lt q hq
  · intro s
    rw [List.countP_cons, getD_set_eq (by rw [h.len]; exact hz)]
    rw [List.countP_congr (q := fun p => sy.getD p 0 == s)]
    · rw [h.cnt s]; by_cases e : x = s <;> simp [e]
    · intro q hq
      rw [getD_set_ne (by rintro rfl; exact hp hq)]
  · intro y hy
    rcases List.mem_or_eq_of_mem_set hy with hy | rfl
    · exact h.bd y hy
    · exact hx
theorem Vis.congr {sy V : List Nat} {f g : Nat → Nat} {z bd : Nat} (h : Vis sy V f z bd) (e : ∀ s, f s = g s) : Vis sy V g z bd := ⟨h.len, h.nd, h.lt, fun s => (h.cnt s).trans (e s), h.bd⟩
theorem nodup_len : ∀ {V W : List Nat}, V.Nodup → (∀ p ∈ V, p ∈ W) → V.length ≤ W.length
  | [], _, _, _ => Nat.zero_le _
  | a :: V, W, hn, hs => by
    have h1 := List.nodup_cons.mp hn
    have h2 := nodup_len (V := V) (W := W.erase a) h1.2 fun p hp => (List.mem_erase_of_ne (by rintro rfl; exact h1.1 hp)).mpr (hs p (List.mem_cons_of_mem _ hp))
    have h3 := List.length_erase_of_mem (hs a List.mem_cons_self)
    have h4 : 0 < W.length := List.length_pos_of_mem (hs a List.mem_cons_self)
    simp only [List.length_cons]; omega
theorem perm_range {V : List Nat} {z : Nat} (hn : V.Nodup) (hl : ∀ p ∈ V, p < z) (hz : V.length = z) : V.Perm (List.range z) := by
  refine (List.perm_ext_iff_of_nodup hn List.nodup_range).mpr fun a => ⟨fun h => List.mem_range.mpr (hl a h), fun h => ?_⟩
  refine Classical.byContradiction fun hc => ?_
  have := nodup_len (V := a :: V) (W := List.range z) (List.nodup_cons.mpr ⟨hc, hn⟩) (fun p hp => by
    rcases List.mem_cons.mp hp with rfl | hp
    · exact h
    · exact List.mem_range.mpr (hl p hp))
  simp only [List.length_cons, List.length_range] at this
  omega
theorem countP_range (sy : List Nat) (s : Nat) : (List.range sy.length).countP (fun p => sy.getD p 0 == s) = sy.count s := by
  have : sy = (List.range sy.length).map (fun p => sy.getD p 0) := by
    apply List.ext_getElem?
    intro i
    by_cases h : i < sy.length
    · simp [h, List.getD_eq_getElem?_getD]
    · simp [Nat.le_of_not_lt h, h]
  conv => rhs; rw [this]
  rw [List.count_eq_countP, List.countP_map]
  rfl
def km (ns : List Int) (i : Nat) : Nat := (ns.take i).countP (fun c => c == -1)
def ps (ns : List Int) (i : Nat) : Nat := ((ns.take i).map Int.toNat).sum
def f1 (ns : List Int) (i s : Nat) : Nat := if s < i ∧ ns.getD s 0 = -1 then 1 else 0
def f2 (ns : List Int) (i t s : Nat) : Nat := (if ns.getD s 0 = -1 then 1 else 0) + (if s < i then (ns.getD s 0).toNat else if s = i then t else 0)
structure SprOk (ns : List Int) (z : Nat) (sy : List Nat) : Prop where
  len : sy.length = z
  bd : ∀ x ∈ sy, x < ns.length
  cnt : ∀ s, sy.count s = (ns.getD s 0).natAbs
structure Hg (ns : List Int) (z i : Nat) (sy : List Nat) (k : Nat) : Prop where
  V : ∃ V : List Nat, V.length = k ∧ (∀ p ∈ V, z - 1 - k < p) ∧ Vis sy V (f1 ns i) z ns.length
  k : k = km ns i
theorem take_succ_get {α : Type} {ns : List α} {i : Nat} {c : α} (h : ns[i]? = some c) : ns.take (i + 1) = ns.take i ++ [c] := by
  rw [List.take_add_one, h]; rfl
theorem getD_of {ns : List Int} {i : Nat} {c : Int} (h : ns[i]? = some c) : ns.getD i 0 = c := by rw [List.getD_eq_getElem?_getD, h]; rfl
theorem km_le (ns : List Int) (i : Nat) : km ns i ≤ i := by
  unfold km
  exact Nat.le_trans List.countP_le_length (by rw [List.length_take]; omega)
theorem hg_start {ns : List Int} {z : Nat} (hn : 0 < ns.length) : Hg ns z 0 (List.replicate z 0) 0 := by
  refine ⟨⟨[], rfl, by simp, by simp, by simp, by simp, fun s => by simp [f1], fun x hx => ?_⟩, by simp [km]⟩
  rw [(List.mem_replicate.mp hx).2]; exact hn
theorem hg_neg {ns : List Int} {z i k : Nat} {sy : List Nat} (h : Hg ns z i sy k) (hc : ns[i]? = some (-1)) (hk : k + 1 < z) : Hg ns z (i + 1) (sy.set (z - 1 - k) i) (k + 1) := by
  obtain ⟨⟨V, hl, hV, hv⟩, hk'⟩ := h
  have hi : i < ns.length := (List.getElem?_eq_some_iff.mp hc).1
  refine ⟨⟨(z - 1 - k) :: V, by rw [List.length_cons, hl], ?_, (hv.step (fun hm => absurd (hV _ hm) (Nat.lt_irrefl _)) (Nat.sub_lt_of_lt (Nat.sub_lt (Nat.zero_lt_of_lt hk) Nat.one_pos)) hi).congr fun s => ?_⟩, ?_⟩
  · intro p hp
    rcases List.mem_cons.mp hp with rfl | hp
    · exact Nat.sub_lt_sub_left (Nat.lt_sub_of_add_lt hk) (Nat.lt_succ_self k)
    · exact Nat.lt_of_le_of_lt (Nat.sub_le_sub_left (Nat.le_succ k) _) (hV p hp)
  · unfold f1
    by_cases e : i = s
    · subst e; simp [hc]
    · have : (s < i + 1) = (s < i) := by simp; omega
      simp [e, this]
  · unfold km at *; rw [take_succ_get hc, List.countP_append, ← hk']; simp
theorem hg_pos {ns : List Int} {z i k : Nat} {sy : List Nat} {c : Int} (h : Hg ns z i sy k) (hc : ns[i]? = some c) (hne : c ≠ -1) : Hg ns z (i + 1) sy k := by
  obtain ⟨⟨V, hl, hV, hv⟩, hk'⟩ := h
  refine ⟨⟨V, hl, hV, hv.congr fun s => ?_⟩, ?_⟩
  · unfold f1
    by_cases e : i = s
    · subst e; simp [hc, hne]
    · have : (s < i + 1) = (s < i) := by simp; omega
      simp [this]
  · unfold km at *; rw [take_succ_get hc, List.countP_append, ← hk']; simp [hne]
theorem abs_nn : ∀ {c : Int}, -1 ≤ c → ¬c = -1 → c.natAbs = c.toNat
  | .ofNat n, _, _ => rfl
  | .negSucc n, h, e => by omega
theorem km_ps : ∀ {ns : List Int}, (∀ c ∈ ns, -1 ≤ c) → ns.countP (fun c => c == -1) + (ns.map Int.toNat).sum = (ns.map Int.natAbs).sum
  | [], _ => rfl
  | c :: ns, h => by
    have ih := km_ps (ns := ns) fun x hx => h x (List.mem_cons_of_mem _ hx)
    have hc := h c List.mem_cons_self
    rw [List.countP_cons, List.map_cons, List.map_cons, List.sum_cons, List.sum_cons]
    by_cases e : c = -1
    · subst e; simp; omega
    · rw [abs_nn hc e]; simp [e]; omega
theorem ps_succ {ns : List Int} {i : Nat} {c : Int} (h : ns[i]? = some c) : ps ns (i + 1) = ps ns i + c.toNat := by
  unfold ps; rw [take_succ_get h]; simp
theorem ps_le {ns : List Int} (i : Nat) : ps ns i ≤ (ns.map Int.toNat).sum := by
  unfold ps
  conv => rhs; rw [← List.take_append_drop i ns, List.map_append, List.sum_append]
  omega
theorem km_all (ns : List Int) : km ns ns.length = ns.countP (fun c => c == -1) := by unfold km; rw [List.take_length]
theorem ps_all (ns : List Int) : ps ns ns.length = (ns.map Int.toNat).sum := by unfold ps; rw [List.take_length]
structure Pl (ns : List Int) (z K i t : Nat) (sy : List Nat) (st : Nat) : Prop where
  V : ∃ V : List Nat, V.length = K + (ps ns i + t) ∧ (∀ p ∈ V, z - 1 - K < p ∨ ∃ j, j < ps ns i + t ∧ p = itr z (z - 1 - K) j) ∧ Vis sy V (f2 ns i t) z ns.length
  st : st = itr z (z - 1 - K) (ps ns i + t)
theorem pl_start {ns : List Int} {z K : Nat} {sy : List Nat} (h : Hg ns z ns.length sy K) : Pl ns z K 0 0 sy 0 := by
  obtain ⟨⟨V, hl, hV, hv⟩, hk'⟩ := h
  refine ⟨⟨V, by rw [hl]; simp [ps], fun p hp => .inl (hV p hp), hv.congr fun s => ?_⟩, by simp [ps, itr]⟩
  unfold f1 f2
  by_cases e : s < ns.length
  · by_cases e2 : ns.getD s 0 = -1 <;> simp [e, e2]
  · have : ns.getD s 0 = 0 := by rw [List.getD_eq_getElem?_getD, List.getElem?_eq_none (by omega)]; rfl
    rw [this]; simp [e]
theorem pl_turn {ns : List Int} {z K i t : Nat} {sy : List Nat} {st : Nat} {c : Int} (h : Pl ns z K i t sy st) (O : Orb z (z - 1 - K)) (hz : K + (ns.map Int.toNat).sum = z) (hc : ns[i]? = some c) (ht : (t : Int) < c) :
    st ≤ z - 1 - K ∧ st < z ∧ nxt z (z - 1 - K) st = some (itr z (z - 1 - K) (ps ns i + (t + 1))) ∧ Pl ns z K i (t + 1) (sy.set st i) (itr z (z - 1 - K) (ps ns i + (t + 1))) := by
  obtain ⟨⟨V, hl, hV, hv⟩, hst⟩ := h
  have hi : i < ns.length := (List.getElem?_eq_some_iff.mp hc).1
  have h1 := ps_succ hc
  have h2 := ps_le (ns := ns) (i + 1)
  have ht' : t < c.toNat := Int.lt_toNat.mpr ht
  have hj : ps ns i + t ≤ z - 1 - K := by
    rw [Nat.sub_right_comm, ← hz, Nat.add_sub_cancel_left]
    exact Nat.le_sub_one_of_lt (by omega)
  have hs := O.le _ hj
  have hx := O.nx _ hj
  rw [← hst] at hs hx
  have hsz : st < z := Nat.lt_of_le_of_lt hs (Nat.sub_lt_of_lt (Nat.sub_lt (by omega) Nat.one_pos))
  refine ⟨hs, hsz, hx, ⟨st :: V, by rw [List.length_cons, hl]; omega, ?_, (hv.step (fun hm => ?_) hsz hi).congr fun s => ?_⟩, rfl⟩
  · intro p hp
    rcases List.mem_cons.mp hp with rfl | hp
    · exact .inr ⟨ps ns i + t, by omega, hst⟩
    · rcases hV p hp with h | ⟨j, hj, e⟩
      · exact .inl h
      · exact .inr ⟨j, by omega, e⟩
  · rcases hV _ hm with h | ⟨j, hj', e⟩
    · omega
    · exact O.inj j _ hj' hj (e.symm.trans hst)
  · unfold f2
    by_cases e : s = i
    · subst e; simp; omega
    · simp [e, Ne.symm e]
theorem pl_next {ns : List Int} {z K i : Nat} {sy : List Nat} {st : Nat} {c : Int} (h : Pl ns z K i c.toNat sy st) (hc : ns[i]? = some c) : Pl ns z K (i + 1) 0 sy st := by
  obtain ⟨⟨V, hl, hV, hv⟩, hst⟩ := h
  have h1 := ps_succ hc
  rw [← h1] at hl hV hst
  refine ⟨⟨V, hl, hV, hv.congr fun s => ?_⟩, hst⟩
  unfold f2
  by_cases e : s = i
  · subst e; simp [List.getD_eq_getElem?_getD, hc]
  · have : (s < i + 1) = (s < i) := by simp; omega
    simp [e, this]
theorem pl_end {ns : List Int} {z K : Nat} {sy : List Nat} {st : Nat} (h : Pl ns z K ns.length 0 sy st) (hz : K + (ns.map Int.toNat).sum = z) (hlo : ∀ c ∈ ns, -1 ≤ c) : SprOk ns z sy := by
  obtain ⟨⟨V, hl, hV, hv⟩, hst⟩ := h
  rw [ps_all, Nat.add_zero, hz] at hl
  have hp := perm_range hv.nd hv.lt hl
  refine ⟨hv.len, hv.bd, fun s => ?_⟩
  rw [← countP_range, hv.len, ← hp.countP_eq, hv.cnt]
  unfold f2
  by_cases e : s < ns.length
  · have : -1 ≤ ns.getD s 0 := hlo _ (by rw [List.getD_eq_getElem?_getD, List.getElem?_eq_getElem e]; exact List.getElem_mem e)
    rw [if_pos e]
    by_cases e2 : ns.getD s 0 = -1
    · rw [e2]; rfl
    · rw [if_neg e2, abs_nn this e2, Nat.zero_add]
  · have : ns.getD s 0 = 0 := by rw [List.getD_eq_getElem?_getD, List.getElem?_eq_none (by omega)]; rfl
    rw [this]; simp [e]
def up (l : List Nat) : List Int := l.map (fun n : Nat => (n : Int))
theorem up_set (l : List Nat) (i x : Nat) : (up l).set i (x : Int) = up (l.set i x) := by unfold up; rw [List.map_set]
theorem up_len (l : List Nat) : (up l).length = l.length := by unfold up; exact List.length_map _
theorem up_getD (l : List Nat) (i : Nat) : (up l).getD i 0 = ((l.getD i 0 : Nat) : Int) := by
  unfold up; simp only [List.getD_eq_getElem?_getD, List.getElem?_map]; cases l[i]? <;> rfl
end
section -- M4
set_option linter.unusedVariables false
/-! the table: what FseTable.__init__ reckons -/
def rk (sy : List Nat) (q s : Nat) : Nat := (sy.take q).count s
def trn (ns : List Int) (sy : List Nat) (q : Nat) : Nat := (ns.getD (sy.getD q 0) 0).natAbs + rk sy q (sy.getD q 0)
def bitF (ns : List Int) (sy : List Nat) (lg q : Nat) : Nat := lg - (trn ns sy q).log2
def basF (ns : List Int) (sy : List Nat) (lg q : Nat) : Nat := trn ns sy q * 2 ^ bitF ns sy lg q - 2 ^ lg
def stq (sy : List Nat) (q s : Nat) : List Nat := (List.range q).filter (fun p => sy.getD p 0 == s)
abbrev sts (sy : List Nat) (s : Nat) : List Nat := stq sy sy.length s
def tl (ns : List Int) (sy : List Nat) (q : Nat) : List Nat := (List.range ns.length).map fun s => (ns.getD s 0).natAbs + rk sy q s
theorem rk_zero (sy : List Nat) (s : Nat) : rk sy 0 s = 0 := by simp [rk]
theorem rk_succ {sy : List Nat} {q : Nat} (s : Nat) (h : q < sy.length) : rk sy (q + 1) s = rk sy q s + if sy.getD q 0 = s then 1 else 0 := by
  have : sy[q]? = some sy[q] := List.getElem?_eq_getElem h
  unfold rk
  rw [take_succ_get this, List.count_append, List.getD_eq_getElem?_getD, this]
  simp [List.count_cons]
theorem rk_le (sy : List Nat) (q s : Nat) : rk sy q s ≤ sy.count s := by
  unfold rk
  conv => rhs; rw [← List.take_append_drop q sy, List.count_append]
  omega
theorem rk_lt {sy : List Nat} {q : Nat} (h : q < sy.length) : rk sy q (sy.getD q 0) < sy.count (sy.getD q 0) := by
  have h1 := rk_succ (sy.getD q 0) h
  have h2 := rk_le sy (q + 1) (sy.getD q 0)
  rw [if_pos rfl] at h1; omega
theorem getD_mem {sy : List Nat} {q : Nat} (h : q < sy.length) : sy.getD q 0 ∈ sy := by
  rw [List.getD_eq_getElem?_getD, List.getElem?_eq_getElem h]; exact List.getElem_mem h
theorem stq_succ {sy : List Nat} {q : Nat} (s : Nat) : stq sy (q + 1) s = if sy.getD q 0 = s then stq sy q s ++ [q] else stq sy q s := by
  unfold stq
  rw [List.range_succ, List.filter_append]
  by_cases e : sy.getD q 0 = s
  · rw [if_pos e, List.filter_cons_of_pos (by simpa using e), List.filter_nil]
  · rw [if_neg e, List.filter_cons_of_neg (by simpa using e), List.filter_nil, List.append_nil]
theorem stq_len {sy : List Nat} (s : Nat) : ∀ {q : Nat}, q ≤ sy.length → (stq sy q s).length = rk sy q s
  | 0, _ => by rw [rk_zero]; rfl
  | q + 1, h => by
    rw [stq_succ, rk_succ s (by omega)]
    by_cases e : sy.getD q 0 = s
    · rw [if_pos e, if_pos e, List.length_append, stq_len s (by omega : q ≤ sy.length)]; rfl
    · rw [if_neg e, if_neg e, stq_len s (by omega : q ≤ sy.length)]; rfl
theorem stq_get {sy : List Nat} (s : Nat) : ∀ {q r p : Nat}, (stq sy q s)[r]? = some p → q ≤ sy.length → p < q ∧ sy.getD p 0 = s ∧ rk sy p s = r
  | 0, r, p, h, _ => by simp [stq] at h
  | q + 1, r, p, h, hq => by
    rw [stq_succ] at h
    by_cases e : sy.getD q 0 = s
    · rw [if_pos e] at h
      have hl := stq_len s (by omega : q ≤ sy.length)
      by_cases hr : r < (stq sy q s).length
      · rw [List.getElem?_append_left hr] at h
        obtain ⟨a, b, c⟩ := stq_get s h (by omega)
        exact ⟨by omega, b, c⟩
      · rw [List.getElem?_append_right (by omega)] at h
        obtain ⟨h1, h2⟩ := List.getElem?_eq_some_iff.mp h
        simp at h1 h2
        subst h2
        exact ⟨by omega, e, by omega⟩
    · rw [if_neg e] at h
      obtain ⟨a, b, c⟩ := stq_get s h (by omega)
      exact ⟨by omega, b, c⟩
theorem tl_len (ns : List Int) (sy : List Nat) (q : Nat) : (tl ns sy q).length = ns.length := by simp [tl]
theorem tl_get {ns : List Int} {sy : List Nat} {q s : Nat} (h : s < ns.length) : (tl ns sy q).getD s 0 = (ns.getD s 0).natAbs + rk sy q s := by
  simp [tl, List.getD_eq_getElem?_getD, h]
theorem tl_zero (ns : List Int) (sy : List Nat) : up (tl ns sy 0) = ns.map fun c => (c.natAbs : Int) := by
  apply List.ext_getElem?
  intro i
  by_cases h : i < ns.length
  · simp [up, tl, rk_zero, h]
  · simp [up, tl, h]
theorem tl_step {ns : List Int} {sy : List Nat} {q : Nat} (h : q < sy.length) (hx : sy.getD q 0 < ns.length) : (tl ns sy q).set (sy.getD q 0) (trn ns sy q + 1) = tl ns sy (q + 1) := by
  apply List.ext_getElem?
  intro i
  by_cases hi : i < ns.length
  · by_cases e : sy.getD q 0 = i
    · subst e
      rw [List.getElem?_set_self (by rw [tl_len]; exact hx)]
      unfold tl
      rw [List.getElem?_map, List.getElem?_range hi]
      show some _ = some ((ns.getD (sy.getD q 0) 0).natAbs + rk sy (q + 1) (sy.getD q 0))
      rw [rk_succ _ h, if_pos rfl]; rfl
    · rw [List.getElem?_set_ne e]
      unfold tl
      rw [List.getElem?_map, List.getElem?_map, List.getElem?_range hi]
      show some _ = some ((ns.getD i 0).natAbs + rk sy (q + 1) i)
      rw [rk_succ _ h, if_neg e]; rfl
  · rw [List.getElem?_eq_none (by rw [List.length_set, tl_len]; omega), List.getElem?_eq_none (by rw [tl_len]; omega)]
structure Tb (ns : List Int) (lg : Nat) (sy : List Nat) : Prop where
  sp : SprOk ns (2 ^ lg) sy
  l5 : 5 ≤ lg
  l6 : lg ≤ 6
theorem Tb.z {ns : List Int} {lg : Nat} {sy : List Nat} (T : Tb ns lg sy) : 32 ≤ 2 ^ lg ∧ 2 ^ lg ≤ 64 := by
  have h1 := T.l5; have h2 := T.l6
  rcases (by omega : lg = 5 ∨ lg = 6) with rfl | rfl <;> decide
theorem Tb.trn1 {ns : List Int} {lg : Nat} {sy : List Nat} (T : Tb ns lg sy) {q : Nat} (h : q < 2 ^ lg) : 1 ≤ trn ns sy q ∧ trn ns sy q < 2 * 2 ^ lg ∧ trn ns sy q < 2 * (ns.getD (sy.getD q 0) 0).natAbs ∧ (ns.getD (sy.getD q 0) 0).natAbs ≤ trn ns sy q := by
  have hl := T.sp.len
  have h1 := rk_lt (sy := sy) (q := q) (by omega)
  have h2 : sy.count (sy.getD q 0) ≤ sy.length := List.count_le_length
  rw [T.sp.cnt] at h1 h2
  have h3 : trn ns sy q = (ns.getD (sy.getD q 0) 0).natAbs + rk sy q (sy.getD q 0) := rfl
  generalize trn ns sy q = t, rk sy q (sy.getD q 0) = r, (ns.getD (sy.getD q 0) 0).natAbs = n at *
  clear T
  omega
theorem Tb.log {ns : List Int} {lg : Nat} {sy : List Nat} (T : Tb ns lg sy) {q : Nat} (h : q < 2 ^ lg) : (trn ns sy q).log2 ≤ lg := by
  obtain ⟨h1, h2, -⟩ := T.trn1 h
  have : (trn ns sy q).log2 < lg + 1 := (Nat.log2_lt (by omega)).mpr (by rw [Nat.pow_succ]; omega)
  omega
theorem Tb.base {ns : List Int} {lg : Nat} {sy : List Nat} (T : Tb ns lg sy) {q : Nat} (h : q < 2 ^ lg) : 2 ^ lg ≤ trn ns sy q * 2 ^ bitF ns sy lg q ∧ trn ns sy q * 2 ^ bitF ns sy lg q + 2 ^ bitF ns sy lg q ≤ 2 * 2 ^ lg := by
  obtain ⟨h1, h2, -⟩ := T.trn1 h
  have h3 := T.log h
  have h4 := Nat.log2_self_le (show trn ns sy q ≠ 0 by omega)
  have h5 : trn ns sy q < 2 ^ ((trn ns sy q).log2 + 1) := Nat.lt_log2_self
  unfold bitF
  generalize (trn ns sy q).log2 = e at *
  generalize trn ns sy q = t at *
  have e1 : 2 ^ lg = 2 ^ e * 2 ^ (lg - e) := by rw [← Nat.pow_add, show e + (lg - e) = lg by omega]
  have h6 : t + 1 ≤ 2 * 2 ^ e := by rw [Nat.pow_succ] at h5; omega
  have h7 := Nat.mul_le_mul_right (2 ^ (lg - e)) h4
  have h8 := Nat.mul_le_mul_right (2 ^ (lg - e)) h6
  rw [Nat.add_mul, Nat.one_mul, Nat.mul_assoc, ← e1] at h8
  omega
theorem Tb.cnt {ns : List Int} {lg : Nat} {sy : List Nat} (T : Tb ns lg sy) (s : Nat) : (sts sy s).length = (ns.getD s 0).natAbs := by
  show (stq sy sy.length s).length = _
  rw [stq_len s (Nat.le_refl _), ← T.sp.cnt]; unfold rk; rw [List.take_length]
theorem Tb.many {ns : List Int} {lg : Nat} {sy : List Nat} (T : Tb ns lg sy) (s : Nat) : (ns.getD s 0).natAbs ≤ 2 ^ lg := by
  rw [← T.sp.cnt, ← T.sp.len]; exact List.count_le_length
/-- the rth state of a symbol -/
theorem Tb.nth {ns : List Int} {lg : Nat} {sy : List Nat} (T : Tb ns lg sy) {s r : Nat} (h : r < (ns.getD s 0).natAbs) : ∃ q, (sts sy s)[r]? = some q ∧ q < 2 ^ lg ∧ sy.getD q 0 = s ∧ trn ns sy q = (ns.getD s 0).natAbs + r := by
  have hl := T.cnt s
  have hq : (sts sy s)[r]? = some (sts sy s)[r] := List.getElem?_eq_getElem (by omega)
  obtain ⟨a, b, c⟩ := stq_get s hq (Nat.le_refl _)
  refine ⟨_, hq, by rw [← T.sp.len]; exact a, b, ?_⟩
  unfold trn; rw [b, c]
/-! the step of the writer -/
def ahB (ns : List Int) (lg s st : Nat) : Nat := fl (ns.getD s 0).natAbs (st + 2 ^ lg)
def ahI (ns : List Int) (lg s st : Nat) : Nat := (st + 2 ^ lg) / 2 ^ ahB ns lg s st - (ns.getD s 0).natAbs
def ahS (ns : List Int) (lg : Nat) (sy : List Nat) (s st : Nat) : Nat := (sts sy s).getD (ahI ns lg s st) 0
def ahV (ns : List Int) (lg s st : Nat) : Nat := (st + 2 ^ lg) % 2 ^ ahB ns lg s st
theorem fl_div {n w b : Nat} (hn : 1 ≤ n) (h1 : n ≤ w / 2 ^ b) (h2 : w / 2 ^ b < 2 * n) : fl n w = b := by
  have hp : 0 < 2 ^ b := Nat.two_pow_pos b
  have a : n * 2 ^ b ≤ w := (Nat.le_div_iff_mul_le hp).mp h1
  have c : w < n * 2 ^ (b + 1) := by
    have := (Nat.div_lt_iff_lt_mul hp).mp h2
    rw [Nat.pow_succ]; rw [Nat.mul_comm 2 n, Nat.mul_assoc, Nat.mul_comm 2] at this; exact this
  refine fl_uniq hn ?_ a c
  have := Nat.mul_le_mul_left n hp
  omega
theorem div_fl {n w : Nat} (hn : 1 ≤ n) (h : n ≤ w) : n ≤ w / 2 ^ fl n w ∧ w / 2 ^ fl n w < 2 * n := by
  have hp : 0 < 2 ^ fl n w := Nat.two_pow_pos _
  refine ⟨(Nat.le_div_iff_mul_le hp).mpr (fl_le hn h), (Nat.div_lt_iff_lt_mul hp).mpr ?_⟩
  have := lt_fl (z := w) hn
  rw [Nat.pow_succ] at this
  rw [Nat.mul_comm 2 n, Nat.mul_assoc, Nat.mul_comm 2]; exact this
structure Ah (ns : List Int) (lg : Nat) (sy : List Nat) (s st : Nat) : Prop where
  i : ahI ns lg s st < (ns.getD s 0).natAbs
  g : (sts sy s)[ahI ns lg s st]? = some (ahS ns lg sy s st)
  lt : ahS ns lg sy s st < 2 ^ lg
  is : sy.getD (ahS ns lg sy s st) 0 = s
  bit : bitF ns sy lg (ahS ns lg sy s st) = ahB ns lg s st
  bas : basF ns sy lg (ahS ns lg sy s st) + ahV ns lg s st = st
  v : ahV ns lg s st < 2 ^ ahB ns lg s st
  b6 : ahB ns lg s st ≤ 6
  lo : fl (ns.getD s 0).natAbs (2 ^ lg) ≤ ahB ns lg s st
  hi : ahB ns lg s st ≤ ce (ns.getD s 0).natAbs (2 ^ lg)
theorem Tb.ah {ns : List Int} {lg : Nat} {sy : List Nat} (T : Tb ns lg sy) {s st : Nat} (hn : 1 ≤ (ns.getD s 0).natAbs) (hs : st < 2 ^ lg) : Ah ns lg sy s st := by
  have hm := T.many s
  have hz := T.z
  obtain ⟨d1, d2⟩ := div_fl (w := st + 2 ^ lg) hn (by omega)
  have hI : ahI ns lg s st + (ns.getD s 0).natAbs = (st + 2 ^ lg) / 2 ^ ahB ns lg s st := Nat.sub_add_cancel d1
  have hI2 : ahI ns lg s st < (ns.getD s 0).natAbs := (Nat.sub_lt_iff_lt_add d1).mpr (by rw [← Nat.two_mul]; exact d2)
  obtain ⟨q, hq, q1, q2, q3⟩ := T.nth hI2
  have hS : ahS ns lg sy s st = q := by unfold ahS; rw [List.getD_eq_getElem?_getD, hq]; rfl
  have hc : fl (ns.getD s 0).natAbs (st + 2 ^ lg) ≤ ce (ns.getD s 0).natAbs (2 ^ lg) := by
    refine Nat.le_of_not_lt fun hlt => ?_
    have h1 := le_ce (z := 2 ^ lg) hn
    have h2 := fl_le (z := st + 2 ^ lg) hn (by omega)
    have h3 : 2 ^ (ce (ns.getD s 0).natAbs (2 ^ lg) + 1) ≤ 2 ^ fl (ns.getD s 0).natAbs (st + 2 ^ lg) := Nat.pow_le_pow_right (by decide) hlt
    have h4 := Nat.mul_le_mul_left (ns.getD s 0).natAbs h3
    rw [Nat.pow_succ, ← Nat.mul_assoc] at h4
    omega
  have hf : fl (ns.getD s 0).natAbs (2 ^ lg) ≤ fl (ns.getD s 0).natAbs (st + 2 ^ lg) := le_fl hn (Nat.le_trans (fl_le hn hm) (by omega))
  have b6 : ahB ns lg s st ≤ 6 := by
    refine Nat.le_trans hc ?_
    have := fl_small hn hm hz.2
    have h2 := fl_le (z := 2 ^ lg) hn hm
    unfold ce
    split
    · omega
    · refine Classical.byContradiction fun hc => ?_
      have e6 : fl (ns.getD s 0).natAbs (2 ^ lg) = 6 := by omega
      rename_i hne
      rw [e6] at h2 hne
      have := Nat.mul_le_mul_right (2 ^ 6) hn
      omega
  have hlog : (trn ns sy q).log2 = lg - ahB ns lg s st ∧ ahB ns lg s st ≤ lg := by
    rw [q3, Nat.add_comm, hI]
    have hw : (st + 2 ^ lg).log2 = lg := (Nat.log2_eq_iff (by omega)).mpr ⟨by omega, by rw [Nat.pow_succ]; omega⟩
    have hb : ahB ns lg s st ≤ lg := by
      have h2 : (ns.getD s 0).natAbs * 2 ^ ahB ns lg s st ≤ st + 2 ^ lg := fl_le hn (by omega)
      have h3 := Nat.mul_le_mul_right (2 ^ ahB ns lg s st) hn
      have h4 : 2 ^ ahB ns lg s st < 2 ^ (lg + 1) := by rw [Nat.pow_succ]; omega
      have := (Nat.pow_lt_pow_iff_right (by decide : 1 < 2)).mp h4
      omega
    refine ⟨?_, hb⟩
    generalize ahB ns lg s st = b at *
    have hp : 0 < 2 ^ b := Nat.two_pow_pos b
    have e1 : 2 ^ lg = 2 ^ (lg - b) * 2 ^ b := by rw [← Nat.pow_add, show lg - b + b = lg by omega]
    refine (Nat.log2_eq_iff (by omega)).mpr ⟨(Nat.le_div_iff_mul_le hp).mpr (by omega), (Nat.div_lt_iff_lt_mul hp).mpr ?_⟩
    rw [Nat.pow_succ, Nat.mul_right_comm, ← e1]; omega
  have hbit : bitF ns sy lg q = ahB ns lg s st := by unfold bitF; rw [hlog.1]; exact Nat.sub_sub_self hlog.2
  refine ⟨hI2, hS ▸ hq, hS ▸ q1, hS ▸ q2, hS ▸ hbit, ?_, Nat.mod_lt _ (Nat.two_pow_pos _), b6, hf, hc⟩
  rw [hS]
  have hB := T.base q1
  unfold basF
  rw [hbit] at hB ⊢
  rw [q3] at hB ⊢
  unfold ahV
  have := Nat.div_add_mod (st + 2 ^ lg) (2 ^ ahB ns lg s st)
  rw [← hI, Nat.mul_comm, Nat.add_comm (ahI ns lg s st)] at this
  rw [← Nat.sub_add_comm hB.1, this, Nat.add_sub_cancel]
/-! rows: what the writer makes of them -/
structure Enc where
  st : Nat
  W : Nat
  n : Nat
def enc (ns : List Int) (lg : Nat) (sy : List Nat) : List Nat → Enc
  | [] => ⟨0, 0, 0⟩
  | [s] => ⟨(sts sy s).getD 0 0, 0, 0⟩
  | s :: r => let e := enc ns lg sy r; ⟨ahS ns lg sy s e.st, e.W + ahV ns lg s e.st * 2 ^ e.n, e.n + ahB ns lg s e.st⟩
structure EncOk (ns : List Int) (lg : Nat) (sy : List Nat) (row : List Nat) (e : Enc) : Prop where
  st : e.st < 2 ^ lg
  is : sy.getD e.st 0 = row.getD 0 0
  W : e.W < 2 ^ e.n
  n : e.n ≤ 6 * (row.length - 1)
  lo : ((row.take (row.length - 1)).map fun s => fl (ns.getD s 0).natAbs (2 ^ lg)).sum ≤ e.n
  hi : e.n ≤ ((row.take (row.length - 1)).map fun s => ce (ns.getD s 0).natAbs (2 ^ lg)).sum
theorem enc_cons (ns : List Int) (lg : Nat) (sy : List Nat) (s t : Nat) (r : List Nat) : enc ns lg sy (s :: t :: r) = ⟨ahS ns lg sy s (enc ns lg sy (t :: r)).st, (enc ns lg sy (t :: r)).W + ahV ns lg s (enc ns lg sy (t :: r)).st * 2 ^ (enc ns lg sy (t :: r)).n, (enc ns lg sy (t :: r)).n + ahB ns lg s (enc ns lg sy (t :: r)).st⟩ := rfl
theorem enc_ok {ns : List Int} {lg : Nat} {sy : List Nat} (T : Tb ns lg sy) : ∀ {row : List Nat}, row ≠ [] → (∀ s ∈ row, 1 ≤ (ns.getD s 0).natAbs) → EncOk ns lg sy row (enc ns lg sy row)
  | [], h, _ => absurd rfl h
  | [s], _, hs => by
    obtain ⟨q, hq, q1, q2, q3⟩ := T.nth (s := s) (r := 0) (hs s List.mem_cons_self)
    have hS : (sts sy s).getD 0 0 = q := by rw [List.getD_eq_getElem?_getD, hq]; rfl
    refine ⟨?_, ?_, by show 0 < 2 ^ 0; decide, Nat.zero_le _, by simp [enc], Nat.zero_le _⟩
    · show (sts sy s).getD 0 0 < _; rw [hS]; exact q1
    · show sy.getD ((sts sy s).getD 0 0) 0 = s; rw [hS]; exact q2
  | s :: t :: r, _, hs => by
    have ih := enc_ok T (row := t :: r) (by simp) fun x hx => hs x (List.mem_cons_of_mem _ hx)
    rw [enc_cons]
    generalize enc ns lg sy (t :: r) = e at *
    have A := T.ah (s := s) (st := e.st) (hs s List.mem_cons_self) ih.st
    have e0 : (s :: t :: r).take ((s :: t :: r).length - 1) = s :: (t :: r).take ((t :: r).length - 1) := by simp
    refine ⟨A.lt, A.is, ?_, ?_, ?_, ?_⟩
    · show e.W + ahV ns lg s e.st * 2 ^ e.n < 2 ^ (e.n + ahB ns lg s e.st)
      have h1 := ih.W
      have h2 := Nat.mul_le_mul_right (2 ^ e.n) (show ahV ns lg s e.st + 1 ≤ 2 ^ ahB ns lg s e.st from A.v)
      rw [Nat.pow_add, Nat.mul_comm (2 ^ e.n)]
      rw [Nat.add_mul, Nat.one_mul] at h2
      omega
    · show e.n + ahB ns lg s e.st ≤ 6 * ((s :: t :: r).length - 1)
      have h1 := ih.n
      have h2 := A.b6
      simp only [List.length_cons] at h1 ⊢
      omega
    · rw [e0, List.map_cons, List.sum_cons]
      have h1 := ih.lo
      have h2 := A.lo
      show _ ≤ e.n + ahB ns lg s e.st
      omega
    · rw [e0, List.map_cons, List.sum_cons]
      have h1 := ih.hi
      have h2 := A.hi
      show e.n + ahB ns lg s e.st ≤ _
      omega
end
section -- A4
open PySem PySem.W PySem.Calls PyProof.Rows
set_option linter.unusedVariables false
open LCg LCt
section
variable {prog : Program} {w : World} {A : Around} {s : Shared} {h₀ : Heap} {L : Addr} {m : Str → Option Value} {env : Env} {ct elt : Expr} {x : Str} {scope : Scope} {cl : List (Str × Addr)} {S : List (Addr × Obj) → Prop} {P : Nat → Value → Prop} {Fin : List Value → List (Addr × Obj) → Prop} {n : Nat} {news : List (Addr × Obj)}
def CEndG {σ : Type} (h₀ : Heap) (L : Addr) (m : Str → Option Value) (s : Shared) (own : List (Addr × Obj)) (H : σ → List (Addr × Obj)) (news : List (Addr × Obj)) (off : List (Addr × Obj) → Prop) (I : Value → σ → Prop) (y : Value) (s₂ : Shared) : Prop :=
  ∃ h' tk' c', s₂ = { s with heap := h', toks := tk' } ∧ Fr h₀ L h' m ∧ News h₀ L h' (own ++ (H c' ++ news)) ∧ off (H c' ++ news) ∧ I y c'
theorem CEndG.at {σ : Type} {s : Shared} {own : List (Addr × Obj)} {H : σ → List (Addr × Obj)} {off : List (Addr × Obj) → Prop} {I : Value → σ → Prop} {y : Value} {h' : Heap} {tk' : Nat} {all : List (Addr × Obj)} (c' : σ) (F : Fr h₀ L h' m) (N : News h₀ L h' all) (sub : ∀ p ∈ own ++ (H c' ++ news), p ∈ all) (ho : off (H c' ++ news)) (hi : I y c') :
    CEndG h₀ L m s own H news off I y { s with heap := h', toks := tk' } := ⟨h', tk', c', rfl, F, cb_drop N sub, ho, hi⟩
theorem comp_gen {σ : Type} (H : σ → List (Addr × Obj)) (Inv : Nat → List Value → σ → Prop) (hS : ∀ c, S (H c ++ news))
    (turn : ∀ i v ys c I oI C oC D m₂ h tk (E' : Value → Shared → Prop), i < n → P i v → Inv i ys c → NsObj oC m₂ → m₂ x = some v → Fr h₀ L h m → News h₀ L h ((I, oI) :: (C, oC) :: (D, LCg.lst ys) :: (H c ++ news)) → Off3 I C D (H c ++ news) → ((@Ne Nat I C) ∧ (@Ne Nat I D) ∧ (@Ne Nat C D)) →
      wpAny (model prog w) A (eval elt (compEnvC scope cl C env)) (CEndG h₀ L m s [(I, oI), (C, oC), (D, LCg.lst ys)] H news (Off3 I C D) (fun y c' => Inv (i + 1) (ys ++ [y]) c')) E' { s with heap := h, toks := tk })
    (fin : ∀ ys c, Inv n ys c → Fin ys (H c ++ news)) : ∀ k i ys c, k + i = n → Inv i ys c → CompRest prog w A h₀ L m env elt x scope cl s S P Fin k i ys (H c ++ news) := by
  intro k
  induction k with
  | zero => intro i ys c e hi; exact fin ys c (by rw [show i = n by omega] at hi; exact hi)
  | succ k ih =>
    intro i ys c e hi
    refine CompRest.succ fun v I oI C oC D m₂ h tk E' hP hC hm F N off ne => ?_
    refine wpAny_mono (turn i v ys c I oI C oC D m₂ h tk E' (by omega) hP hi hC hm F N off ne) (fun y s₂ q => ?_) fun _ _ e => e
    obtain ⟨h', tk', c', rfl, F', N', off', hI⟩ := q
    exact ⟨h', tk', H c' ++ news, rfl, F', N', off', hS c', ih (i + 1) _ c' (by omega) hI⟩
end
theorem off3_mem {I C D : Addr} {l : List (Addr × Obj)} (h : Off3 I C D l) : ∀ p ∈ l, p.1 ≠ I ∧ p.1 ≠ C ∧ p.1 ≠ D := Off3.mem h
section
variable {prog : Program} {w : World} {A : Around} {s : Shared} {h₀ : Heap} {L : Addr} {news : List (Addr × Obj)} {E Q : Value → Shared → Prop}
/-- an item of a list of objects -/
theorem ref_item {D : Addr} {vs : List Value} {cap : Nat} {k : Int} {u : Tok} {value slice : Expr} {v : Value} (N : News h₀ L s.heap news) (hm : (D, lst vs cap) ∈ news) (h0 : 0 ≤ k) (hk : k < 2 ^ 63) (hv : vs[k.toNat]? = some v) (h : Q v s)
    (hs : subscripted slice false (.ref D) (.int k u) = operate [.ref D, .int k u] (getItem (.ref D) (.int k u)) := by with_unfolding_all rfl) :
    wpAny (model prog w) A (subscriptTail value slice (.ref D) (.int k u)) Q E s :=
  have hl : s.heap.IsList D vs.toArray := ⟨_, (N _ hm).1, rfl, cap, rfl⟩
  tail_any hl.typeIs slot_list_getitem.lookup (wpAny_getItem_list hl h0 hk (by simpa using hv) h) hs
theorem len_led {D : Addr} {vs : List Value} {cap : Nat} (N : News h₀ L s.heap news) (hm : (D, lst vs cap) ∈ news) (hz : vs.length ≤ 1000) (h : ∀ k t tk, k = (vs.length : Int) → Q (.int k t) { s with toks := tk }) :
    wpAny (model prog w) A (call (.builtin "len") [.ref D]) Q E s :=
  call_len_list (items := vs.toArray) ⟨_, (N _ hm).1, rfl, cap, rfl⟩ (by rw [List.size_toArray]; omega) (h _ _ _ (by rw [List.size_toArray]))
/-- an item of a list of ints -/
theorem int_item {D : Addr} {vs : List Value} {ns : List Int} {cap : Nat} {k : Int} {u : Tok} {value slice : Expr} (N : News h₀ L s.heap news) (hm : (D, lst vs cap) ∈ news) (hi : IntsAre vs ns) (h0 : 0 ≤ k) (h1 : k < ns.length) (hk : k < 2 ^ 63) (h : ∀ x t, x = ns.getD k.toNat 0 → Q (.int x t) s)
    (hs : subscripted slice false (.ref D) (.int k u) = operate [.ref D, .int k u] (getItem (.ref D) (.int k u)) := by with_unfolding_all rfl) :
    wpAny (model prog w) A (subscriptTail value slice (.ref D) (.int k u)) Q E s :=
  item_anyK ⟨_, (N _ hm).1, rfl, cap, rfl⟩ hi h0 h1 hk (fun t => h _ t rfl) hs
end
section
variable {prog : Program} {w : World} {A : Around} {E : Value → Shared → Prop} {s : Shared} {h₀ : Heap} {L l : Addr} {m : Str → Option Value} {news : List (Addr × Obj)} {value slice : PySem.Expr} {vs : List Value} {row : List Nat} {cap : Nat} {t : Tok} {Q : Value → Shared → Prop}
/-- xs[:-1] -/
theorem sl_last (F : Fr h₀ L s.heap m) (N : News h₀ L s.heap news) (hm : (l, lst vs cap) ∈ news) (hi : IntsAre vs (up row)) (hz : vs.length ≤ 1000)
    (h : ∀ D ws h', Fr h₀ L h' m → News h₀ L h' ((D, lst ws 0) :: news) → (∀ p ∈ news, p.1 ≠ D) → IntsAre ws (up (row.take (row.length - 1))) → Q (.ref D) { s with heap := h' })
    (hs : subscripted slice false (.ref l) (.ref s.heap.objs.size) = operate [.ref s.heap.objs.size, .ref l] (getItem (.ref l) (.ref s.heap.objs.size))) (ht : ∀ r, letTemporaryGo value (.ref l) r = pure ()) :
    wpAny (model prog w) A (subscriptTail value slice (.ref l) (.ref s.heap.objs.size)) Q E { s with heap := s.heap.push { cls := .type "slice", data := .fields #[.none, .int (-1) t, .none] } } :=
  kmk_slice_ints (c := (row.take (row.length - 1)).length) F N ⟨_, (N _ hm).1, rfl, cap, rfl⟩ .none (.int _ _) hi (kmk_upto_neg hi (by decide))
    (by rw [List.length_take, up_len, List.length_take]; rfl) (fun D ws h' F' N' l1 hI _ _ => h D ws h' F' N' (fun p hp => Nat.ne_of_lt (l1 p hp)) (by rw [up_len] at hI; unfold up at hI ⊢; rw [List.map_take]; exact hI)) hs ht (by rw [List.size_toArray, sizeLine_eq]; omega)
/-- xs[::-1] -/
theorem sl_rev {ops : List Value} (F : Fr h₀ L s.heap m) (N : News h₀ L s.heap news) (hm : (l, lst vs cap) ∈ news) (hi : IntsAre vs (up row)) (hz : vs.length ≤ 1000)
    (h : ∀ D ws h', Fr h₀ L h' m → News h₀ L h' ((D, lst ws 0) :: news) → (∀ p ∈ news, p.1 ≠ D) → IntsAre ws (up row.reverse) → Q (.ref D) { s with heap := h' })
    (hs : subscripted slice false (.ref l) (.ref s.heap.objs.size) = operate ops (getItem (.ref l) (.ref s.heap.objs.size))) (ht : ∀ r, letTemporaryGo value (.ref l) r = pure ()) :
    wpAny (model prog w) A (subscriptTail value slice (.ref l) (.ref s.heap.objs.size)) Q E { s with heap := s.heap.push { cls := .type "slice", data := .fields #[.none, .none, .int (-1) t] } } :=
  krv_ints F N ⟨_, (N _ hm).1, rfl, cap, rfl⟩ (.int _ _) hi (fun D ws h' F' N' l1 hI _ => h D ws h' F' N' (fun p hp => Nat.ne_of_lt (l1 p hp)) (by unfold up at hI ⊢; rw [List.map_reverse]; exact hI)) hs ht (by rw [List.size_toArray, sizeLine_eq]; omega)
end
/-! the table in the ledger -/
structure TBo where
  x : Addr
  dx : Addr
  lsy : Addr
  lct : Addr
  lbi : Addr
  lba : Addr
  lss : Addr
  k1 : Tok
  k2 : Tok
  k3 : Tok
  k4 : Tok
  k5 : Tok
  k6 : Tok
  k7 : Tok
  tlg : Tok
  tsz : Tok
  vsy : List Value
  csy : Nat
  vbi : List Value
  cbi : Nat
  vba : List Value
  cba : Nat
  css : Nat
  ins : List Addr
abbrev tbD (w : World) (o : TBo) (lg : Nat) : Obj := dictOf [de w "symbols" o.k1 (.ref o.lsy), de w "counts" o.k2 (.ref o.lct), de w "log" o.k3 (.int (lg : Int) o.tlg), de w "size" o.k4 (.int ((2 ^ lg : Nat) : Int) o.tsz), de w "bits" o.k5 (.ref o.lbi), de w "bases" o.k6 (.ref o.lba), de w "states" o.k7 (.ref o.lss)] 7
structure TabIn (w : World) (ns : List Int) (lg : Nat) (sy : List Nat) (o : TBo) (news : List (Addr × Obj)) : Prop where
  tb : Tb ns lg sy
  x : (o.x, instObj 320 o.dx) ∈ news
  dx : (o.dx, tbD w o lg) ∈ news
  lsy : (o.lsy, lst o.vsy o.csy) ∈ news
  asy : IntsAre o.vsy (up sy)
  lbi : (o.lbi, lst o.vbi o.cbi) ∈ news
  abi : IntsAre o.vbi (up ((List.range (2 ^ lg)).map (bitF ns sy lg)))
  lba : (o.lba, lst o.vba o.cba) ∈ news
  aba : IntsAre o.vba (up ((List.range (2 ^ lg)).map (basF ns sy lg)))
  lss : (o.lss, lst (o.ins.map Value.ref) o.css) ∈ news
  ins : o.ins.length = ns.length
  inn : ∀ (s : Nat) (a : Addr), o.ins[s]? = some a → ∃ vs c, (a, lst vs c) ∈ news ∧ IntsAre vs (up (sts sy s))
theorem TabIn.mono {w : World} {ns : List Int} {lg : Nat} {sy : List Nat} {o : TBo} {news news' : List (Addr × Obj)} (T : TabIn w ns lg sy o news) (h : ∀ p ∈ news, p ∈ news') : TabIn w ns lg sy o news' :=
  ⟨T.tb, h _ T.x, h _ T.dx, h _ T.lsy, T.asy, h _ T.lbi, T.abi, h _ T.lba, T.aba, h _ T.lss, T.ins, fun s a e => by obtain ⟨vs, c, h1, h2⟩ := T.inn s a e; exact ⟨vs, c, h _ h1, h2⟩⟩
theorem News.add {h₀ h : Heap} {L : Addr} {news : List (Addr × Obj)} {p : Addr × Obj} (N : News h₀ L h news) (hp : p ∈ news) : News h₀ L h (p :: news) := fun q hq => by
  rcases List.mem_cons.mp hq with rfl | hq
  · exact N _ hp
  · exact N _ hq
theorem News.put {h₀ h : Heap} {L : Addr} {news acc : List (Addr × Obj)} {p : Addr × Obj} (N : News h₀ L h news) (M : News h₀ L h acc) (hp : p ∈ news) : News h₀ L h (p :: acc) := fun q hq => by
  rcases List.mem_cons.mp hq with rfl | hq
  · exact N _ hp
  · exact M _ hq
theorem TabIn.sgt {w : World} {ns : List Int} {lg : Nat} {sy : List Nat} {o : TBo} {news : List (Addr × Obj)} (T : TabIn w ns lg sy o news) {s : Nat} (hs : s < ns.length) : ∃ a vs c, (o.ins.map Value.ref)[s]? = some (.ref a) ∧ (a, lst vs c) ∈ news ∧ IntsAre vs (up (sts sy s)) := by
  have hl : s < o.ins.length := by rw [T.ins]; exact hs
  have h : o.ins[s]? = some o.ins[s] := List.getElem?_eq_getElem hl
  obtain ⟨vs, c, h1, h2⟩ := T.inn s _ h
  exact ⟨_, vs, c, by rw [List.getElem?_map, h]; rfl, h1, h2⟩
theorem up_map_getD {f : Nat → Nat} {n q : Nat} (h : q < n) : (up ((List.range n).map f)).getD q 0 = (f q : Int) := by
  rw [up_getD]; simp [List.getD_eq_getElem?_getD, h]
theorem lt_of_many {ns : List Int} {s : Nat} (h : 1 ≤ (ns.getD s 0).natAbs) : s < ns.length := by
  refine Nat.lt_of_not_le fun hc => ?_
  rw [List.getD_eq_getElem?_getD, List.getElem?_eq_none hc] at h
  exact absurd h (by decide)
end
section -- M2
open PySem PySem.W PySem.Calls PyProof.Rows
set_option linter.unusedVariables false
theorem bNat_nonneg (b : Array UInt8) : 0 ≤ bNat b := by
  unfold bNat
  induction b.toList with
  | nil => exact Int.le_refl _
  | cons x l ih => rw [List.foldr_cons]; omega
theorem emod_split {X : Int} (h : 0 ≤ X) (g j : Nat) : X % 2 ^ (g + j) = X % 2 ^ g + (X / 2 ^ g % 2 ^ j) * 2 ^ g := by
  obtain ⟨x, rfl⟩ := Int.eq_ofNat_of_zero_le h
  rw [two_pow_cast, two_pow_cast, two_pow_cast, Nat.pow_add]
  have := Nat.mod_mul (x := x) (a := 2 ^ g) (b := 2 ^ j)
  rw [← Int.natCast_emod, this, ← Int.natCast_emod, ← Int.natCast_ediv, ← Int.natCast_emod, ← Int.natCast_mul, ← Int.natCast_add, Nat.mul_comm]
theorem emod_ediv {X : Int} (h : 0 ≤ X) {i : Nat} (hi : i ≤ 8) : X % 256 / 2 ^ i = X / 2 ^ i % 2 ^ (8 - i) := by
  obtain ⟨x, rfl⟩ := Int.eq_ofNat_of_zero_le h
  have e : 256 = 2 ^ i * 2 ^ (8 - i) := by rw [← Nat.pow_add, show i + (8 - i) = 8 by omega]
  rw [two_pow_cast, two_pow_cast, ← Int.natCast_ediv, ← Int.natCast_emod, show (256 : Int) = ((256 : Nat) : Int) from rfl, ← Int.natCast_emod, ← Int.natCast_ediv]
  congr 1
  rw [e, Nat.mod_mul_right_div_self]
structure Gs where
  val : Int
  tv : Tok
  got : Int
  tg : Tok
  place : Int
  tp : Tok
  ins : Int
  ti : Tok
structure GsI (b : Array UInt8) (low cnt : Nat) (c : Gs) : Prop where
  g0 : 0 ≤ c.got
  g1 : c.got ≤ 40
  p0 : 0 ≤ c.place
  p1 : c.place ≤ b.size
  i0 : 0 ≤ c.ins
  i1 : c.ins < 8
  eq : low + c.got = 8 * c.place + c.ins
  or : c.got = 0 ∨ c.ins = 0
  val : c.val = bNat b / 2 ^ low % 2 ^ c.got.toNat
theorem fdiv_pow (y : Int) (n : Nat) : y.fdiv (2 ^ n) = y / 2 ^ n := Int.fdiv_eq_ediv_of_nonneg _ (Int.le_of_lt (Int.pow_pos (by decide)))
theorem gs_start {b : Array UInt8} {low cnt : Nat} {t1 t2 t3 t4 : Tok} (h : low + cnt ≤ 8 * b.size) : GsI b low cnt ⟨0, t1, 0, t2, (low : Int).fdiv (2 ^ Int.toNat 3), t3, Builtin.bitAnd (low : Int) 7, t4⟩ := by
  rw [bitAnd_m3, show (low : Int).fdiv (2 ^ Int.toNat 3) = (low : Int) / 8 from fdiv_pow _ 3]
  refine ⟨by show (0 : Int) ≤ 0; decide, by show (0 : Int) ≤ 40; decide, ?_, ?_, ?_, ?_, ?_, .inl rfl, ?_⟩
  · show (0 : Int) ≤ low / 8; omega
  · show (low : Int) / 8 ≤ b.size; omega
  · show (0 : Int) ≤ low % 8; omega
  · show (low : Int) % 8 < 8; omega
  · show (low : Int) + 0 = 8 * (low / 8) + low % 8; omega
  · show (0 : Int) = bNat b / 2 ^ low % 2 ^ (0 : Int).toNat
    exact (Int.emod_one _).symm
theorem tn8 {g i : Nat} (h : i ≤ 8) : ((g : Int) + (8 - i)).toNat = g + (8 - i) := by
  rw [show (8 : Int) - i = ((8 - i : Nat) : Int) from (Int.ofNat_sub h).symm]; rfl
theorem gs_step {b : Array UInt8} {low cnt : Nat} {val got place ins y : Int} {tv tg tp ti t1 t2 t3 t4 : Tok} (c : GsI b low cnt ⟨val, tv, got, tg, place, tp, ins, ti⟩) (hg : got < cnt) (hc : cnt ≤ 20) (hp : place < b.size)
    (hy : y = bNat b / 2 ^ (8 * place.toNat) % 256) : GsI b low cnt ⟨Builtin.bitOr val (y.fdiv (2 ^ ins.toNat) * 2 ^ got.toNat), t1, got + (8 - ins), t2, place + 1, t3, 0, t4⟩ := by
  obtain ⟨g0, g1, p0, p1, i0, i1, eq, or, val'⟩ := c
  simp only at g0 g1 p0 p1 i0 i1 eq or val'
  have V := bNat_nonneg b
  have hX : 0 ≤ bNat b / 2 ^ low := Int.ediv_nonneg V (Int.le_of_lt (Int.pow_pos (by decide)))
  have hpl : 0 ≤ bNat b / 2 ^ (8 * place.toNat) := Int.ediv_nonneg V (Int.le_of_lt (Int.pow_pos (by decide)))
  have e1 : y / 2 ^ ins.toNat = bNat b / 2 ^ low / 2 ^ got.toNat % 2 ^ (8 - ins.toNat) := by
    rw [hy, emod_ediv hpl (by omega), Int.ediv_ediv_of_nonneg (Int.le_of_lt (Int.pow_pos (by decide))), Int.ediv_ediv_of_nonneg (Int.le_of_lt (Int.pow_pos (by decide))), ← Int.pow_add, ← Int.pow_add,
      show 8 * place.toNat + ins.toNat = low + got.toNat by
        obtain ⟨g, rfl⟩ := Int.eq_ofNat_of_zero_le g0
        obtain ⟨p, rfl⟩ := Int.eq_ofNat_of_zero_le p0
        obtain ⟨i, rfl⟩ := Int.eq_ofNat_of_zero_le i0
        show 8 * p + i = low + g
        exact (Int.ofNat.inj eq).symm]
  refine ⟨by show 0 ≤ got + (8 - ins); omega, by show got + (8 - ins) ≤ 40; omega, by show 0 ≤ place + 1; omega, by show place + 1 ≤ b.size; omega, by show (0 : Int) ≤ 0; decide, by show (0 : Int) < 8; decide,
    by show (low : Int) + (got + (8 - ins)) = 8 * (place + 1) + 0; omega, .inr rfl, ?_⟩
  show Builtin.bitOr val (y.fdiv (2 ^ ins.toNat) * 2 ^ got.toNat) = bNat b / 2 ^ low % 2 ^ (got + (8 - ins)).toNat
  have hpos : (0 : Int) < 2 ^ got.toNat := Int.pow_pos (by decide)
  rw [fdiv_pow, e1, or_add (by rw [val']; exact Int.emod_nonneg _ (Int.ne_of_gt hpos)) (by rw [val']; exact Int.emod_lt_of_pos _ hpos) (Int.emod_nonneg _ (Int.ne_of_gt (Int.pow_pos (by decide)))), val',
    show (got + (8 - ins)).toNat = got.toNat + (8 - ins.toNat) by
      obtain ⟨g, rfl⟩ := Int.eq_ofNat_of_zero_le g0
      obtain ⟨i, rfl⟩ := Int.eq_ofNat_of_zero_le i0
      exact tn8 (Int.ofNat_le.mp (Int.le_of_lt i1)), emod_split hX]
theorem gs_end {b : Array UInt8} {low cnt : Nat} {c : Gs} (h : GsI b low cnt c) (hg : (cnt : Int) ≤ c.got) : Builtin.bitAnd c.val (1 * 2 ^ (cnt : Int).toNat - 1) = bNat b / 2 ^ low % 2 ^ cnt := by
  have hpos : (0 : Int) < 2 ^ c.got.toNat := Int.pow_pos (by decide)
  rw [Int.one_mul, Int.toNat_natCast, and_mask _ (by rw [h.val]; exact Int.emod_nonneg _ (Int.ne_of_gt hpos)), h.val]
  refine Int.emod_emod_of_dvd _ ?_
  have := h.g0
  exact ⟨2 ^ (c.got.toNat - cnt), by rw [← Int.pow_add, Nat.add_sub_of_le ((Int.le_toNat h.g0).mpr hg)]⟩
theorem gs_abs {y ins : Int} (y0 : 0 ≤ y) (y1 : y < 256) : (y.fdiv (2 ^ ins.toNat)).natAbs < 2 ^ 64 := by
  rw [fdiv_pow]
  have h1 : y / 2 ^ ins.toNat ≤ y := Int.ediv_le_self _ y0
  have h2 : 0 ≤ y / 2 ^ ins.toNat := Int.ediv_nonneg y0 (Int.le_of_lt (Int.pow_pos (by decide)))
  omega
structure LastB (y : Int) (n : Nat) : Prop where
  lo : 2 ^ (n % 8) ≤ y
  hi : y < 2 ^ (n % 8 + 1)
theorem LastB.pos {y : Int} {n : Nat} (h : LastB y n) : 1 ≤ y := Int.le_trans (Int.pow_pos (by decide) : (0 : Int) < 2 ^ (n % 8)) h.lo
theorem LastB.bits {y : Int} {n : Nat} (h : LastB y n) : (Builtin.Int.intBits y : Int) = (n % 8 : Nat) + 1 := by
  have h0 := h.pos
  obtain ⟨lo, hi⟩ := h
  obtain ⟨z, rfl⟩ := Int.eq_ofNat_of_zero_le (by omega : 0 ≤ y)
  unfold Builtin.Int.intBits
  rw [if_neg (by simp; omega)]
  have : z.log2 = n % 8 := by
    rw [two_pow_cast] at lo hi
    have l1 : 2 ^ (n % 8) ≤ z := Int.ofNat_le.mp lo
    have l2 : z < 2 ^ (n % 8 + 1) := Int.ofNat_lt.mp hi
    exact (Nat.log2_eq_iff (by omega)).mpr ⟨l1, l2⟩
  rw [Int.natAbs_natCast, this]
  omega
theorem lastB {b : Array UInt8} {W y : Int} {n : Nat} (hV : bNat b = W + 2 ^ n) (W0 : 0 ≤ W) (W1 : W < 2 ^ n) (hs : b.size = n / 8 + 1) (hy : y = bNat b / 2 ^ (8 * (b.size - 1)) % 256) : LastB y n := by
  rw [hV, hs, show 8 * (n / 8 + 1 - 1) = 8 * (n / 8) from rfl] at hy
  have e : (2 : Int) ^ n = 2 ^ (8 * (n / 8)) * 2 ^ (n % 8) := by rw [← Int.pow_add, Nat.div_add_mod]
  have hp : (0 : Int) < 2 ^ (8 * (n / 8)) := Int.pow_pos (by decide)
  have hq : (2 : Int) ^ (n % 8) ≤ 128 := by
    have : (2 : Nat) ^ (n % 8) ≤ 2 ^ 7 := Nat.pow_le_pow_right (by decide) (by omega)
    rw [two_pow_cast]; exact Int.ofNat_le.mpr this
  have h1 : (W + 2 ^ n) / 2 ^ (8 * (n / 8)) = W / 2 ^ (8 * (n / 8)) + 2 ^ (n % 8) := by
    rw [e, Int.add_mul_ediv_left _ _ (Int.ne_of_gt hp)]
  have h2 : W / 2 ^ (8 * (n / 8)) < 2 ^ (n % 8) := Int.ediv_lt_of_lt_mul hp (by rw [Int.mul_comm, ← e]; exact W1)
  have h3 : 0 ≤ W / 2 ^ (8 * (n / 8)) := Int.ediv_nonneg W0 (Int.le_of_lt hp)
  rw [h1] at hy
  have e2 : (2 : Int) ^ (n % 8 + 1) = 2 * 2 ^ (n % 8) := by rw [Int.pow_succ, Int.mul_comm]
  constructor
  · generalize (2 : Int) ^ (n % 8) = P at *
    omega
  · rw [e2]
    generalize (2 : Int) ^ (n % 8) = P at *
    omega
structure Coded (b : Array UInt8) (W : Int) (n : Nat) : Prop where
  V : bNat b = W + 2 ^ n
  W0 : 0 ≤ W
  W1 : W < 2 ^ n
  s : b.size = n / 8 + 1
theorem Coded.last {b : Array UInt8} {W y : Int} {n : Nat} (h : Coded b W n) (hy : y = bNat b / 2 ^ (8 * (b.size - 1)) % 256) : LastB y n := lastB h.V h.W0 h.W1 h.s hy
theorem mod20 (X : Int) {n : Nat} (h : n ≤ 20) : 0 ≤ X % 2 ^ n ∧ X % 2 ^ n < 1048576 := by
  have hp : (0 : Int) < 2 ^ n := Int.pow_pos (by decide)
  have h2 : (2 : Nat) ^ n ≤ 2 ^ 20 := Nat.pow_le_pow_right (by decide) h
  have h3 : (2 : Int) ^ n ≤ 1048576 := by rw [two_pow_cast]; exact Int.ofNat_le.mpr h2
  exact ⟨Int.emod_nonneg _ (Int.ne_of_gt hp), Int.lt_of_lt_of_le (Int.emod_lt_of_pos _ hp) h3⟩
theorem intBits_log {n : Int} (h : 1 ≤ n) : ((Builtin.Int.intBits n : Nat) : Int) - 1 = (n.toNat.log2 : Nat) := by
  unfold Builtin.Int.intBits
  rw [if_neg (by simp; omega), show n.natAbs = n.toNat by omega]
  omega
end
section -- G7
open PySem PySem.W PySem.Calls PyProof.Rows
set_option linter.unusedVariables false
set_option maxRecDepth 100000
set_option maxHeartbeats 4000000
section
variable {M : Model} {A : Around} {s : Shared} {env : Env}
theorem G_Assign_Tuple_swapped {elts k tpos value pos} {names : List Str} {Q : Flow → Shared → Prop}
    (h : wpG M A (eval value env) (fun v s₁ => wpAny M A (unpackItems v names.length none) (fun items s₂ =>
      wpAny M A (assignInOrder (names.reverse.map fun n => bindName env n) items.reverse) (fun _ => Q .next) (fun _ _ => False) s₂) (fun _ _ => False) s₁) s)
    (hs : swapsWithSole [.Tuple elts k tpos] value pos.line env = pure false := by rfl)
    (hw : swappedStores [.Tuple elts k tpos] value env = pure (some names) := by rfl) :
    wpG M A (exec (.Assign [.Tuple elts k tpos] value pos) env) Q s := by
  rw [exec_Assign]
  refine wpG_bind (wpG_standAt ?_)
  rw [hs]
  refine wpG_bind (wpG_pure ?_)
  rw [if_neg (by decide)]
  refine wpG_bind (wpG_mono h (fun v s₁ h₁ => ?_))
  rw [hw]
  refine wpG_bind (wpG_pure ?_)
  refine wpG_of ?_
  show wpAny M A (do rule "assign.swapped-stores"; let items ← unpackItems v names.length none; assignInOrder (names.reverse.map fun n => bindName env n) items.reverse; pure .next) Q _ s₁
  exact wpAny_bind (wpAny_rule (wpAny_bind (wpAny_mono h₁ (fun items s₂ h₂ => wpAny_bind (wpAny_mono h₂ (fun _ _ x => wpAny_pure x) fun _ _ x => x)) fun _ _ x => x)))
theorem G_Tuple {elts : List Expr} {k : Nat} {pos : Pos} {Q : Value → Shared → Prop}
    (h : wpG M A (spliced (backTo pos (starEach elts env))) (fun vs s₁ => wpAny M A (newTuple vs) Q (fun _ _ => False) s₁) s) : wpG M A (eval (.Tuple elts k pos) env) Q s := by
  show wpG M A (do standAt pos; newTuple (← spliced (backTo pos (starEach elts env)))) Q s
  exact wpG_bind (wpG_standAt (wpG_bind (wpG_mono h fun vs s₁ h₁ => wpG_of h₁)))
theorem G_spliced_more {e : Expr} {rest : List Expr} {pos : Pos} {Q : List Value → Shared → Prop}
    (h : wpG M A (eval e env) (fun v s₁ => wpAny M A (spliced (backTo pos (starEach rest env))) (fun vs s₂ => Q (v :: vs) s₂) (fun _ _ => False) s₁) s)
    (he : starEach (e :: rest) env = (false, eval e env) :: starEach rest env := by rfl) : wpG M A (spliced (backTo pos (starEach (e :: rest) env))) Q s := by
  rw [he]
  show wpG M A (spliced ((false, eval e env) :: backTo pos (starEach rest env))) Q s
  rw [spliced]
  refine wpG_bind (wpG_mono h (fun v s₁ h₁ => ?_))
  simp only [Bool.false_eq_true, if_false]
  exact wpG_bind (wpG_pure (wpG_bind (wpG_holding (wpG_mono (wpG_of h₁) (fun vs s₂ h₂ => wpG_pure h₂)))))
theorem G_isTrue_plain {x : Expr} {whole : Sem Value} {Q : Bool → Shared → Prop} (h : wpG M A whole (fun v s₁ => wpAny M A (truthy v) Q (fun _ _ => False) s₁) s)
    (hx : isTrue x env whole = (do let v ← whole; standAt x.pos; holding [v] (truthy v)) := by rfl) : wpG M A (isTrue x env whole) Q s := by
  rw [hx]
  exact wpG_bind (wpG_mono h fun v s₁ h₁ => wpG_bind (wpG_standAt (wpG_holding (wpG_of h₁))))
end
section
variable {prog : Program} {w : World} {A₀ A : Around} {s : Shared} {base h₀ : Heap} {outer : List Env} {L : Addr} {m : Str → Option Value} {env : Env} {news : List (Addr × Obj)} {K : Frag}
  {R : Flow → Shared → Prop} {name qual : Str} {params : Arguments} {body : List Stmt} {scope : Scope} {dV kV doc pm cdv ct oc : Value} {an od : Option Addr} {osl : Array (Option Value)} {f : Addr} {args : Args} {binds : List (Str × Value)}
  {p : Program} {loose : List Str} {mean : ExcName → Option Value} {mg mb : Str → Option Value}
theorem codeG_defC
    (B : Below A₀ base outer h₀) (F : Fr h₀ L s.heap m) (X₀ : K.In h₀) (N : News h₀ L s.heap news) (T : Top p loose mean mg mb h₀) (hA : A.frames = some (env :: outer)) (hf : env.frame = some L) (hke : env.scope.kind = .function)
    (ho : K.lookup f = some ⟨oc, od, .func (fnOf name qual params body scope dV kV doc pm an cdv ct), osl⟩) (hcd : codeIn K cdv qual = true) (hroom : A.depth < recursionLimit)
    (hbind : BindsTo s (fnOf name qual params body scope dV kV doc pm an cdv ct) args binds) (hkind : (binds.all fun y => scope.names.lookup y.1 == some .local || scope.names.lookup y.1 == some .cell) = true)
    (hnd : ((cellsFrom 0 scope.names []).map (·.1)).Nodup)
    (h : ∀ g L' h₁ tk cells, Fr h₀ L g m → Fr g L' h₁ (bindL (envOfC qual scope L' f cdv).kindOf binds fun _ => none) → News g L' h₁ (cells ++ news) →
      CellsAre (bindC (envOfC qual scope L' f cdv).kindOf binds fun _ => none) (cellsFrom (L' + 1) scope.names []) cells → Below A base (env :: outer) g → K.In g → Top p loose mean mg mb g → (∀ p ∈ news, p.1 < L') →
      wpG (model prog w) (A.deeper (envOfC qual scope L' f cdv)) (execs body (envOfC qual scope L' f cdv))
        (fun fl s' => LeaveK h₀ L m g (RG R) (match fl with | .ret v => v | _ => .none) s')
        { s with heap := h₁, toks := tk })
    (hco : scope.isCoroutine = false) (hgen : scope.isGenerator = false) (hk : scope.kind = .function) : codeG (model prog w) A (.call (.ref f) args) R s := by
  have ho' := (X₀.keeps F.keep) _ _ ho
  have hcd' := codeRec_of (X₀.keeps F.keep) hcd
  obtain ⟨FG, BG, st, lv⟩ := groundX (R := RG R) B F N hA hf hke
  refine codeG_call_function hroom ho' rfl hco hgen rfl hcd' (hbind _ _ _ _ ?_)
  refine wpAny_newFunctionEnv_cells hk (kindsX hkind _) fun env' he s' x => ?_
  subst he
  refine ⟨(T.nolimit.keeps F.keep).keeps x.toInCall.keep, codeG_func ?_⟩
  obtain ⟨h₁, tk, rfl, _⟩ := x.done
  have hk₁ := x.toInCall.keep
  obtain ⟨cells, NC, Y⟩ := Cl.news (h₀ := s.heap) (Nat.le_refl _) fun n c hm => ⟨x.cell n c (lookup_of_mem_nodup (cellsFrom_names scope.names 0 (s.heap.objs.size + 1) [] [] rfl ▸ hnd) hm), x.above n c hm⟩
  refine wpG_mono (h _ s.heap.objs.size h₁ tk cells FG ⟨x.toInCall.ns, fun b o e => hk₁ b o (of_hideAll _ e), Nat.le_of_eq (hideAll_size _ _)⟩ (fun p hp => ?_) Y BG (X₀.keeps st) (T.keeps st) (fun p hp => Heap.lt_size (N p hp).1)) (fun fl s' hl => lv _ _ hl)
  rcases List.mem_append.mp hp with hp | hp
  · refine ⟨(NC p hp).1, (NC p hp).2.1, ?_⟩
    cases q : (hideAll s.heap (news.map (·.1))).get? p.1 with
    | none => rfl
    | some o => have := of_hideAll _ q; rw [(NC p hp).2.2] at this; cases this
  · exact ⟨hk₁ _ _ (N p hp).1, Nat.ne_of_lt (Heap.lt_size (N p hp).1), hideAll_none _ (List.mem_map_of_mem hp)⟩
end
end
section -- M5
set_option linter.unusedVariables false
theorem dec_stepN {Y W V n B : Nat} (h : Y % 2 ^ (n + B) = W + V * 2 ^ n) (hW : W < 2 ^ n) : Y / 2 ^ n % 2 ^ B = V ∧ Y % 2 ^ n = W := by
  have hp : 0 < 2 ^ n := Nat.two_pow_pos n
  have e1 : Y / 2 ^ n % 2 ^ B = (Y % 2 ^ (n + B)) / 2 ^ n := by rw [Nat.pow_add, Nat.mod_mul_right_div_self]
  have e2 : Y % 2 ^ n = (Y % 2 ^ (n + B)) % 2 ^ n := by rw [Nat.pow_add, Nat.mod_mul_right_mod]
  rw [e1, e2, h, Nat.add_mul_div_right _ _ hp, Nat.div_eq_of_lt hW, Nat.add_mul_mod_self_right, Nat.mod_eq_of_lt hW]
  exact ⟨Nat.zero_add _, rfl⟩
/-- the bits of b below n are W -/
def Below' (b : Array UInt8) (n W : Nat) : Prop := bNat b % 2 ^ n = (W : Int)
theorem dec_step {b : Array UInt8} {W V n B : Nat} (h : Below' b (n + B) (W + V * 2 ^ n)) (hW : W < 2 ^ n) : bNat b / 2 ^ n % 2 ^ B = (V : Int) ∧ Below' b n W := by
  unfold Below' at h ⊢
  obtain ⟨Y, hY⟩ := Int.eq_ofNat_of_zero_le (bNat_nonneg b)
  rw [hY, two_pow_cast, ← Int.natCast_emod] at h
  rw [hY, two_pow_cast, two_pow_cast, ← Int.natCast_ediv, ← Int.natCast_emod, ← Int.natCast_emod]
  obtain ⟨a, c⟩ := dec_stepN (Int.ofNat.inj h) hW
  rw [a, c]
  exact ⟨rfl, rfl⟩
theorem dec_start {b : Array UInt8} {W st n lg : Nat} (h : Coded b ((W : Int) + st * 2 ^ n) (n + lg)) (hW : W < 2 ^ n) (hs : st < 2 ^ lg) : Below' b (n + lg) (W + st * 2 ^ n) := by
  unfold Below'
  have hb := h.V
  have hl : W + st * 2 ^ n < 2 ^ (n + lg) := by
    rw [Nat.pow_add, Nat.mul_comm (2 ^ n)]
    have := Nat.mul_le_mul_right (2 ^ n) (show st + 1 ≤ 2 ^ lg from hs)
    rw [Nat.add_mul, Nat.one_mul] at this
    omega
  have e : bNat b = ((W + st * 2 ^ n + 2 ^ (n + lg) : Nat) : Int) := by rw [hb, two_pow_cast, two_pow_cast]; simp
  rw [e, two_pow_cast, ← Int.natCast_emod, Nat.add_mod_right, Nat.mod_eq_of_lt hl]
end
section -- M6
set_option linter.unusedVariables false
/-! the bits and the goals of the states of one symbol with n states -/
def bl (lg n : Nat) : List Nat := (List.range n).map fun r => lg - (n + r).log2
def ga (lg n r : Nat) : Nat := (n + r) * 2 ^ (lg - (n + r).log2) - 2 ^ lg
def gl (lg n : Nat) : List Nat := (List.range n).flatMap fun r => List.range' (ga lg n r) (2 ^ (lg - (n + r).log2))
def xx (n z : Nat) : Nat := if fl n z = ce n z then 0 else (z - n * 2 ^ fl n z) / (2 ^ ce n z - 2 ^ fl n z)
def gk (lg n : Nat) : Nat := n * 2 ^ ce n (2 ^ lg) - 2 ^ lg
def chk (lg n : Nat) : Bool :=
  (bl lg n == List.replicate (xx n (2 ^ lg)) (ce n (2 ^ lg)) ++ List.replicate (n - xx n (2 ^ lg)) (fl n (2 ^ lg))) &&
  (((bl lg n).map fun b => 2 ^ b).sum == 2 ^ lg) && decide (xx n (2 ^ lg) ≤ n) && decide (n * 2 ^ fl n (2 ^ lg) ≤ 2 ^ lg) && decide (fl n (2 ^ lg) ≤ 6) && decide (ce n (2 ^ lg) ≤ 6) &&
  (gl lg n == List.range' (gk lg n) (2 ^ lg - gk lg n) ++ List.range' 0 (gk lg n)) && decide (gk lg n < 2 ^ lg) && decide (gk lg n % 2 = 0) &&
  (decide (fl n (2 ^ lg) = ce n (2 ^ lg)) || decide (fl n (2 ^ lg) < ce n (2 ^ lg)))
theorem chk_all : ([5, 6] : List Nat).all (fun lg => (List.range (2 ^ lg)).all fun n => n == 0 || chk lg n) = true := by decide +kernel
def gli (lg n i : Nat) : List Nat := (List.range i).flatMap fun r => List.range' (ga lg n r) (2 ^ (lg - (n + r).log2))
theorem gl_gli (lg n : Nat) : gl lg n = gli lg n n := rfl
theorem gli_succ (lg n i : Nat) : gli lg n (i + 1) = gli lg n i ++ List.range' (ga lg n i) (2 ^ (lg - (n + i).log2)) := by
  unfold gli; rw [List.range_succ, List.flatMap_append]; simp
theorem gli_le (lg n i : Nat) : ∀ k, (gli lg n i).length ≤ (gli lg n (i + k)).length
  | 0 => Nat.le_refl _
  | k + 1 => by
    rw [show i + (k + 1) = i + k + 1 by omega, gli_succ, List.length_append]
    exact Nat.le_trans (gli_le lg n i k) (Nat.le_add_right _ _)
structure Chk (lg n f c x k : Nat) : Prop where
  bl : bl lg n = List.replicate x c ++ List.replicate (n - x) f
  sum : ((Mine.bl lg n).map fun b => 2 ^ b).sum = 2 ^ lg
  xn : x ≤ n
  nf : n * 2 ^ f ≤ 2 ^ lg
  f6 : f ≤ 6
  c6 : c ≤ 6
  gl : gl lg n = List.range' k (2 ^ lg - k) ++ List.range' 0 k
  kl : k < 2 ^ lg
  kev : k % 2 = 0
  fc : f = c ∨ f < c
  xe : x = if f = c then 0 else (2 ^ lg - n * 2 ^ f) / (2 ^ c - 2 ^ f)
theorem chk_of {lg n : Nat} (hl : lg = 5 ∨ lg = 6) (h1 : 1 ≤ n) (h2 : n < 2 ^ lg) : Chk lg n (fl n (2 ^ lg)) (ce n (2 ^ lg)) (xx n (2 ^ lg)) (gk lg n) := by
  have h := chk_all
  rw [List.all_eq_true] at h
  have h3 := h lg (by rcases hl with rfl | rfl <;> simp)
  rw [List.all_eq_true] at h3
  have h4 := h3 n (List.mem_range.mpr h2)
  have hn : (n == 0) = false := by simp; omega
  rw [hn, Bool.false_or] at h4
  unfold chk at h4
  simp only [Bool.and_eq_true, Bool.or_eq_true, decide_eq_true_eq, beq_iff_eq] at h4
  obtain ⟨⟨⟨⟨⟨⟨⟨⟨⟨a1, a2⟩, a3⟩, a4⟩, a5⟩, a6⟩, a7⟩, a8⟩, a9⟩, a10⟩ := h4
  exact ⟨a1, a2, a3, a4, a5, a6, a7, a8, a9, a10, rfl⟩
theorem Chk.len {lg n f c x k : Nat} (K : Chk lg n f c x k) {i : Nat} (h : i ≤ n) : (gli lg n i).length ≤ 2 ^ lg := by
  have h1 := gli_le lg n i (n - i)
  rw [show i + (n - i) = n by omega, ← gl_gli, K.gl, List.length_append, List.length_range', List.length_range'] at h1
  have := K.kl
  omega
theorem rot_perm {k z : Nat} (h : k ≤ z) : (List.range' k (z - k) ++ List.range' 0 k).Perm (List.range z) := by
  refine List.perm_append_comm.trans ?_
  have : List.range' 0 k ++ List.range' k (z - k) = List.range z := by
    rw [List.range_eq_range']
    have := List.range'_append (s := 0) (m := k) (n := z - k) (step := 1)
    rw [Nat.one_mul, Nat.zero_add, show k + (z - k) = z by omega] at this
    exact this
  rw [this]
end
section -- L3
open PySem PySem.W PySem.Calls PyProof.Rows
set_option linter.unusedVariables false
set_option maxRecDepth 100000
theorem extend_loopP {prog : Program} {w : World} {A : Around} {R : Result → Shared → Prop} {I : Addr} {fp wr : List Addr} {G : Array GenState → Array GenState → Prop} {n : Nat} {P : Nat → Value → Prop} {St : Nat → Shared → Prop} {pre : Array Value}
    (W : WalksS prog w A.in1 I fp wr G n P St) (hn : pre.size + n ≤ sizeLine) (S : Addr) (hSf : S ∉ fp) (res : Value) :
    ∀ (k i : Nat) (s : Shared) (it : Array Value) (c : Nat), n - i = k → i ≤ n → St i s → s.heap.get? S = some { cls := .type "list", dict := none, data := .seq (pre ++ it) c, slots := #[] } → ItemsOf P it i →
    (∀ s' it' c', Moved (S :: wr) G s s' → s'.heap.get? S = some { cls := .type "list", dict := none, data := .seq (pre ++ it') c', slots := #[] } → ItemsOf P it' n → R (.ok (.ret res)) s') →
    codeAny (model prog w) A (.builtin "list.extend.loop" ⟨[.ref S, .ref I, res], []⟩) R s := by
  have hSw : S ∉ wr := fun h => hSf (W.sub _ h)
  have hsub : ∀ b ∈ wr, b ∈ S :: wr := fun b hb => List.mem_cons_of_mem _ hb
  intro k
  induction k with
  | zero =>
    intro i s it c hk hi hst hS hacc hR
    have hin : i = n := Nat.le_antisymm hi (Nat.sub_eq_zero_iff_le.mp hk)
    subst hin
    refine codeAny_builtin F.entry_extend_loop ?_
    rw [Around.under_plainId F.plain_extend_loop _]
    show wpAny _ A.in1 (pyNext (.ref I) >>= _) _ _ s
    refine wpAny_bind (W.done s _ _ hst fun s' hm => ?_)
    exact wpAny_pure (hR s' it c (hm.mono hsub) (hm.heap S _ hSw hS) hacc)
  | succ k ih =>
    intro i s it c hk hi hst hS hacc hR
    have hlt : i < n := Nat.lt_of_sub_eq_succ hk
    refine codeAny_builtin F.entry_extend_loop ?_
    rw [Around.under_plainId F.plain_extend_loop _]
    show wpAny _ A.in1 (pyNext (.ref I) >>= _) _ _ s
    refine wpAny_bind (W.item i s _ _ hlt hst fun v s' hP hst' hm => ?_)
    have hS' := hm.heap S _ hSw hS
    show wpAny _ A.in1 (updateSeq S (·.push v) >>= _) _ _ _
    have hp : (pre ++ it).push v = pre ++ it.push v := by rw [← Array.append_push]
    obtain ⟨c1, h1⟩ : ∃ c1, (s'.heap.update S (Obj.mapSeq (·.push v))).get? S = some { cls := .type "list", dict := none, data := .seq (pre ++ it.push v) c1, slots := #[] } := by
      rw [← hp]; exact ⟨_, Heap.get?_update_self (Obj.mapSeq (·.push v)) hS' rfl⟩
    refine wpAny_bind ?_
    refine wpAny_updateSeq hS' rfl (wpAny_pure ⟨plainId_quiet F.plain_extend_loop _, ih (i + 1) _ (it.push v) _ (by rw [Nat.sub_add_eq, hk]; rfl) hlt (W.frame _ s' _ s'.toks hst' (Nat.le_refl _) fun b hb o e => ?_) h1 (hacc.push hP) fun s'' acc' c' hm'' hS'' hacc' => ?_⟩)
      (by rw [Array.size_append, hacc.1]; omega) (by show ((pre ++ it).push v).size ≤ sizeLine + 1; rw [Array.size_push, Array.size_append, hacc.1]; omega)
    · exact (Heap.get?_update_other _ _ (fun h : S = b => hSf (by rw [h]; exact hb))).trans e
    · refine hR s'' acc' c' (Moved.trans W.gtrans ((hm.mono hsub).then_heap (by first | exact Nat.le_refl _ | exact Nat.le_succ _ | omega) fun b o hb e => ?_) hm'') hS'' hacc'
      exact (Heap.get?_update_other _ _ (fun h : S = b => hb (by rw [h]; exact List.mem_cons_self))).trans e
theorem plain_list_extend : plainId "list.extend" = true := by decide +kernel
theorem extend_rangeP {prog : Program} {w : World} {A : Around} {s : Shared} {R : Result → Shared → Prop} {r : Addr} {a b c : Int} {t u v : Tok} {n : Nat} {pre : Array Value} (hh : A.handled = none) (hr : IsRange s.heap r a b c t u v) (hsmall : Builtin.Range.small a b c = true)
    (hn : Builtin.Range.rangeSize a b c = n) (hlen : pre.size + n ≤ 1000) (S : Addr) (res : Value) (c₀ : Nat) (hS : s.heap.get? S = some { cls := .type "list", data := .seq pre c₀ })
    (hR : ∀ h' tk it' c', (∀ b o, b ≠ S → s.heap.get? b = some o → h'.get? b = some o) → h'.get? S = some { cls := .type "list", dict := none, data := .seq (pre ++ it') c', slots := #[] } →
      ItemsOf (fun i v => ∃ t, v = .int (a + i * c) t) it' n → R (.ok (.ret res)) { s with heap := h', toks := tk }) :
    wpAny (model prog w) A.in1 (Builtin.List.listExtendWith (.ref S) (.ref r) res)
      (fun fin s' => match fin with | .done f => R (.ok f) s' | .again c' => c'.quiet = true ∧ codeAny (model prog w) A c' R s') (fun e s' => R (.error e) s') s := by
  have hSr : S ≠ r := fun e => by rw [e, hr] at hS; simp at hS
  have hSlt : S < s.heap.objs.size := Heap.lt_size hS
  have hSI : S ≠ s.heap.objs.size := Nat.ne_of_lt hSlt
  have hSf : S ∉ [s.heap.objs.size] := fun hm => hSI (List.mem_singleton.mp hm)
  have W := (Walks.range (prog := prog) (w := w) (A := A.in1) hh s.heap.objs.size a c n).toS
  have key : ∀ (h : Heap) (c₁ tk : Nat), IsRangeIter h s.heap.objs.size (a + ((0 : Nat) : Int) * c) ((n : Int) - ((0 : Nat) : Int)) c → (∀ b o, b ≠ S → s.heap.get? b = some o → h.get? b = some o) →
      h.get? S = some { cls := .type "list", data := .seq pre c₁ } → codeAny (model prog w) A (.builtin "list.extend.loop" ⟨[.ref S, .ref s.heap.objs.size, res], []⟩) R { s with heap := h, toks := tk } := by
    intro h c₁ tk hit hk hS₁
    refine extend_loopP (pre := pre) W (by rw [sizeLine_eq]; omega) S hSf res n 0 _ #[] c₁ rfl (Nat.zero_le _) hit (by rw [Array.append_empty]; exact hS₁) (ItemsOf.nil _) fun s' acc' c' hm hS' hacc => ?_
    rw [Moved.eq_with hm]
    refine hR s'.heap s'.toks acc' c' (fun b o hb e => hm.heap b o (fun hmem => ?_) (hk b o hb e)) hS' hacc
    rcases List.mem_cons.mp hmem with e' | hmem
    · exact hb e'
    · exact absurd (Heap.lt_size e) (by rw [List.mem_singleton.mp hmem]; exact Nat.lt_irrefl _)
  have hsz : pre.size ≤ sizeLine := by rw [sizeLine_eq]; omega
  unfold Builtin.List.listExtendWith
  refine wpAny_bind (wpAny_typeOf (T := "range") ⟨_, hr, rfl⟩ ?_)
  have h1 : Builtin.List.listSameRef (.ref S) (.ref r) = false := by simp [Builtin.List.listSameRef, hSr]
  have h2 : (Value.type "range" == Value.type "list") = false := by decide
  have h3 : (Value.type "range" == Value.type "tuple") = false := by decide
  simp only [h1, h2, h3, Bool.or_false, Bool.false_eq_true, if_false]
  refine wpAny_bind (wpAny_pyIter_range hr hsmall ?_)
  refine wpAny_bind (wpAny_holding (wpAny_hint_range (n := n) (Heap.get?_push_of_some _ hr) hn (by omega) ?_))
  have hit₁ : IsRangeIter (s.heap.push { cls := .type "range_iterator", data := .fields #[rawInt a, rawInt (Builtin.Range.rangeSize a b c), rawInt c] }) s.heap.objs.size (a + ((0 : Nat) : Int) * c) ((n : Int) - ((0 : Nat) : Int)) c := by
    show IsRangeIter _ _ _ _ _; rw [hn]; simpa using Heap.get?_push_size _ rfl
  have hS₁ := Heap.get?_push_of_some { cls := .type "range_iterator", data := .fields #[rawInt a, rawInt (Builtin.Range.rangeSize a b c), rawInt c] } hS
  refine wpAny_ite_split (fun _ => ?_) (fun _ => wpAny_pure ⟨plainId_quiet F.plain_extend_loop _, key _ c₀ _ hit₁ (fun b o _ e => Heap.get?_push_of_some _ e) hS₁⟩)
  refine wpAny_bind (wpAny_rule ?_)
  refine wpAny_bind ?_
  show wpAny _ _ (updateSeq S (·.push .none) >>= fun _ => updateSeq S (·.pop)) _ _ _
  refine wpAny_bind (wpAny_updateSeq hS₁ rfl ?_ hsz (by show (pre.push Value.none).size ≤ _; rw [Array.size_push]; omega))
  have hS₂ := Heap.get?_update_self (Obj.mapSeq (·.push Value.none)) hS₁ rfl
  refine wpAny_updateSeq (xs := pre.push Value.none) (hz := by rw [Array.size_push, sizeLine_eq]; omega) hS₂ rfl ?_ (by show ((pre.push Value.none).pop).size ≤ _; rw [Array.pop_push]; omega)
  obtain ⟨c3, hS₃⟩ : ∃ c3, ((((s.heap.push { cls := .type "range_iterator", data := .fields #[rawInt a, rawInt (Builtin.Range.rangeSize a b c), rawInt c] }).update S (Obj.mapSeq (·.push Value.none))).update S (Obj.mapSeq (·.pop))).get? S) = some { cls := .type "list", data := .seq pre c3 } := by
    conv => congr; ext c3; rw [show pre = (pre.push Value.none).pop from Array.pop_push.symm]
    exact ⟨_, Heap.get?_update_self (Obj.mapSeq (·.pop)) hS₂ rfl⟩
  refine wpAny_pure ⟨plainId_quiet F.plain_extend_loop _, key _ c3 _ ?_ (fun b o hb e => ?_) hS₃⟩
  · exact (Heap.get?_update_other _ _ hSI).trans ((Heap.get?_update_other _ _ hSI).trans hit₁)
  · exact (Heap.get?_update_other _ _ (Ne.symm hb)).trans ((Heap.get?_update_other _ _ (Ne.symm hb)).trans (Heap.get?_push_of_some _ e))
theorem ints_of : ∀ {n a : Nat} {it : Array Value}, it.size = n → (∀ (j : Nat) v, it[j]? = some v → ∃ t, v = Value.int ((a + j : Nat) : Int) t) → IntsAre it.toList ((List.range' a n).map fun k : Nat => (k : Int)) := fun {n a it} hs h => by
  obtain ⟨l⟩ := it
  simp only [List.size_toArray] at hs
  simp only [List.getElem?_toArray] at h
  show IntsAre l _
  induction l generalizing n a with
  | nil => simp at hs; subst hs; exact .nil
  | cons v l ih =>
    obtain ⟨k, rfl⟩ : ∃ k, n = k + 1 := ⟨n - 1, by simp at hs; omega⟩
    obtain ⟨t, rfl⟩ := h 0 v rfl
    rw [List.range'_succ, List.map_cons]
    refine .cons _ _ (ih (by simpa using hs) fun j v hv => ?_)
    obtain ⟨t, e⟩ := h (j + 1) v (by simpa using hv)
    exact ⟨t, by rw [e]; congr 2; omega⟩
theorem extend_range {prog : Program} {w : World} {A : Around} {E Q : Value → Shared → Prop} {s : Shared} {h₀ : Heap} {L D : Addr} {m : Str → Option Value} {news : List (Addr × Obj)} {r : Addr} {a b : Int} {t u v : Tok} {n : Nat} {vs : List Value} {ms : List Nat} {cap a' : Nat}
    (hh : A.handled = none) (F : Fr h₀ L s.heap m) (N : News h₀ L s.heap ((D, lst vs cap) :: news)) (hoff : ∀ p ∈ news, p.1 ≠ D) (hi : IntsAre vs (up ms)) (hr : IsRange s.heap r a b 1 t u v) (ha : a = (a' : Int)) (hb : b = ((a' + n : Nat) : Int)) (hz : ms.length + n ≤ 1000) (hz2 : a' + n ≤ 1000)
    (h : ∀ vs' cap' h' tk', Fr h₀ L h' m → News h₀ L h' ((D, lst vs' cap') :: news) → IntsAre vs' (up (ms ++ List.range' a' n)) → Q .none { s with heap := h', toks := tk' }) :
    wpAny (model prog w) A (call (.builtin "list.extend") [.ref D, .ref r]) Q E s := by
  have z := N (D, lst vs cap) (.head _)
  have hvl : vs.length = ms.length := by rw [hi.length, up_len]
  refine wpAny_call (codeAny_call_builtin PySem.F.slot_list_extend.plain PySem.F.entry_list_extend (PySem.F.slot_list_extend.check _ _ _ _ _ _ _ _ ⟨_, z.1, rfl⟩ (PySem.F.args_list_extend_2 _ _) ?_))
  show wpAny _ _ (Builtin.List.listExtendWith (.ref D) (.ref r) .none) _ _ _
  refine extend_rangeP (R := fun r s' => match r with | .ok (.ret v) => Q v s' | .ok _ => False | .error e => E e s') (pre := vs.toArray) (n := n) hh hr ?_ ?_ (by rw [List.size_toArray]; omega) D .none cap z.1 fun h' tk it' c' hk hS hit => ?_
  · subst ha; subst hb; exact rsmI (Int.natCast_nonneg _) (by omega) (by omega) (by omega)
  · subst ha; subst hb; rw [rangeSize_nat, Int.natCast_add, Int.add_comm, Int.add_sub_cancel]; rfl
  · have e1 : vs.toArray ++ it' = (vs ++ it'.toList).toArray := by simp
    rw [e1] at hS
    refine h (vs ++ it'.toList) c' h' tk ?_ (fun p hp => ?_) ?_
    · exact ⟨F.ns.at' fun o e => hk _ o (Ne.symm z.2.1) e, fun b o e => hk b o (fun q => by rw [q, z.2.2] at e; cases e) (F.keep b o e), F.above⟩
    · rcases List.mem_cons.mp hp with rfl | hp
      · exact ⟨hS, z.2⟩
      · exact ⟨hk _ _ (hoff p hp) (N p (.tail _ hp)).1, (N p (.tail _ hp)).2⟩
    · unfold up
      rw [List.map_append]
      refine hi.append (ints_of hit.1 fun j v hv => ?_)
      obtain ⟨tk, rfl⟩ := hit.2 j v hv
      exact ⟨tk, by rw [ha]; congr 1; omega⟩
theorem list_range_ {prog : Program} {w : World} {A : Around} {E Q : Value → Shared → Prop} {s : Shared} {h₀ : Heap} {L : Addr} {m : Str → Option Value} {news : List (Addr × Obj)} {r : Addr} {b : Int} {t u v : Tok} {n : Nat}
    (hh : A.handled = none) (F : Fr h₀ L s.heap m) (N : News h₀ L s.heap news) (hr : IsRange s.heap r 0 b 1 t u v) (hb : b = (n : Int)) (hz : n ≤ 1000)
    (h : ∀ D vs' cap' h' tk', Fr h₀ L h' m → News h₀ L h' ((D, lst vs' cap') :: news) → (∀ p ∈ news, p.1 ≠ D) → IntsAre vs' (up (List.range n)) → Q (.ref D) { s with heap := h', toks := tk' }) :
    wpAny (model prog w) A (call (.type "list") [.ref r]) Q E s := by
  subst hb
  refine call_list_range (n := n) hh hr ?_ ?_ (by omega) fun h' tk it' c' hk hS hit => ?_
  · exact rsm hz
  · exact rsz
  · have e1 : it' = it'.toList.toArray := by simp
    rw [e1] at hS
    refine h _ it'.toList c' h' tk (F.keeps hk) (fun p hp => ?_) (fun p hp => Nat.ne_of_lt (Heap.lt_size (N p hp).1)) ?_
    · rcases List.mem_cons.mp hp with rfl | hp
      · refine ⟨hS, Nat.ne_of_gt F.ns.lt, ?_⟩
        exact next_is_new F
      · exact ⟨hk _ _ (N p hp).1, (N p hp).2⟩
    · unfold up
      rw [List.range_eq_range']
      refine ints_of hit.1 fun j v hv => ?_
      obtain ⟨tk, rfl⟩ := hit.2 j v hv
      exact ⟨tk, by congr 1; omega⟩
end
section -- S1
open PySem PySem.Calls PyProof.Rows
def gallop' : Bool → Keyed → Array Keyed → Nat → Nat → Nat → StateT SortSt Sem (Option Nat) := sortPriv% PySem.Builtin.gallop
def mergeLo' : Array Keyed → Array Keyed → StateT SortSt Sem (Array Keyed) := sortPriv% PySem.Builtin.mergeLo
def mergeHi' : Array Keyed → Array Keyed → StateT SortSt Sem (Array Keyed) := sortPriv% PySem.Builtin.mergeHi
abbrev ST (a : Array Keyed) (p : Array (Nat × Nat × Nat)) (g : Nat) : SortSt := SortSt.mk' oneType' a p g none
def isK (x : Keyed) (n : Int) : Prop := ∃ t, x.1 = .int n t
/-- a loop that is left in its k-th turn, with all that it holds known -/
theorem wS_exact {σ β : Type} {M : Model} {A : Around} {E : Value → Shared → Prop} {s : Shared} {n : Nat} {f : Nat → β → StateT σ Sem (ForInStep β)} (F : Nat → β) (G : Nat → σ) (k : Nat) (c₁ : β) (g₁ : σ) {Q : β → σ → Prop} (hk : k < n)
    (step : ∀ x, x ≤ k → wpS M A E s (f x (F x)) (fun r st' => match r with | .done c => c = c₁ ∧ st' = g₁ | .yield c => x < k ∧ c = F (x + 1) ∧ st' = G (x + 1)) (G x)) (h : Q c₁ g₁) :
    wpS M A E s (forIn [0:n] (F 0) f) Q (G 0) := by
  refine wpS_forRange (I := fun x c st => x ≤ k ∧ c = F x ∧ st = G x) ?_ ?_ ⟨Nat.zero_le k, rfl, rfl⟩
  · rintro x c st - - ⟨hx, rfl, rfl⟩
    refine wpS_mono (step x hx) fun r st' hr => ?_
    cases r with
    | done c => obtain ⟨rfl, rfl⟩ := hr; exact h
    | yield c => exact ⟨hr.1, hr.2⟩
  · rintro c st ⟨hx, -⟩
    rw [Nat.zero_max] at hx
    exact absurd hx (Nat.not_le_of_lt hk)
/-- a loop that is left in its first turn -/
theorem wS_once {σ β : Type} {M : Model} {A : Around} {E : Value → Shared → Prop} {s : Shared} {n : Nat} {f : Nat → β → StateT σ Sem (ForInStep β)} {c₀ : β} {st : σ} {Q : β → σ → Prop} (hn : 0 < n)
    (h : wpS M A E s (f 0 c₀) (fun r st' => match r with | .done c => Q c st' | .yield _ => False) st) : wpS M A E s (forIn [0:n] c₀ f) Q st := by
  refine wpS_forRange (I := fun x c st' => x = 0 ∧ c = c₀ ∧ st' = st) ?_ ?_ ⟨rfl, rfl, rfl⟩
  · rintro x c st' - - ⟨rfl, rfl, rfl⟩
    refine wpS_mono h fun r st' hr => ?_
    cases r with
    | done c => exact hr
    | yield c => exact hr.elim
  · rintro c st' ⟨hx, -⟩
    rw [Nat.zero_max] at hx
    exact absurd hx (Nat.ne_of_gt hn)
theorem wS_else {σ α : Type} {M : Model} {A : Around} {E : Value → Shared → Prop} {s : Shared} {c : Prop} [Decidable c] {x y : StateT σ Sem α} {Q : α → σ → Prop} {st : σ} (h : ¬ c) (hy : wpS M A E s y Q st) : wpS M A E s (if c then x else y) Q st := by
  rw [if_neg h]; exact hy
theorem wS_then {σ α : Type} {M : Model} {A : Around} {E : Value → Shared → Prop} {s : Shared} {c : Prop} [Decidable c] {x y : StateT σ Sem α} {Q : α → σ → Prop} {st : σ} (h : c) (hx : wpS M A E s x Q st) : wpS M A E s (if c then x else y) Q st := by
  rw [if_pos h]; exact hx
/-- a loop whose state is told by two parameters, the rest as it is -/
theorem wS_for2 {σ β ι κ : Type} {M : Model} {A : Around} {E : Value → Shared → Prop} {s : Shared} {n : Nat} {f : Nat → β → StateT σ Sem (ForInStep β)} {st : σ} {Q : β → σ → Prop} (F : ι → κ → β) (I : Nat → ι → κ → Prop) {l₀ : ι} {r₀ : κ}
    (step : ∀ x l r, x < n → I x l r → wpS M A E s (f x (F l r)) (fun res st' => match res with | .done c => Q c st' | .yield c => ∃ l' r', c = F l' r' ∧ st' = st ∧ I (x + 1) l' r') st)
    (fin : ∀ l r, I n l r → Q (F l r) st) (h0 : I 0 l₀ r₀) : wpS M A E s (forIn [0:n] (F l₀ r₀) f) Q st := by
  refine wpS_forRange (I := fun x c st' => ∃ l r, c = F l r ∧ st' = st ∧ I x l r) ?_ ?_ ⟨l₀, r₀, rfl, rfl, h0⟩
  · rintro x c st' - hx ⟨l, r, rfl, rfl, h⟩
    refine wpS_mono (step x l r hx h) fun res st₂ hr => ?_
    cases res with
    | done c => exact hr
    | yield c => exact hr
  · rintro c st' ⟨l, r, rfl, rfl, h⟩
    rw [Nat.zero_max] at h
    exact fin l r h
section
variable {prog : Program} {w : World} {A : Around} {E : Value → Shared → Prop} {s : Shared} {st : SortSt}
theorem wS_lt {x y : Keyed} {a b : Int} {Q : Option Bool → SortSt → Prop} (hk : kindOf st = oneType') (hx : isK x a) (hy : isK y b) (h : Q (some (decide (a < b))) st) : wpS (model prog w) A E s (lt' x y) Q st := by
  obtain ⟨t, e1⟩ := hx
  obtain ⟨u, e2⟩ := hy
  rw [lt'_eq]
  refine wpS_bind (wpS_get ?_)
  rw [hk, keyLt'_oneType, e1, e2]
  refine wpS_bind (wpS_lift (wpAny_attempt (oneLt_int ⟨rfl, ?_⟩)))
  exact wpS_pure h
theorem wS_elem {a : Array Keyed} {i : Nat} {x : Keyed} {Q : Keyed → SortSt → Prop} (e : a[i]? = some x) (h : Q x st) : wpS (model prog w) A E s (elem' a i) Q st := by
  rw [elem'_eq, e]; exact wpS_pure h
/-- galloping: the items that lie beyond are those below q -/
theorem wS_gallop {left : Bool} {key : Keyed} {c : Int} {arr : Array Keyed} {base n hint q : Nat} {f : Nat → Int} {Q : Option Nat → SortSt → Prop} (hk : kindOf st = oneType') (hc : isK key c)
    (ha : ∀ i, i < n → ∃ x, arr[base + i]? = some x ∧ isK x (f i)) (hq : ∀ i, i < n → ((if left then decide (f i < c) else !(decide (c < f i))) = decide (i < q))) (hqn : q ≤ n) (hh : hint < n)
    (h : Q (some q) st) : wpS (model prog w) A E s (gallop' left key arr base n hint) Q st := by
  have mid1 : ∀ {l r : Nat}, ¬ l ≥ r → r ≤ n → l + (r - l) / 2 < n := by omega
  have mid2 : ∀ {l r x : Nat}, r + x ≤ l + n → r + (x + 1) ≤ l + (r - l) / 2 + 1 + n := by omega
  have mid3 : ∀ {l r x : Nat}, ¬ l ≥ r → r + x ≤ l + n → l + (r - l) / 2 + (x + 1) ≤ l + n := by omega
  have h4' : ∀ {lo hi : Nat}, hi ≤ n → hi + 0 ≤ lo + n := by omega
  have hrq : ∀ {l r : Nat}, l ≤ q ∧ q ≤ r ∧ r ≤ n ∧ r + n ≤ l + n → r = q := by omega
  have beyond : ∀ i, i < n → ∀ R : Option Bool → SortSt → Prop, R (some (decide (i < q))) st →
      wpS (model prog w) A E s (do let x ← elem' arr (base + i); if left then lt' x key else return (← lt' key x).map (!·)) R st := by
    intro i hi R hR
    obtain ⟨x, e, hx⟩ := ha i hi
    have := hq i hi
    refine wpS_bind (wS_elem e ?_)
    cases left with
    | true => exact wS_lt hk hx hc (by simp only [if_true] at this; rw [this]; exact hR)
    | false => exact wpS_bind (wS_lt hk hc hx (wpS_pure (by simp only [Bool.false_eq_true, if_false] at this; show R (some (!decide (c < f i))) st; rw [this]; exact hR)))
  have find : ∀ lo hi, lo ≤ q → q ≤ hi → hi ≤ n → wpS (model prog w) A E s
      (forIn [0:n] (none, lo, hi) fun (_ : Nat) (c : Option (Option Nat) × Nat × Nat) => if c.2.1 ≥ c.2.2 then pure (ForInStep.done (none, c.2.1, c.2.2)) else do
        let b ← (do let x ← elem' arr (base + (c.2.1 + (c.2.2 - c.2.1) / 2)); if left then lt' x key else return (← lt' key x).map (!·))
        match b with
        | some more => if more = true then pure (ForInStep.yield (none, c.2.1 + (c.2.2 - c.2.1) / 2 + 1, c.2.2)) else pure (ForInStep.yield (none, c.2.1, c.2.1 + (c.2.2 - c.2.1) / 2))
        | x => pure (ForInStep.done (some none, c.2.1, c.2.2))) (fun c st' => st' = st ∧ ∃ l, c = (none, l, q)) st := by
    intro lo hi h1 h2 h3
    refine wS_for2 (fun l r => (none, l, r)) (fun x l r => l ≤ q ∧ q ≤ r ∧ r ≤ n ∧ r + x ≤ l + n) (fun x l r hx h => ?st) (fun l r h => ?fi) ⟨h1, h2, h3, h4' h3⟩
    case fi => exact ⟨rfl, l, by rw [show r = q from hrq h]⟩
    case st =>
      refine And.elim (fun h1 hx₁ => And.elim (fun h2 hx₂ => And.elim (fun h3 h4 => ?_) hx₂) hx₁) h
      clear hx₂ hx₁ h
      by_cases hge : l ≥ r
      · exact wS_then hge (wpS_pure ⟨rfl, l, by rw [show r = q by omega]⟩)
      · refine wS_else hge (wpS_bind (beyond _ (mid1 hge h3) _ ?_))
        by_cases hm : l + (r - l) / 2 < q
        · exact wS_then (decide_eq_true hm) (wpS_pure ⟨_, _, rfl, rfl, hm, h2, h3, mid2 h4⟩)
        · exact wS_else (by rw [decide_eq_false hm]; exact Bool.false_ne_true) (wpS_pure ⟨_, _, rfl, rfl, h1, Nat.le_of_not_lt hm, Nat.le_of_lt (mid1 hge h3), mid3 hge h4⟩)
  have hN : ∀ {of : Nat}, n - hint ≤ of → hint + min of (n - hint) = n := fun h => by rw [Nat.min_eq_right h, Nat.add_sub_of_le (Nat.le_of_lt hh)]
  have hL : ∀ {of : Nat}, hint + 1 ≤ of → hint + 1 - min of (hint + 1) ≤ q := fun h => by rw [Nat.min_eq_right h, Nat.sub_self]; exact Nat.zero_le q
  have hS : ∀ {x : Nat}, hint - x ≤ n := Nat.le_trans (Nat.sub_le _ _) (Nat.le_of_lt hh)
  unfold gallop'
  refine wpS_bind (beyond hint hh _ ?_)
  by_cases hr : hint < q
  · refine wS_then (decide_eq_true hr) ?_
    refine wpS_bind (wS_for2 (fun la of => (none, la, of)) (fun x la of => hint + la < q ∧ la < of ∧ x + 1 ≤ of) (fun x la of hx h => ?s1) (fun la of h => ?f1) ⟨hr, Nat.one_pos, Nat.le_refl 1⟩)
    case s1 =>
      refine And.elim (fun h1 hx₁ => And.elim (fun h2 h3 => ?_) hx₁) h
      clear hx₁ h
      by_cases hge : of ≥ n - hint
      · refine wS_then hge (wpS_pure ?_)
        exact wpS_bind (wpS_mono (find (hint + la + 1) (hint + min of (n - hint)) (Nat.succ_le_of_lt h1) (Nat.le_trans hqn (Nat.le_of_eq (hN hge).symm)) (Nat.le_of_eq (hN hge))) fun c' st' h' => by obtain ⟨rfl, l, rfl⟩ := h'; exact wpS_pure h)
      · have hof := Nat.add_lt_of_lt_sub' (Nat.lt_of_not_le hge)
        have hmn : min of (n - hint) = of := Nat.min_eq_left (Nat.le_of_lt (Nat.lt_of_not_le hge))
        refine wS_else hge (wpS_bind (beyond (hint + of) hof _ ?_))
        by_cases hm : hint + of < q
        · exact wS_else (by rw [decide_eq_true hm]; decide) (wpS_pure ⟨_, _, rfl, rfl, hm, by omega, by omega⟩)
        · refine wS_then (by rw [decide_eq_false hm]; rfl) (wpS_pure ?_)
          exact wpS_bind (wpS_mono (find (hint + la + 1) (hint + min of (n - hint)) (Nat.succ_le_of_lt h1) (by rw [hmn]; exact Nat.le_of_not_lt hm) (by rw [hmn]; exact Nat.le_of_lt hof)) fun c' st' h' => by obtain ⟨rfl, l, rfl⟩ := h'; exact wpS_pure h)
    case f1 =>
      have h1 := h.1
      have h3 := h.2.2
      clear h
      have h4 : n - hint ≤ of := by omega
      exact wpS_bind (wpS_mono (find (hint + la + 1) (hint + min of (n - hint)) (Nat.succ_le_of_lt h1) (Nat.le_trans hqn (Nat.le_of_eq (hN h4).symm)) (Nat.le_of_eq (hN h4))) fun c' st' h' => by obtain ⟨rfl, l, rfl⟩ := h'; exact wpS_pure h)
  · refine wS_else (by rw [decide_eq_false hr]; exact Bool.false_ne_true) ?_
    refine wpS_bind (wS_for2 (fun la of => (none, la, of)) (fun x la of => q + la ≤ hint ∧ la < of ∧ x + 1 ≤ of) (fun x la of hx h => ?s2) (fun la of h => ?f2) ⟨Nat.le_of_not_lt hr, Nat.one_pos, Nat.le_refl 1⟩)
    case s2 =>
      refine And.elim (fun h1 hx₁ => And.elim (fun h2 h3 => ?_) hx₁) h
      clear hx₁ h
      by_cases hge : of ≥ hint + 1
      · refine wS_then hge (wpS_pure ?_)
        exact wpS_bind (wpS_mono (find (hint + 1 - min of (hint + 1)) (hint - la) (hL hge) (Nat.le_sub_of_add_le h1) hS) fun c' st' h' => by obtain ⟨rfl, l, rfl⟩ := h'; exact wpS_pure h)
      · have hlt := Nat.lt_of_not_le hge
        refine wS_else hge (wpS_bind (beyond (hint - of) (Nat.lt_of_le_of_lt (Nat.sub_le _ _) hh) _ ?_))
        by_cases hm : hint - of < q
        · refine wS_then (decide_eq_true hm) (wpS_pure ?_)
          exact wpS_bind (wpS_mono (find (hint + 1 - min of (hint + 1)) (hint - la) (by rw [Nat.min_eq_left (Nat.le_of_lt hlt), Nat.succ_sub (Nat.le_of_lt_succ hlt)]; exact hm) (Nat.le_sub_of_add_le h1) hS) fun c' st' h' => by obtain ⟨rfl, l, rfl⟩ := h'; exact wpS_pure h)
        · exact wS_else (by rw [decide_eq_false hm]; decide) (wpS_pure ⟨_, _, rfl, rfl, Nat.add_le_of_le_sub (Nat.le_of_lt_succ hlt) (Nat.le_of_not_lt hm), by omega, by omega⟩)
    case f2 =>
      have h1 := h.1
      have h3 := h.2.2
      clear h
      have h4 : hint + 1 ≤ of := by omega
      exact wpS_bind (wpS_mono (find (hint + 1 - min of (hint + 1)) (hint - la) (hL h4) (Nat.le_sub_of_add_le h1) hS) fun c' st' h' => by obtain ⟨rfl, l, rfl⟩ := h'; exact wpS_pure h)
end
end
section -- S2
open PySem PySem.Calls PyProof.Rows
theorem get_bang {a : Array Keyed} {i : Nat} (h : i < a.size) : a[i]? = some a[i]! := by
  rw [Array.getElem?_eq_getElem h, getElem!_pos a i h]
theorem push_ext {b : Array Keyed} {n : Nat} (h : n < b.size) : (b.extract 0 n).push b[n]! = b.extract 0 (n + 1) := by
  apply Array.toList_inj.mp
  rw [Array.toList_push, Array.toList_extract, Array.toList_extract]
  simp only [List.extract_eq_take_drop, List.drop_zero, Nat.sub_zero]
  rw [List.take_add_one, getElem!_pos b n h]
  simp [h]
theorem low_out {a b : Array Keyed} {k : Nat} (h : 9 + k = b.size) : b.extract 0 9 ++ b.extract 9 (9 + k) ++ a.extract 0 a.size ++ b.extract (9 + k) b.size = b ++ a := by
  rw [h, Array.extract_append_extract, show min 0 9 = 0 by rfl, show max 9 b.size = b.size by omega]
  simp
/-- the items taken from b, the first and x more -/
def lowA (b : Array Keyed) : Nat → Array Keyed
  | 0 => #[b[0]!]
  | x + 1 => (lowA b x).push b[1 + x]!
theorem lowA_eq {b : Array Keyed} : ∀ {x : Nat}, x < b.size → lowA b x = b.extract 0 (1 + x)
  | 0, h => by rw [← push_ext h]; simp [lowA]
  | x + 1, h => by
    have hx : 1 + x < b.size := by omega
    show (lowA b x).push b[1 + x]! = _
    rw [lowA_eq (by omega), push_ext hx, Nat.add_assoc]
section
variable {prog : Program} {w : World} {A : Around} {E : Value → Shared → Prop} {s : Shared} {arr a b : Array Keyed} {pd : Array (Nat × Nat × Nat)} {fa fb : Nat → Int}
theorem wS_mergeLo {Q : Array Keyed → SortSt → Prop} (ha : ∀ i, i < a.size → isK a[i]! (fa i)) (hb : ∀ i, i < b.size → isK b[i]! (fb i)) (hlt : ∀ i j, i < a.size → j < b.size → fb j < fa i)
    (h2 : 2 ≤ a.size) (h10 : 10 ≤ b.size) (h : ∀ g, Q (b ++ a) (ST arr pd g)) : wpS (model prog w) A E s (mergeLo' a b) Q (ST arr pd 7) := by
  unfold mergeLo'
  have p1 : 0 < a.size := Nat.lt_of_lt_of_le (by decide) h2
  have p2 : 0 < b.size := Nat.lt_of_lt_of_le (by decide) h10
  have p8 : 8 < b.size := Nat.lt_of_lt_of_le (by decide) h10
  have p9 : 9 < b.size := Nat.lt_of_lt_of_le (by decide) h10
  refine wpS_bind (wpS_lift (wpAny_rule ⟨rfl, ?_⟩))
  refine wpS_bind (wS_elem (get_bang (by first | assumption | omega)) ?_)
  refine wS_else (by simp; omega) ?_
  refine wS_else (by simp; omega) ?_
  refine wpS_bind (wpS_get ?_)
  refine wpS_bind (wS_once ?n1 ?_)
  case n1 => exact Nat.lt_of_lt_of_le (Nat.zero_lt_of_lt h2) (Nat.le_add_right ..)
  refine wpS_bind (wS_exact (fun x => (none, lowA b x, 0, 1 + x, 0, x)) (fun _ => ST arr pd 7) 6 (none, lowA b 7, 0, 8, 0, 7) (ST arr pd 7) ?hk ?s2 ?p2)
  case hk => exact Nat.lt_of_lt_of_le (Nat.lt_of_lt_of_le (by decide) h10) (Nat.le_add_left ..)
  case s2 =>
    intro x h6
    have q2 : 1 + x < b.size := by omega
    refine wpS_bind (wS_elem (get_bang (by first | assumption | omega)) ?_)
    refine wpS_bind (wS_elem (get_bang (by first | assumption | omega)) ?_)
    refine wpS_bind (wS_lt rfl (hb _ (by first | assumption | omega)) (ha _ (by first | assumption | omega)) ?_)
    refine wS_then (by simpa using hlt _ _ (by first | assumption | omega) (by first | assumption | omega)) ?_
    refine wpS_bind (wS_elem (get_bang (by first | assumption | omega)) ?_)
    refine wS_else (by simp; omega) ?_
    by_cases h7 : x = 6
    · exact wS_then (show x + 1 ≥ 7 by omega) (wpS_pure ⟨by rw [h7]; rfl, rfl⟩)
    · exact wS_else (show ¬ x + 1 ≥ 7 by omega) (wpS_pure ⟨by omega, rfl, rfl⟩)
  case p2 =>
    refine wpS_bind (wpS_lift (wpAny_rule ⟨rfl, ?_⟩))
    refine wpS_bind (wS_once ?n3 ?_)
    case n3 => exact Nat.lt_of_lt_of_le (Nat.zero_lt_of_lt h2) (Nat.le_add_right ..)
    refine wS_then (by decide : 8 > 1) ?_
    refine wpS_bind (wpS_modify ?_)
    refine wpS_bind (wS_elem (get_bang (Nat.lt_of_lt_of_le (by decide : 8 < 10) h10)) ?_)
    refine wpS_bind (wS_gallop (q := 0) (f := fa) rfl (hb 8 (by first | assumption | omega)) (fun i hi => ⟨_, get_bang (by first | assumption | omega), by rw [Nat.zero_add]; exact ha i (by first | assumption | omega)⟩) (fun i hi => by simp [hlt i 8 (by first | assumption | omega) (by first | assumption | omega)]) (by first | assumption | omega) (by first | assumption | omega) ?_)
    refine wS_else (Nat.lt_irrefl 0) ?_
    refine wpS_bind (wS_elem (get_bang (Nat.lt_of_lt_of_le (by decide : 8 < 10) h10)) ?_)
    refine wS_else (by simp; omega) ?_
    refine wpS_bind (wS_elem (get_bang (by first | assumption | omega)) ?_)
    refine wpS_bind (wS_gallop (q := b.size - 9) (f := fun i => fb (9 + i)) rfl (ha 0 (by first | assumption | omega)) (fun i hi => ⟨_, get_bang (Nat.add_lt_of_lt_sub' hi), hb _ (Nat.add_lt_of_lt_sub' hi)⟩) (fun i hi => by rw [decide_eq_true (hlt 0 (9 + i) p1 (Nat.add_lt_of_lt_sub' hi)), decide_eq_true hi]; rfl) (by first | assumption | omega) (by first | assumption | omega) ?_)
    refine wS_then (show b.size - 9 > 0 by omega) ?_
    refine wS_then (show (8 + 1 + (b.size - 9) == b.size) = true by simp; omega) ?_
    refine wpS_pure (wpS_pure (wpS_pure ?_))
    have e : lowA b 8 ++ b.extract 9 (9 + (b.size - 9)) ++ a.extract 0 a.size ++ b.extract (9 + (b.size - 9)) b.size = b ++ a := by rw [lowA_eq (by first | assumption | omega)]; exact low_out (by first | assumption | omega)
    show Q (lowA b 8 ++ b.extract 9 (9 + (b.size - 9)) ++ a.extract 0 a.size ++ b.extract (9 + (b.size - 9)) b.size) (ST arr pd _)
    rw [e]
    exact h _
end
end
section -- S3
open PySem PySem.Calls PyProof.Rows
def rev_top (a : Array Keyed) (n : Nat) : Array Keyed := (a.extract (a.size - n) a.size).reverse
theorem rev_push {a : Array Keyed} {n : Nat} (h : n < a.size) : (rev_top a n).push a[a.size - n - 1]! = rev_top a (n + 1) := by
  unfold rev_top
  apply Array.toList_inj.mp
  rw [Array.toList_push, Array.toList_reverse, Array.toList_reverse, Array.toList_extract, Array.toList_extract]
  simp only [List.extract_eq_take_drop]
  have hp := Nat.sub_pos_of_lt h
  have hq : a.size - n - 1 < a.size := Nat.lt_of_lt_of_le (Nat.sub_lt hp Nat.one_pos) (Nat.sub_le _ _)
  rw [Nat.sub_sub_self (Nat.le_of_lt h), Nat.sub_sub_self (show n + 1 ≤ a.size from h), getElem!_pos a _ hq, show a.size - (n + 1) = a.size - n - 1 from rfl,
    List.drop_eq_getElem_cons (i := a.size - n - 1) (by rw [Array.length_toList]; exact hq), List.take_succ_cons, List.reverse_cons, show a.size - n - 1 + 1 = a.size - n from Nat.sub_add_cancel hp, Array.getElem_toList]
theorem hi_out {a b : Array Keyed} {n m : Nat} (h : n + m = a.size) : a.extract 0 0 ++ b.extract 0 b.size ++ (rev_top a n ++ (a.extract 0 m).reverse).reverse = b ++ a := by
  unfold rev_top
  rw [Array.reverse_append, Array.reverse_reverse, Array.reverse_reverse, show a.size - n = m by rw [← h, Nat.add_sub_cancel_left], Array.extract_append_extract, Nat.zero_min, show max m a.size = a.size from Nat.max_eq_right (h ▸ Nat.le_add_left m n)]
  simp
/-- the items taken from a's end, the last and x more -/
def topA (a : Array Keyed) : Nat → Array Keyed
  | 0 => #[a[a.size - 1]!]
  | x + 1 => (topA a x).push a[a.size - 1 - x - 1]!
theorem topA_eq {a : Array Keyed} : ∀ {x : Nat}, x < a.size → topA a x = rev_top a (1 + x)
  | 0, h => by rw [← rev_push h]; unfold rev_top; simp [topA]
  | x + 1, h => by
    show (topA a x).push a[a.size - 1 - x - 1]! = _
    rw [topA_eq (Nat.lt_of_succ_lt h), show a.size - 1 - x - 1 = a.size - (1 + x) - 1 from congrArg (· - 1) (Nat.sub_sub _ _ _), rev_push (by rw [Nat.add_comm]; exact h), Nat.add_assoc]
section
variable {prog : Program} {w : World} {A : Around} {E : Value → Shared → Prop} {s : Shared} {arr a b : Array Keyed} {pd : Array (Nat × Nat × Nat)} {fa fb : Nat → Int}
theorem wS_mergeHi {Q : Array Keyed → SortSt → Prop} (ha : ∀ i, i < a.size → isK a[i]! (fa i)) (hb : ∀ i, i < b.size → isK b[i]! (fb i)) (hlt : ∀ i j, i < a.size → j < b.size → fb j < fa i)
    (h2 : 2 ≤ b.size) (h10 : 10 ≤ a.size) (h : ∀ g, Q (b ++ a) (ST arr pd g)) : wpS (model prog w) A E s (mergeHi' a b) Q (ST arr pd 7) := by
  unfold mergeHi'
  have p1 : 0 < a.size := Nat.lt_of_lt_of_le (by decide) h10
  have p2 : 0 < b.size := Nat.lt_of_lt_of_le (by decide) h2
  have q0 : b.size - 1 < b.size := Nat.sub_lt p2 Nat.one_pos
  have q1 : a.size - 1 < a.size := Nat.sub_lt p1 Nat.one_pos
  refine wpS_bind (wpS_lift (wpAny_rule ⟨rfl, ?_⟩))
  refine wpS_bind (wS_elem (get_bang (by first | assumption | omega)) ?_)
  refine wS_else (by simp; omega) ?_
  refine wS_else (by simp; omega) ?_
  refine wpS_bind (wpS_get ?_)
  refine wpS_bind (wS_once ?n1 ?_)
  case n1 => exact Nat.lt_of_lt_of_le (Nat.zero_lt_of_lt h2) (Nat.le_add_left ..)
  refine wpS_bind (wS_exact (fun x => (none, a.size - 1 - x, b.size, topA a x, x, 0)) (fun _ => ST arr pd 7) 6 (none, a.size - 1 - 7, b.size, topA a 7, 7, 0) (ST arr pd 7) ?hk ?s2 ?p2)
  case hk => exact Nat.lt_of_lt_of_le (Nat.lt_of_lt_of_le (by decide) h10) (Nat.le_add_right ..)
  case s2 =>
    intro x h6
    have q2 : a.size - 1 - x < a.size := Nat.lt_of_le_of_lt (Nat.sub_le _ _) q1
    have q3 : a.size - 1 - x - 1 < a.size := Nat.lt_of_le_of_lt (Nat.sub_le _ _) q2
    refine wpS_bind (wS_elem (get_bang (by first | assumption | omega)) ?_)
    refine wpS_bind (wS_elem (get_bang (by first | assumption | omega)) ?_)
    refine wpS_bind (wS_lt rfl (hb _ (by first | assumption | omega)) (ha _ (by first | assumption | omega)) ?_)
    refine wS_then (by simpa using hlt _ _ (by first | assumption | omega) (by first | assumption | omega)) ?_
    refine wpS_bind (wS_elem (get_bang (by first | assumption | omega)) ?_)
    refine wS_else (by simp; omega) ?_
    by_cases h7 : x = 6
    · exact wS_then (show x + 1 ≥ 7 by omega) (wpS_pure ⟨by rw [h7]; rfl, rfl⟩)
    · exact wS_else (show ¬ x + 1 ≥ 7 by omega) (wpS_pure ⟨by omega, rfl, rfl⟩)
  case p2 =>
    have q2 : a.size - 1 - 7 < a.size := Nat.lt_of_le_of_lt (Nat.sub_le _ _) q1
    have q4 : ∀ {i : Nat}, i < a.size - 1 - 7 → i < a.size := fun h => Nat.lt_trans h q2
    refine wpS_bind (wpS_lift (wpAny_rule ⟨rfl, ?_⟩))
    refine wpS_bind (wS_once ?n3 ?_)
    case n3 => exact Nat.lt_of_lt_of_le (Nat.zero_lt_of_lt h2) (Nat.le_add_left ..)
    refine wS_then (by decide : 8 > 1) ?_
    refine wpS_bind (wpS_modify ?_)
    refine wpS_bind (wS_elem (get_bang (Nat.sub_lt (Nat.zero_lt_of_lt h2) Nat.one_pos)) ?_)
    refine wpS_bind (wS_gallop (q := 0) (f := fa) rfl (hb (b.size - 1) (by first | assumption | omega)) (fun i hi => ⟨_, get_bang (by first | assumption | omega), by rw [Nat.zero_add]; exact ha i (by first | assumption | omega)⟩) (fun i hi => by simp [hlt i (b.size - 1) (by first | assumption | omega) (by first | assumption | omega)]) (by first | assumption | omega) (by first | assumption | omega) ?_)
    refine wS_then (show a.size - 1 - 7 - 0 > 0 by omega) ?_
    refine wS_then (rfl : (0 == 0) = true) ?_
    refine wpS_pure (wpS_pure (wpS_pure ?_))
    have e : a.extract 0 0 ++ b.extract 0 b.size ++ (topA a 7 ++ (a.extract 0 (a.size - 1 - 7)).reverse).reverse = b ++ a := by rw [topA_eq (by first | assumption | omega)]; exact hi_out (by first | assumption | omega)
    show Q (a.extract 0 0 ++ b.extract 0 b.size ++ (topA a 7 ++ (a.extract 0 (a.size - 1 - 7)).reverse).reverse) (ST arr pd _)
    rw [e]
    exact h _
end
end
section -- S4
open PySem PySem.Calls PyProof.Rows
def wrote (sa : Nat) (l : List Keyed) (arr : Array Keyed) : Array Keyed := l.zipIdx.foldl (fun a (p, j) => a.setIfInBounds (sa + j) p) arr
theorem fold_set : ∀ (l : List Keyed) (n sa : Nat) (pre old : List Keyed) (arr : Array Keyed), arr.toList = pre ++ old → pre.length = sa + n → old.length = l.length →
    ((l.zipIdx n).foldl (fun a (p, j) => a.setIfInBounds (sa + j) p) arr).toList = pre ++ l
  | [], n, sa, pre, old, arr, h, hp, ho => by
    rw [List.eq_nil_of_length_eq_zero ho] at h; exact h
  | x :: l, n, sa, pre, [], arr, h, hp, ho => nomatch ho
  | x :: l, n, sa, pre, o :: old, arr, h, hp, ho => by
    have e := fold_set l (n + 1) sa (pre ++ [x]) old (arr.setIfInBounds (sa + n) x)
      (by rw [Array.toList_setIfInBounds, h, ← hp, List.set_append_right _ _ (Nat.le_refl _), Nat.sub_self, List.append_assoc]; rfl) (by rw [List.length_append, hp]; rfl) (Nat.succ.inj ho)
    rw [List.append_assoc] at e
    exact e
theorem wrote_eq {sa : Nat} {l arr : Array Keyed} (h : sa + l.size = arr.size) : wrote sa l.toList arr = arr.extract 0 sa ++ l := by
  have hl : arr.toList.length = sa + l.toList.length := by rw [Array.length_toList, Array.length_toList, h]
  have e := fold_set l.toList 0 sa (arr.toList.take sa) (arr.toList.drop sa) arr (List.take_append_drop ..).symm
    (by rw [List.length_take, hl, Nat.min_eq_left (Nat.le_add_right ..)]; rfl) (by rw [List.length_drop, hl, Nat.add_sub_cancel_left])
  apply Array.toList_inj.mp
  rw [Array.toList_append, Array.toList_extract]
  exact e
theorem ext_bang {arr : Array Keyed} {a b i : Nat} (h : i < (arr.extract a b).size) : (arr.extract a b)[i]! = arr[a + i]! := by
  have h2 : a + i < arr.size := Nat.add_lt_of_lt_sub' (Nat.lt_of_lt_of_le h (by rw [Array.size_extract]; exact Nat.sub_le_sub_right (Nat.min_le_right ..) _))
  rw [getElem!_pos _ i h, getElem!_pos arr _ h2, Array.getElem_extract]
theorem wS_set {M : Model} {A : Around} {E : Value → Shared → Prop} {s : Shared} {Q : PUnit → SortSt → Prop} {st st' : SortSt} (h : Q ⟨⟩ st') : wpS M A E s (set st' : StateT SortSt Sem PUnit) Q st := by
  unfold wpS; rw [StateT.run_set]; exact wpAny_pure ⟨rfl, h⟩
theorem wS_setE {M : Model} {A : Around} {E : Value → Shared → Prop} {s : Shared} {Q : PUnit → SortSt → Prop} {st st' st'' : SortSt} (e : st'' = st') (h : Q ⟨⟩ st') : wpS M A E s (set st'' : StateT SortSt Sem PUnit) Q st := e ▸ wS_set h
section
variable {prog : Program} {w : World} {A : Around} {E : Value → Shared → Prop} {s : Shared} {arr : Array Keyed} {f : Nat → Int}
theorem wS_mergeAt {n1 n2 pw q : Nat} {Q : Bool → SortSt → Prop} (hz : arr.size = n1 + n2) (hf : ∀ i, i < arr.size → isK arr[i]! (f i)) (hq : q < n1)
    (hlo : ∀ i, i < q → f i ≤ f n1) (hhi : ∀ i j, q ≤ i → i < n1 → n1 ≤ j → j < n1 + n2 → f j < f i) (h2 : 1 ≤ n2) (hsz : if n1 - q ≤ n2 then 2 ≤ n1 - q ∧ 10 ≤ n2 else 2 ≤ n2 ∧ 10 ≤ n1 - q)
    (h : ∀ g, Q true (ST (arr.extract 0 q ++ (arr.extract n1 (n1 + n2) ++ arr.extract q n1)) #[(0, n1 + n2, pw)] g)) : wpS (model prog w) A E s (mergeAt' 0) Q (ST arr #[(0, n1, pw), (n1, n2, 0)] 7) := by
  obtain ⟨p, rfl⟩ : ∃ p, n1 = q + p := ⟨n1 - q, by omega⟩
  have hp : q + p - q = p := Nat.add_sub_cancel_left ..
  have hp0 : 0 < p := by omega
  have z1 : q + p < arr.size := by omega
  have z2 : q + p - 1 < q + p := Nat.sub_lt (Nat.lt_of_lt_of_le hp0 (Nat.le_add_left ..)) Nat.one_pos
  have z3 : q ≤ q + p - 1 := Nat.le_sub_one_of_lt hq
  have sa : (arr.extract q (q + p)).size = p := by rw [Array.size_extract, Nat.min_eq_left (Nat.le_of_lt z1), hp]
  have sb : (arr.extract (q + p) (q + p + n2)).size = n2 := by rw [Array.size_extract, Nat.min_eq_left (Nat.le_of_eq hz.symm), Nat.add_sub_cancel_left]
  have ga : ∀ i, i < (arr.extract q (q + p)).size → isK (arr.extract q (q + p))[i]! (f (q + i)) := fun i hi => by
    rw [ext_bang hi]; rw [sa] at hi; exact hf _ (Nat.lt_trans (Nat.add_lt_add_left hi q) z1)
  have gb : ∀ i, i < (arr.extract (q + p) (q + p + n2)).size → isK (arr.extract (q + p) (q + p + n2))[i]! (f (q + p + i)) := fun i hi => by
    rw [ext_bang hi]; rw [sb] at hi; exact hf _ (hz ▸ Nat.add_lt_add_left hi _)
  have gl : ∀ i j, i < (arr.extract q (q + p)).size → j < (arr.extract (q + p) (q + p + n2)).size → f (q + p + j) < f (q + i) := fun i j hi hj => by
    rw [sa] at hi; rw [sb] at hj; exact hhi _ _ (Nat.le_add_right ..) (Nat.add_lt_add_left hi q) (Nat.le_add_right ..) (Nat.add_lt_add_left hj _)
  have fin : ∀ g, Q true (ST (wrote q (arr.extract (q + p) (q + p + n2) ++ arr.extract q (q + p)).toList arr) #[(0, q + p + n2, pw)] g) := fun g => by
    rw [wrote_eq (by rw [Array.size_append, sa, sb, hz]; omega)]; exact h g
  have e2 : (#[(0, q + p, pw), (q + p, n2, 0)].setIfInBounds 0 (0, q + p + n2, pw)).eraseIdxIfInBounds (0 + 1) = #[(0, q + p + n2, pw)] := by
    apply Array.toList_inj.mp
    simp [Array.eraseIdxIfInBounds]
  have hk1 : isK arr[0 + q + (q + p - q) - 1]! (f (q + p - 1)) := by rw [hp, Nat.zero_add]; exact hf _ (Nat.lt_trans z2 z1)
  have hk2 : 0 + q + (q + p - q) - 1 < arr.size := by rw [hp, Nat.zero_add]; exact Nat.lt_trans z2 z1
  unfold mergeAt'
  refine wpS_bind (wpS_get ?_)
  refine wpS_bind (wS_setE (congrArg (fun x => ST arr x 7) e2) ?_)
  refine wpS_bind (wS_elem (get_bang z1) ?_)
  refine wpS_bind (wS_gallop (q := q) (f := f) rfl (hf _ z1) (fun i hi => ⟨_, get_bang (by rw [Nat.zero_add]; exact Nat.lt_trans hi z1), by rw [Nat.zero_add]; exact hf i (Nat.lt_trans hi z1)⟩) (fun i hi => ?g1) (Nat.le_of_lt hq) (Nat.zero_lt_of_lt hq) ?_)
  case g1 =>
    by_cases e : i < q
    · have := hlo i e; simp [e]; omega
    · have := hhi i (q + p) (by omega) hi (Nat.le_refl _) (by omega); simp [e]; omega
  refine wS_else (by rw [hp]; simpa using Nat.ne_of_gt hp0) ?_
  refine wpS_bind (wS_elem (get_bang hk2) ?_)
  refine wpS_bind (wS_gallop (q := n2) (f := fun j => f (q + p + j)) rfl hk1 (fun i hi => ⟨_, get_bang (hz ▸ Nat.add_lt_add_left hi _), hf _ (hz ▸ Nat.add_lt_add_left hi _)⟩) (fun i hi => ?g2) (Nat.le_refl _) (Nat.sub_lt h2 Nat.one_pos) ?_)
  case g2 => have := hhi (q + p - 1) (q + p + i) z3 z2 (Nat.le_add_right ..) (Nat.add_lt_add_left hi _); simp [hi, this]
  refine wS_else (by simpa using Nat.ne_of_gt h2) ?_
  have fin' : ∀ g, Q true (ST (wrote (0 + q) (arr.extract (q + p) (q + p + n2) ++ arr.extract (0 + q) (q + p)).toList arr) #[(0, q + p + n2, pw)] g) := by rw [Nat.zero_add]; exact fin
  have ga' : ∀ i, i < (arr.extract (0 + q) (q + p)).size → isK (arr.extract (0 + q) (q + p))[i]! (f (q + i)) := by rw [Nat.zero_add]; exact ga
  have gl' : ∀ i j, i < (arr.extract (0 + q) (q + p)).size → j < (arr.extract (q + p) (q + p + n2)).size → f (q + p + j) < f (q + i) := by rw [Nat.zero_add]; exact gl
  have sa' : (arr.extract (0 + q) (q + p)).size = p := by rw [Nat.zero_add]; exact sa
  by_cases hc : p ≤ n2
  · rw [hp, if_pos hc] at hsz
    refine wS_then (by rw [hp]; exact hc) ?_
    refine wpS_bind (wS_mergeLo ga' gb gl' (Nat.le_trans hsz.1 (Nat.le_of_eq sa'.symm)) (Nat.le_trans hsz.2 (Nat.le_of_eq sb.symm)) fun g => ?_)
    exact wpS_bind (wpS_modify (wpS_bind (wpS_get (wpS_pure (fin' g)))))
  · rw [hp, if_neg hc] at hsz
    refine wS_else (by rw [hp]; exact hc) ?_
    refine wpS_bind (wS_mergeHi ga' gb gl' (Nat.le_trans hsz.1 (Nat.le_of_eq sb.symm)) (Nat.le_trans hsz.2 (Nat.le_of_eq sa'.symm)) fun g => ?_)
    exact wpS_bind (wpS_modify (wpS_bind (wpS_get (wpS_pure (fin' g)))))
end
end
section -- S5
open PySem PySem.Calls PyProof.Rows
section
variable {prog : Program} {w : World} {A : Around} {E : Value → Shared → Prop} {s : Shared} {a₀ : Array Keyed}
theorem bub_le {f : Nat → Int} {k l i j : Nat} (hlk : l ≤ k) (hij : i ≤ j) (hj : j ≤ k) (hlo : ∀ i, i < l → f i ≤ f k) (hhi : ∀ i, l ≤ i → i < k → f k < f i) (hs : ∀ i j, i ≤ j → j < k → f i ≤ f j) :
    (if i = l then f k else if l < i ∧ i ≤ k then f (i - 1) else f i) ≤ (if j = l then f k else if l < j ∧ j ≤ k then f (j - 1) else f j) := by
  rcases Nat.lt_trichotomy j l with h | h | h
  · rw [if_neg (Nat.ne_of_lt (Nat.lt_of_le_of_lt hij h)), if_neg (fun z => absurd z.1 (Nat.not_lt_of_lt (Nat.lt_of_le_of_lt hij h))), if_neg (Nat.ne_of_lt h), if_neg (fun z => absurd z.1 (Nat.not_lt_of_lt h))]
    exact hs i j hij (Nat.lt_of_lt_of_le h hlk)
  · rw [if_pos h]
    by_cases e : i = l
    · rw [if_pos e]; exact Int.le_refl _
    · have hil := Nat.lt_of_le_of_ne (h ▸ hij) e
      rw [if_neg e, if_neg (fun z => absurd z.1 (Nat.not_lt_of_lt hil))]
      exact hlo i hil
  · obtain ⟨j, rfl⟩ : ∃ j', j = j' + 1 := ⟨j - 1, (Nat.succ_pred_eq_of_pos (Nat.zero_lt_of_lt h)).symm⟩
    rw [if_neg (Nat.ne_of_gt h), if_pos (And.intro h hj), Nat.add_sub_cancel]
    rcases Nat.lt_trichotomy i l with h1 | h1 | h1
    · rw [if_neg (Nat.ne_of_lt h1), if_neg (fun z => absurd z.1 (Nat.not_lt_of_lt h1))]
      exact hs i j (Nat.le_trans (Nat.le_of_lt h1) (Nat.le_of_lt_succ h)) hj
    · rw [if_pos h1]; exact Int.le_of_lt (hhi j (Nat.le_of_lt_succ h) hj)
    · rw [if_neg (Nat.ne_of_gt h1), if_pos (And.intro h1 (Nat.le_trans hij hj))]
      exact hs _ _ (Nat.sub_le_of_le_add hij) hj
theorem wS_binary {n ok : Nat} {Q : Bool → SortSt → Prop} (h0 : IntKeys a₀) (hn : n ≤ a₀.size) (hok : ok ≤ n) (hs : SortedTo a₀ ok)
    (h : ∀ xs : Array Keyed, xs.Perm a₀ → SortedTo xs n → (∀ i, n ≤ i → xs[i]? = a₀[i]?) → Q true (ST xs #[] 7)) : wpS (model prog w) A E s (binarySort' 0 n ok) Q (ST a₀ #[] 7) := by
  rw [binarySort'_eq]
  simp only [Nat.zero_add]
  refine wpS_bind (wpS_mono (wpS_forRange (I := fun k c st' => c = (none, ()) ∧ ∃ xs : Array Keyed, st' = ST xs #[] 7 ∧ xs.Perm a₀ ∧ SortedTo xs (min k n) ∧ (∀ i, n ≤ i → xs[i]? = a₀[i]?))
    (Q := fun c st' => c = (none, ()) ∧ ∃ xs : Array Keyed, st' = ST xs #[] 7 ∧ xs.Perm a₀ ∧ SortedTo xs n ∧ (∀ i, n ≤ i → xs[i]? = a₀[i]?)) ?step ?fin ?init) ?post)
  case post =>
    rintro c st' ⟨rfl, xs, rfl, h1, h2, h3⟩
    exact wpS_pure (h xs h1 h2 h3)
  case init =>
    refine ⟨rfl, a₀, rfl, Array.Perm.refl _, fun i j hij hj => ?_, fun _ _ => rfl⟩
    have hj := Nat.lt_of_lt_of_le hj (Nat.min_le_left _ _)
    by_cases h1 : ok = 0
    · subst h1
      obtain rfl : j = 0 := Nat.lt_one_iff.mp hj
      obtain rfl : i = 0 := Nat.le_zero.mp hij
      exact Int.le_refl _
    · rw [Nat.max_eq_left (Nat.one_le_iff_ne_zero.mpr h1)] at hj
      exact hs i j hij hj
  case fin =>
    rintro c st' ⟨hc, xs, rfl, h1, h2, h3⟩
    rw [Nat.min_eq_right (Nat.le_max_right _ _)] at h2
    exact ⟨hc, xs, rfl, h1, h2, h3⟩
  case step =>
    rintro k c st' hak hkn ⟨rfl, xs, rfl, hp, hs', hu⟩
    rw [Nat.min_eq_left (Nat.le_of_lt hkn)] at hs'
    have hB' : SBase a₀ (ST xs #[] 7) := ⟨hp, rfl, rfl, rfl⟩
    have hk : k < a₀.size := Nat.lt_of_lt_of_le hkn hn
    refine wpS_bind (wpS_mono (wpS_forRange (I := fun x c st'' => st'' = ST xs #[] 7 ∧ ∃ l r, c = (none, l, r) ∧ l ≤ r ∧ r ≤ k ∧ r + x ≤ l + k ∧
        (∀ i, i < l → K xs i ≤ K xs k) ∧ (∀ i, r ≤ i → i < k → K xs k < K xs i))
      (Q := fun c st'' => st'' = ST xs #[] 7 ∧ ∃ l r, c = (none, l, r) ∧ l ≤ k ∧
        (∀ i, i < l → K xs i ≤ K xs k) ∧ (∀ i, l ≤ i → i < k → K xs k < K xs i)) ?istep ?ifin ?iinit) ?ipost)
    case iinit => exact ⟨rfl, 0, k, rfl, Nat.zero_le _, Nat.le_refl _, by omega, fun i hi => absurd hi (Nat.not_lt_zero _), fun i h1 h2 => absurd h2 (Nat.not_lt_of_le h1)⟩
    case ifin =>
      rintro c st'' ⟨rfl, l, r, rfl, hlr, hrk, hm, hlo, hhi⟩
      have : l = r := by omega
      subst this
      exact ⟨rfl, l, l, rfl, hrk, hlo, hhi⟩
    case istep =>
      rintro x c st'' _ hxk ⟨rfl, l, r, rfl, hlr, hrk, hm, hlo, hhi⟩
      dsimp only
      by_cases hge : l ≥ r
      · rw [if_pos hge]
        have : l = r := by omega
        subst this
        exact wpS_pure ⟨rfl, l, l, rfl, hrk, hlo, hhi⟩
      · rw [if_neg hge]
        have m1 : l ≤ (l + r) / 2 := by clear hlo hhi; omega
        have m2 : (l + r) / 2 < r := by clear hlo hhi; omega
        generalize (l + r) / 2 = m at *
        have m3 : m < k := Nat.lt_of_lt_of_le m2 hrk
        refine wpS_bind (wpS_ltK hB' h0 hk (Nat.lt_trans m3 hk) ?_)
        by_cases hless : K xs k < K xs m
        · simp only [hless, decide_true, if_true]
          refine wpS_pure ⟨rfl, l, m, rfl, m1, Nat.le_of_lt m3, by omega, hlo, fun i h1 h2 => ?_⟩
          exact Int.lt_of_lt_of_le hless (hs' _ _ h1 h2)
        · simp only [hless, decide_false, Bool.false_eq_true, if_false]
          refine wpS_pure ⟨rfl, m + 1, r, rfl, m2, hrk, by omega, fun i h1 => ?_, hhi⟩
          exact Int.le_trans (hs' i m (Nat.le_of_lt_succ h1) m3) (Int.not_lt.mp hless)
    case ipost =>
      rintro c st'' ⟨rfl, l, r, rfl, hlk, hlo, hhi⟩
      have hks : k < xs.size := by rw [hp.size_eq]; exact hk
      refine wpS_bind (wpS_modify (wpS_pure ⟨rfl, bubble xs k (k - l), rfl, (bubble_perm _ _ _).trans hp, ?_, fun i hi => ?_⟩))
      · rw [Nat.min_eq_left (show k + 1 ≤ n from hkn)]
        intro i j hij hj
        rw [K_bubble hks (Nat.sub_le _ _), K_bubble hks (Nat.sub_le _ _), Nat.sub_sub_self hlk]
        have hj : j ≤ k := Nat.le_of_lt_succ hj
        exact bub_le hlk hij hj hlo hhi hs'
      · rw [getElem?_bubble hks _ (Nat.sub_le _ _), Nat.sub_sub_self hlk, if_neg (Nat.ne_of_gt (Nat.lt_of_le_of_lt hlk (Nat.lt_of_lt_of_le hkn hi))), if_neg (fun z => absurd z.2 (Nat.not_le_of_lt (Nat.lt_of_lt_of_le hkn hi)))]
        exact hu i hi
end
end
section -- S6
open PySem PySem.Calls PyProof.Rows
section
variable {prog : Program} {w : World} {A : Around} {E : Value → Shared → Prop} {s : Shared} {arr : Array Keyed} {f : Nat → Int} {pd : Array (Nat × Nat × Nat)} {g : Nat}
theorem wS_ltAt {i j : Nat} {Q : Option Bool → SortSt → Prop} (hf : ∀ i, i < arr.size → isK arr[i]! (f i)) (hi : i < arr.size) (hj : j < arr.size) (h : Q (some (decide (f i < f j))) (ST arr pd g)) :
    wpS (model prog w) A E s (ltAt' i j) Q (ST arr pd g) := by
  rw [ltAt'_eq]
  refine wpS_bind (wpS_get ?_)
  exact wpS_bind (wS_elem (get_bang hi) (wpS_bind (wS_elem (get_bang hj) (wS_lt rfl (hf i hi) (hf j hj) h))))
theorem wS_count {lo m nrem : Nat} {Q : Option Nat → SortSt → Prop} (hf : ∀ i, i < arr.size → isK arr[i]! (f i)) (hz : lo + nrem ≤ arr.size) (h2 : 2 ≤ m) (hm : m ≤ nrem)
    (hup : ∀ i j, i < j → j < m → f (lo + i) < f (lo + j)) (hend : m < nrem → f (lo + m) < f (lo + m - 1)) (h : Q (some m) (ST arr pd g)) :
    wpS (model prog w) A E s (countRun' lo nrem) Q (ST arr pd g) := by
  unfold countRun'
  refine wpS_bind (wpS_mono (wpS_forRange (I := fun x c st' => st' = ST arr pd g ∧ c = (none, x) ∧ x ≤ m) (Q := fun c st' => st' = ST arr pd g ∧ c = (none, m)) ?st ?fi ⟨rfl, rfl, by omega⟩) ?po)
  case fi =>
    rintro c st' ⟨rfl, rfl, h1⟩
    have e1 : max 1 nrem = nrem := Nat.max_eq_right (Nat.le_trans (Nat.le_of_lt h2) hm)
    rw [e1] at h1 ⊢
    exact ⟨rfl, by rw [Nat.le_antisymm h1 hm]⟩
  case st =>
    rintro x c st' h1 hx ⟨rfl, rfl, hxm⟩
    dsimp only
    have hx1 : 1 ≤ x := h1
    have q1 : lo + x < arr.size := Nat.lt_of_lt_of_le (Nat.add_lt_add_left hx lo) hz
    refine wpS_bind (wS_ltAt hf q1 (Nat.lt_of_le_of_lt (Nat.sub_le _ _) q1) ?_)
    dsimp only
    by_cases e : x = m
    · subst e
      rw [if_pos (by simpa using hend hx)]
      exact wpS_pure ⟨rfl, rfl⟩
    · have hx2 := Nat.lt_of_le_of_ne hxm e
      have := hup (x - 1) x (Nat.sub_lt hx1 Nat.one_pos) hx2
      rw [← Nat.add_sub_assoc hx1] at this
      rw [if_neg (by simp [Int.not_lt.mpr (Int.le_of_lt this)])]
      exact wpS_pure ⟨rfl, rfl, hx2⟩
  case po =>
    rintro c st' ⟨rfl, rfl⟩
    dsimp only
    by_cases e : m = nrem
    · rw [if_pos (by simpa using e)]; exact wpS_pure h
    · rw [if_neg (by simpa using e), if_pos (by omega)]
      have q1 : lo + 1 < arr.size := by omega
      refine wpS_bind (wS_ltAt hf (by first | assumption | omega) (by first | assumption | omega) ?_)
      dsimp only
      have hm1 : 1 ≤ m := Nat.le_of_lt h2
      have := hup 0 (m - 1) (Nat.sub_pos_of_lt h2) (Nat.sub_lt hm1 Nat.one_pos)
      rw [Nat.add_zero, ← Nat.add_sub_assoc hm1] at this
      rw [if_pos (by simpa using this)]
      exact wpS_pure h
end
end
section -- S7
open PySem PySem.Calls PyProof.Rows
/-- the keys ahead of the merge -/
def fR (k n1 q i : Nat) : Int := if i < q then (i : Int) else if i < n1 then ((k + (i - q) : Nat) : Int) else ((i - (n1 - q) : Nat) : Int)
theorem K_of {xs : Array Keyed} {i : Nat} {n : Int} (h : i < xs.size) (hk : isK xs[i]! n) : K xs i = n := by
  obtain ⟨t, e⟩ := hk
  unfold K
  rw [get_bang h]
  show numOf xs[i]!.1 = n
  rw [e]; rfl
structure Two (a₀ xs : Array Keyed) (k n1 q : Nat) : Prop where
  perm : xs.Perm a₀
  size : xs.size = 64
  keys : ∀ i, i < xs.size → isK xs[i]! (fR k n1 q i)
  k2 : 2 ≤ k
  k62 : k ≤ 62
  n : n1 = q + (64 - k)
  n32 : 32 ≤ n1
  n64 : n1 ≤ 62
  or : q = 0 ∨ n1 = 32
def merged (xs : Array Keyed) (n1 q : Nat) : Array Keyed := xs.extract 0 q ++ (xs.extract n1 (n1 + (64 - n1)) ++ xs.extract q n1)
theorem get3 {X Y Z : Array Keyed} {a b : Nat} (hx : X.size = a) (hy : Y.size = b) : (∀ j, j < a → (X ++ (Y ++ Z))[j]? = X[j]?) ∧ (∀ j, j < b → (X ++ (Y ++ Z))[a + j]? = Y[j]?) ∧ ∀ j, (X ++ (Y ++ Z))[a + (b + j)]? = Z[j]? := by
  subst hx hy
  refine ⟨fun j h => Array.getElem?_append_left h, fun j h => ?_, fun j => ?_⟩
  · rw [Array.getElem?_append_right (Nat.le_add_right ..), Nat.add_sub_cancel_left, Array.getElem?_append_left h]
  · rw [Array.getElem?_append_right (Nat.le_add_right ..), Nat.add_sub_cancel_left, Array.getElem?_append_right (Nat.le_add_right ..), Nat.add_sub_cancel_left]
theorem ext_get {xs : Array Keyed} {a b j : Nat} (hb : b ≤ xs.size) (h : a + j < b) : (xs.extract a b)[j]? = xs[a + j]? := by
  rw [Array.getElem?_extract, Nat.min_eq_left hb, if_pos (Nat.lt_sub_iff_add_lt'.mpr h)]
theorem ext_size {xs : Array Keyed} {a b : Nat} (hb : a + b ≤ xs.size) : (xs.extract a (a + b)).size = b := by
  rw [Array.size_extract, Nat.min_eq_left hb, Nat.add_sub_cancel_left]
theorem merged_eq {xs : Array Keyed} {q p r : Nat} (h : xs.size = 64) (h1 : q + p + r = 64) : merged xs (q + p) q = xs.extract 0 (0 + q) ++ (xs.extract (q + p) (q + p + r) ++ xs.extract q (q + p)) ∧ xs = xs.extract 0 (0 + q) ++ (xs.extract q (q + p) ++ xs.extract (q + p) (q + p + r)) := by
  have e : 64 - (q + p) = r := by rw [← h1, Nat.add_sub_cancel_left]
  refine ⟨by unfold merged; rw [e, Nat.zero_add], ?_⟩
  rw [Array.extract_append_extract, Nat.min_eq_left (Nat.le_add_right ..), Nat.max_eq_right (Nat.le_add_right ..), Nat.zero_add, Array.extract_append_extract, Nat.zero_min, Nat.max_eq_right (Nat.le_trans (Nat.le_add_right ..) (Nat.le_add_right ..)), h1, ← h]
  simp
theorem merged_perm {xs : Array Keyed} {n1 q : Nat} (h : xs.size = 64) (h1 : q ≤ n1) (h2 : n1 ≤ 64) : (merged xs n1 q).Perm xs := by
  obtain ⟨p, rfl⟩ : ∃ p, n1 = q + p := ⟨n1 - q, (Nat.add_sub_of_le h1).symm⟩
  obtain ⟨r, hr⟩ : ∃ r, q + p + r = 64 := ⟨64 - (q + p), Nat.add_sub_of_le h2⟩
  obtain ⟨e1, e2⟩ := merged_eq h hr
  rw [e1]
  conv => rhs; rw [e2]
  apply Array.perm_iff_toList_perm.mpr
  simp only [Array.toList_append]
  exact List.Perm.append_left _ List.perm_append_comm
theorem merged_K {a₀ xs : Array Keyed} {k n1 q : Nat} (T : Two a₀ xs k n1 q) {i : Nat} (hi : i < 64) : K (merged xs n1 q) i = i := by
  have hz := T.size
  have hf := T.keys
  have ek : k + (64 - k) = 64 := Nat.add_sub_of_le (Nat.le_trans T.k62 (by decide))
  have hn := T.n
  have h62 := T.n64
  clear T
  generalize 64 - k = p at ek hn
  subst hn
  obtain ⟨r, rfl⟩ := Nat.exists_eq_add_of_le (show q ≤ k by omega)
  have hr : q + p + r = 64 := by rw [Nat.add_right_comm]; exact ek
  have e1 := (merged_eq hz hr).1
  have s1 : (xs.extract 0 (0 + q)).size = q := ext_size (by omega)
  have s2 : (xs.extract (q + p) (q + p + r)).size = r := ext_size (by omega)
  obtain ⟨g1, g2, g3⟩ := get3 (Z := xs.extract q (q + p)) s1 s2
  rw [← e1] at g1 g2 g3
  by_cases h1 : i < q
  · rw [K_congr ((g1 i h1).trans ((ext_get (by omega) (by omega)).trans (by rw [Nat.zero_add]))), K_of (by omega) (hf _ (by omega))]
    unfold fR; rw [if_pos h1]
  · obtain ⟨j, rfl⟩ := Nat.exists_eq_add_of_le (Nat.le_of_not_lt h1)
    by_cases h2 : j < r
    · have hj : q + p + j < xs.size := by omega
      have ej : K (merged xs (q + p) q) (q + j) = K xs (q + p + j) := by
        unfold K; rw [g2 j h2, ext_get (by omega) (Nat.add_lt_add_left h2 _)]
      rw [ej, K_of hj (hf _ hj)]
      unfold fR; rw [if_neg (by omega), if_neg (by omega), Nat.add_sub_cancel_left]
      rw [Nat.add_right_comm, Nat.add_sub_cancel]
    · obtain ⟨j, rfl⟩ := Nat.exists_eq_add_of_le (Nat.le_of_not_lt h2)
      have hp : j < p := by omega
      have hj : q + j < xs.size := by omega
      have ej : K (merged xs (q + p) q) (q + (r + j)) = K xs (q + j) := by
        unfold K; rw [g3 j, ext_get (by omega) (Nat.add_lt_add_left hp _)]
      rw [ej, K_of hj (hf _ hj)]
      unfold fR; rw [if_neg (by omega), if_pos (Nat.add_lt_add_left hp _), Nat.add_sub_cancel_left, Nat.add_assoc]
end
section -- S8
open PySem PySem.Calls PyProof.Rows
def f0 (k i : Nat) : Int := if i < 64 - k then ((k + i : Nat) : Int) else ((i - (64 - k) : Nat) : Int)
/-- the first turn of a loop, and the rest of it -/
theorem wS_unroll {σ β : Type} {M : Model} {A : Around} {E : Value → Shared → Prop} {s : Shared} {a b : Nat} {f : Nat → β → StateT σ Sem (ForInStep β)} {c : β} {st : σ} {Q : β → σ → Prop} (hab : a < b)
    (h : wpS M A E s (f a c) (fun r st' => match r with | .done c' => Q c' st' | .yield c' => wpS M A E s (forIn [a + 1:b] c' f) Q st') st) : wpS M A E s (forIn [a:b] c f) Q st := by
  rw [Std.Legacy.Range.forIn_eq_forIn_range']
  have hsz : ([a:b] : Std.Legacy.Range).size = (b - (a + 1)) + 1 := by simp [Std.Legacy.Range.size]; exact (Nat.succ_pred_eq_of_pos (Nat.sub_pos_of_lt hab)).symm
  show wpS M A E s (forIn (List.range' a ([a:b] : Std.Legacy.Range).size 1) c f) Q st
  rw [hsz, List.range'_succ, List.forIn_cons]
  refine wpS_bind (wpS_mono h fun r st' hr => ?_)
  cases r with
  | done c' => exact wpS_pure hr
  | yield c' =>
    have hr : wpS M A E s (forIn [a + 1:b] c' f) Q st' := hr
    rw [Std.Legacy.Range.forIn_eq_forIn_range'] at hr
    have hs2 : ([a + 1:b] : Std.Legacy.Range).size = b - (a + 1) := by simp [Std.Legacy.Range.size]
    change wpS M A E s (forIn (List.range' (a + 1) ([a + 1:b] : Std.Legacy.Range).size 1) c' f) Q st' at hr
    rw [hs2] at hr
    exact hr
theorem wS_monoE {σ α ι κ μ : Type} {M : Model} {A : Around} {E : Value → Shared → Prop} {s : Shared} {m : StateT σ Sem α} {st : σ} {Q : α → σ → Prop} (T : ι → κ → μ → Prop) (X : ι → κ → μ → α) (Y : ι → κ → μ → σ)
    (h : wpS M A E s m (fun r st' => ∃ a b c, T a b c ∧ r = X a b c ∧ st' = Y a b c) st) (k : ∀ a b c, T a b c → Q (X a b c) (Y a b c)) : wpS M A E s m Q st :=
  wpS_mono h fun r st' hr => by
    obtain ⟨a, b, c, hT, rfl, rfl⟩ := hr
    exact k a b c hT
section
variable {prog : Program} {w : World} {A : Around} {E : Value → Shared → Prop} {s : Shared} {a₀ : Array Keyed}
theorem wS_binary2 {lo n ok : Nat} {st : SortSt} {Q : Bool → SortSt → Prop} (hn : n ≤ ok) (h : Q true st) : wpS (model prog w) A E s (binarySort' lo n ok) Q st := by
  unfold binarySort'
  refine wpS_bind (wpS_mono (wpS_forRange (I := fun _ c st' => c = (none, ()) ∧ st' = st) (Q := fun c st' => c = (none, ()) ∧ st' = st) ?_ (fun _ _ h => h) ⟨rfl, rfl⟩) ?_)
  · intro i c st' h1 h2 _
    exact absurd (Nat.lt_of_lt_of_le h2 (Nat.le_trans hn (Nat.le_trans (Nat.le_max_left _ _) h1))) (Nat.lt_irrefl _)
  · rintro c st' ⟨rfl, rfl⟩
    exact wpS_pure h
theorem wS_runs {k : Nat} {Q : Unit → SortSt → Prop} (hz : a₀.size = 64) (h0 : IntKeys a₀) (hk : k < 64) (hev : k % 2 = 0) (hf : ∀ i, i < a₀.size → isK a₀[i]! (f0 k i))
    (two : ∀ xs : Array Keyed, 32 < k → xs.Perm a₀ → SortedTo xs 32 → (∀ i, 32 ≤ i → xs[i]? = a₀[i]?) → Two a₀ xs k 32 (k - 32))
    (h : ∀ xs p g, xs.Perm a₀ → SortedTo xs 64 → Q () (ST xs p g)) : wpS (model prog w) A E s sortRuns' Q (ST a₀ #[] 7) := by
  have hk62 : k ≤ 62 := by omega
  have hk2 : k ≠ 0 → 2 ≤ k := by omega
  clear hev hk
  have hK0 : ∀ i, i < 64 → K a₀ i = f0 k i := fun i hi => K_of (hz ▸ hi) (hf i (hz ▸ hi))
  rw [sortRuns'_eq]
  refine wpS_bind (wpS_get ?_)
  have hmr : minRun' 64 64 0 = 32 := by decide
  dsimp only
  rw [hz, hmr]
  refine wpS_bind (wS_unroll (by decide) ?_)
  refine wS_else (by decide) ?_
  obtain ⟨p, hp⟩ : ∃ p, k + p = 64 := ⟨64 - k, Nat.add_sub_of_le (Nat.le_trans hk62 (by decide))⟩
  have ep : 64 - k = p := by rw [← hp, Nat.add_sub_cancel_left]
  have f0p : ∀ i, f0 k i = if i < p then ((k + i : Nat) : Int) else ((i - p : Nat) : Int) := fun i => by unfold f0; rw [ep]
  have hup : ∀ i j, i < j → j < p → f0 k (0 + i) < f0 k (0 + j) := fun i j hij hj => by
    rw [Nat.zero_add, Nat.zero_add, f0p, f0p, if_pos (Nat.lt_trans hij hj), if_pos hj]; exact Int.ofNat_lt.mpr (Nat.add_lt_add_left hij k)
  have hdn : p < 64 → f0 k (0 + p) < f0 k (0 + p - 1) := fun hh => by
    rw [Nat.zero_add, f0p, f0p, if_neg (Nat.lt_irrefl p), if_pos (Nat.sub_lt (by omega) Nat.one_pos), Nat.sub_self]; exact Int.ofNat_lt.mpr (by omega)
  by_cases k0 : k = 0
  · obtain rfl : p = 64 := by omega
    refine wpS_bind (wS_count (m := 64) (f := f0 k) hf (by omega) (by omega) (by omega) hup hdn ?_)
    refine wS_else (by decide) ?_
    refine wpS_bind (wpS_get ?_)
    refine wpS_bind (wpS_modify (wpS_pure ?_))
    refine wS_unroll (by decide) ?_
    refine wS_then (by decide) (wpS_pure ?_)
    refine wpS_bind (wS_once (by decide) ?_)
    refine wpS_bind (wpS_get ?_)
    refine wS_then (Nat.le_refl 1) (wpS_pure ?_)
    refine wpS_pure (h a₀ _ _ (Array.Perm.refl _) fun i j hij hj => ?_)
    rw [hK0 i (Nat.lt_of_le_of_lt hij hj), hK0 j hj, f0p, f0p, if_pos (Nat.lt_of_le_of_lt hij hj), if_pos hj]
    exact Int.ofNat_le.mpr (Nat.add_le_add_left hij k)
  have hk2 := hk2 k0
  refine wS_monoE (T := fun xs n1 q => Two a₀ xs k n1 q) (X := fun _ n1 _ => .yield (none, n1)) (Y := fun xs n1 _ => ST xs #[(0, n1, 0)] 7) ?t0 ?rest
  case t0 =>
    refine wpS_bind (wS_count (m := p) (f := f0 k) hf (by omega) (by omega) (by omega) hup hdn ?_)
    by_cases hlt : p < 32
    · refine wS_then hlt ?_
      refine wpS_bind (wpS_lift (wpAny_rule ⟨rfl, ?_⟩))
      refine wpS_bind (wS_binary (n := 32) (ok := p) h0 (by omega) (by omega) (fun i j hij hj => ?_) fun xs p1 p2 p3 => ?_)
      · rw [hK0 i (by omega), hK0 j (by omega), f0p, f0p, if_pos (Nat.lt_of_le_of_lt hij hj), if_pos hj]
        exact Int.ofNat_le.mpr (Nat.add_le_add_left hij k)
      refine wS_else (by decide) ?_
      refine wpS_bind (wpS_get ?_)
      exact wpS_bind (wpS_modify (wpS_pure ⟨xs, 32, k - 32, two xs (by omega) p1 p2 p3, rfl, rfl⟩))
    · refine wS_else hlt ?_
      refine wpS_bind (wpS_get ?_)
      refine wpS_bind (wpS_modify (wpS_pure ⟨a₀, p, 0, ⟨Array.Perm.refl _, hz, fun i hi => ?_, by omega, by omega, by omega, by omega, by omega, .inl rfl⟩, by rw [Nat.zero_add], rfl⟩))
      have e : fR k p 0 i = f0 k i := by
        unfold fR; rw [if_neg (Nat.not_lt_zero i), f0p]; rfl
      rw [e]; exact hf i hi
  case rest =>
    intro xs n1 q T
    obtain ⟨r, hr⟩ : ∃ r, n1 + r = 64 := ⟨64 - n1, Nat.add_sub_of_le (Nat.le_trans T.n64 (by decide))⟩
    have er : 64 - n1 = r := by rw [← hr, Nat.add_sub_cancel_left]
    have en : n1 = q + p := by rw [← ep]; exact T.n
    have hpn : p ≤ n1 := by rw [en]; exact Nat.le_add_left p q
    have hpq : n1 - p = q := by rw [en, Nat.add_sub_cancel]
    have hr2 : 2 ≤ r := by have := T.n64; omega
    have hr32 : r ≤ 32 := by have := T.n32; omega
    have hqp : n1 - q = p := by rw [en, Nat.add_sub_cancel_left]
    have fRp : ∀ i, n1 ≤ i → fR k n1 q i = ((i - p : Nat) : Int) := fun i hi => by unfold fR; rw [if_neg (by omega), if_neg (by omega), hqp]
    have fRq : ∀ i, q ≤ i → i < n1 → fR k n1 q i = ((k + (i - q) : Nat) : Int) := fun i h1 h2 => by unfold fR; rw [if_neg (by omega), if_pos h2]
    have mg : ∀ i, i < 64 → K (merged xs n1 q) i = i := fun i hi => merged_K T hi
    have mp := merged_perm T.size (n1 := n1) (q := q) (by omega) (by omega)
    have hsz := T.size
    have hor : q = 0 ∨ n1 = 32 := T.or
    refine wS_unroll (by decide) ?_
    refine wS_else (show ¬ n1 ≥ 64 by omega) ?_
    refine wS_monoE (ι := Nat) (κ := Unit) (μ := Unit) (T := fun _ _ _ => True) (X := fun _ _ _ => .yield (none, 64)) (Y := fun pw _ _ => ST xs #[(0, n1, pw), (n1, 64 - n1, 0)] 7) ?t1 ?rest2
    case t1 =>
      refine wpS_bind (wS_count (m := 64 - n1) T.keys (by omega) (by omega) (Nat.le_refl _) (fun i j hij hj => ?_) (fun hh => absurd hh (Nat.lt_irrefl _)) ?_)
      · rw [fRp _ (Nat.le_add_right ..), fRp _ (Nat.le_add_right ..)]; exact Int.ofNat_lt.mpr (Nat.sub_lt_sub_right (Nat.le_trans hpn (Nat.le_add_right n1 i)) (Nat.add_lt_add_left hij n1))
      by_cases h32 : 64 - n1 < 32
      · refine wS_then h32 ?_
        refine wpS_bind (wpS_lift (wpAny_rule ⟨rfl, ?_⟩))
        refine wpS_bind (wS_binary2 (Nat.min_le_left ..) ?_)
        refine wS_else (by decide) ?_
        refine wpS_bind (wpS_get ?_)
        refine wpS_bind (wS_once (by decide) ?_)
        refine wpS_bind (wpS_get ?_)
        refine wpS_pure ?_
        refine wpS_bind (wpS_modify (wpS_bind (wpS_modify (wpS_pure ⟨power' 64 (2 * 0 + n1) (2 * 0 + n1 + n1 + min (64 - n1) 32) 64, (), (), trivial, ?_, ?_⟩))))
        · show ForInStep.yield (none, n1 + min (64 - n1) 32) = _
          rw [Nat.min_eq_left (Nat.le_of_lt h32), er, hr]
        · exact congrArg (fun z => ST xs #[(0, n1, power' 64 (2 * 0 + n1) (2 * 0 + n1 + n1 + min (64 - n1) 32) 64), (n1, z, 0)] 7) (Nat.min_eq_left (Nat.le_of_lt h32))
      · refine wS_else h32 ?_
        refine wpS_bind (wpS_get ?_)
        refine wpS_bind (wS_once (by decide) ?_)
        refine wpS_bind (wpS_get ?_)
        refine wpS_pure ?_
        refine wpS_bind (wpS_modify (wpS_bind (wpS_modify (wpS_pure ⟨power' 64 (2 * 0 + n1) (2 * 0 + n1 + n1 + (64 - n1)) 64, (), (), trivial, ?_, rfl⟩))))
        show ForInStep.yield (none, n1 + (64 - n1)) = _
        rw [er, hr]
    case rest2 =>
      intro pw _ _ _
      refine wS_unroll (by decide) ?_
      refine wS_then (Nat.le_refl 64) (wpS_pure ?_)
      refine wpS_bind (wS_unroll (by decide) ?_)
      refine wpS_bind (wpS_get ?_)
      refine wS_else (by decide : ¬ 2 ≤ 1) ?_
      show wpS _ _ _ _ (mergeAt' 0 >>= _) _ _
      refine wpS_bind (wS_mergeAt (q := q) (f := fR k n1 q) (by omega) T.keys (by omega) (fun i hi => ?_) (fun i j h1 h2 h3 h4 => ?_) (by omega) ?_ fun g => ?_)
      · rw [fRp _ (Nat.le_refl _), hpq]; unfold fR; rw [if_pos hi]; first | exact Int.ofNat_lt.mpr hi | exact Int.ofNat_le.mpr (Nat.le_of_lt hi)
      · rw [er, hr] at h4; rw [fRp _ h3, fRq _ h1 h2]; exact Int.ofNat_lt.mpr (Nat.lt_of_lt_of_le ((Nat.sub_lt_iff_lt_add (Nat.le_trans hpn h3)).mpr (hp ▸ h4)) (Nat.le_add_right k _))
      · rw [hqp, er]; split <;> omega
      refine wS_else (by decide) (wpS_pure ?_)
      refine wS_unroll (by decide) ?_
      refine wpS_bind (wpS_get ?_)
      refine wS_then (Nat.le_refl 1) (wpS_pure ?_)
      refine wpS_pure (h (merged xs n1 q) _ g (mp.trans T.perm) fun i j hij hj => ?_)
      rw [mg i (Nat.lt_of_le_of_lt hij hj), mg j hj]; exact Int.ofNat_le.mpr hij
end
end
section -- S9
open PySem PySem.Calls PyProof.Rows
def kl (xs : Array Keyed) : List Int := xs.toList.map fun p => numOf p.1
theorem kl_get {xs : Array Keyed} {i : Nat} (h : i < xs.size) : (kl xs)[i]? = some (K xs i) := by
  unfold kl K
  rw [List.getElem?_map, Array.getElem?_toList, Array.getElem?_eq_getElem h]; rfl
theorem kl_len (xs : Array Keyed) : (kl xs).length = xs.size := by unfold kl; rw [List.length_map, Array.length_toList]
theorem kl_take {xs : Array Keyed} {n : Nat} (h : n ≤ xs.size) : (kl xs).take n = (List.range n).map (K xs) := by
  apply List.ext_getElem?
  intro i
  rw [List.getElem?_take, List.getElem?_map]
  by_cases e : i < n
  · rw [if_pos e, kl_get (by omega), List.getElem?_range e]; rfl
  · rw [if_neg e, List.getElem?_eq_none (by rw [List.length_range]; omega)]; rfl
theorem two_of {a₀ xs : Array Keyed} {k : Nat} (hz : a₀.size = 64) (h0 : IntKeys a₀) (hev : k % 2 = 0) (h32 : 32 < k) (hk : k < 64) (hK0 : ∀ i, i < 64 → K a₀ i = f0 k i)
    (hp : xs.Perm a₀) (hs : SortedTo xs 32) (hu : ∀ i, 32 ≤ i → xs[i]? = a₀[i]?) : Two a₀ xs k 32 (k - 32) := by
  have hk62 : k ≤ 62 := by omega
  obtain ⟨r, rfl⟩ : ∃ r, k = 32 + r := ⟨k - 32, (Nat.add_sub_of_le (Nat.le_of_lt h32)).symm⟩
  have r2 : 2 ≤ 32 + r := by omega
  clear hev h32
  obtain ⟨p, rp⟩ : ∃ p, r + p = 32 := ⟨32 - r, Nat.add_sub_of_le (by omega)⟩
  have e64 : 64 - (32 + r) = p := Nat.sub_eq_of_eq_add (by omega)
  have e32 : 32 + r - 32 = r := Nat.add_sub_cancel_left ..
  have f0p : ∀ i, f0 (32 + r) i = if i < p then ((32 + r + i : Nat) : Int) else ((i - p : Nat) : Int) := fun i => by unfold f0; rw [e64]
  have er : 32 - r = p := Nat.sub_eq_of_eq_add (rp.symm.trans (Nat.add_comm r p))
  have hsz : xs.size = 64 := hp.size_eq.trans hz
  have isI : ∀ i, i < xs.size → isK xs[i]! (K xs i) := by
    intro i hi
    have hm : xs[i] ∈ a₀.toList := (Array.perm_iff_toList_perm.mp hp).mem_iff.mp (by simp)
    obtain ⟨n, t, hn⟩ := h0 _ hm
    have : xs[i]! = xs[i] := getElem!_pos xs i hi
    refine ⟨t, ?_⟩
    rw [this, hn]
    unfold K
    rw [Array.getElem?_eq_getElem hi]
    show _ = Value.int (numOf xs[i].1) t
    rw [hn]; rfl
  have hd : (kl xs).drop 32 = (kl a₀).drop 32 := by
    apply List.ext_getElem?
    intro i
    rw [List.getElem?_drop, List.getElem?_drop]
    unfold kl
    rw [List.getElem?_map, List.getElem?_map, Array.getElem?_toList, Array.getElem?_toList, hu _ (Nat.le_add_right ..)]
  have hpp : (kl xs).Perm (kl a₀) := (Array.perm_iff_toList_perm.mp hp).map _
  have ht : ((kl xs).take 32).Perm ((kl a₀).take 32) := by
    rw [← List.take_append_drop 32 (kl xs), ← List.take_append_drop 32 (kl a₀), hd] at hpp
    exact (List.perm_append_right_iff _).mp hpp
  have lp : (List.range' (32 + r) p).length = p := List.length_range' ..
  have lr : (List.range' 0 r).length = r := List.length_range' ..
  have e1 : (kl a₀).take 32 = (List.range' (32 + r) p ++ List.range' 0 r).map Int.ofNat := by
    rw [kl_take (hz ▸ (by decide))]
    apply List.ext_getElem?
    intro i
    rw [List.getElem?_map, List.getElem?_map]
    by_cases e : i < 32
    · rw [List.getElem?_range e]
      show some (K a₀ i) = _
      rw [hK0 i (Nat.lt_trans e (by decide)), f0p]
      by_cases e2 : i < p
      · rw [if_pos e2, List.getElem?_append_left (by rw [lp]; exact e2), List.getElem?_range' e2, Nat.one_mul]; rfl
      · obtain ⟨j, rfl⟩ := Nat.exists_eq_add_of_le (Nat.le_of_not_lt e2)
        rw [if_neg e2, List.getElem?_append_right (by rw [lp]; exact Nat.le_add_right ..), lp, Nat.add_sub_cancel_left, List.getElem?_range' (by omega), Nat.zero_add, Nat.one_mul]; rfl
    · rw [List.getElem?_eq_none (by rw [List.length_range]; exact Nat.le_of_not_lt e), List.getElem?_eq_none (by rw [List.length_append, lp, lr, Nat.add_comm, rp]; exact Nat.le_of_not_lt e)]; rfl
  have hL : (kl xs).take 32 = (List.range' 0 r ++ List.range' (32 + r) p).map Int.ofNat := by
    refine PySem.W.lks_uniq (ht.trans (e1 ▸ (List.perm_append_comm.map _))) ?_ ?_
    · rw [kl_take (hsz ▸ (by decide)), List.pairwise_map]
      refine List.pairwise_lt_range.imp_of_mem fun {i j} hi hj hij => ?_
      exact hs i j (Nat.le_of_lt hij) (List.mem_range.mp hj)
    · rw [List.pairwise_map, List.pairwise_append]
      refine ⟨(List.pairwise_lt_range' ..).imp fun h => Int.ofNat_le.mpr (Nat.le_of_lt h), (List.pairwise_lt_range' ..).imp fun h => Int.ofNat_le.mpr (Nat.le_of_lt h), fun x hx y hy => ?_⟩
      rw [List.mem_range'_1] at hx hy
      exact Int.ofNat_le.mpr (by omega)
  rw [e32]
  refine ⟨hp, hsz, fun i hi => ?_, r2, hk62, by rw [e64, rp], Nat.le_refl _, by decide, .inr rfl⟩
  have : K xs i = fR (32 + r) 32 r i := by
    unfold fR
    by_cases e : i < 32
    · have := congrArg (fun l : List Int => l[i]?) hL
      rw [kl_take (hsz ▸ (by decide)), List.getElem?_map, List.getElem?_range e, List.getElem?_map] at this
      by_cases e2 : i < r
      · rw [List.getElem?_append_left (by rw [lr]; exact e2), List.getElem?_range' e2, Nat.zero_add, Nat.one_mul] at this
        rw [if_pos e2]; exact Option.some.inj this
      · obtain ⟨j, rfl⟩ := Nat.exists_eq_add_of_le (Nat.le_of_not_lt e2)
        rw [List.getElem?_append_right (by rw [lr]; exact Nat.le_add_right ..), lr, Nat.add_sub_cancel_left, List.getElem?_range' (by omega), Nat.one_mul] at this
        rw [if_neg e2, if_pos e, Nat.add_sub_cancel_left]; exact Option.some.inj this
    · rw [K_congr (hu i (Nat.le_of_not_lt e)), hK0 i (hsz ▸ hi), f0p, if_neg (by omega), if_neg (by omega), if_neg e, er]
  rw [← this]; exact isI i hi
end
section -- S10
open PySem PySem.Calls PyProof.Rows
set_option maxRecDepth 100000
theorem ints_nth : ∀ {vs : List Value} {ns : List Int}, IntsAre vs ns → ∀ i, i < vs.length → ∃ t, vs[i]? = some (.int (ns.getD i 0) t)
  | _, _, .nil, i, h => absurd h (Nat.not_lt_zero i)
  | _, _, .cons a u r, 0, _ => ⟨u, rfl⟩
  | _, _, .cons a u r, i + 1, h => by
    obtain ⟨t, e⟩ := ints_nth r i (Nat.lt_of_succ_lt_succ h)
    exact ⟨t, by rw [List.getElem?_cons_succ, e]; rfl⟩
theorem pair_nth {vs : List Value} {ns : List Int} (hI : IntsAre vs ns) {i : Nat} (h : i < (pairsOf vs).size) : isK (pairsOf vs)[i]! (ns.getD i 0) := by
  have h' : i < vs.length := by rw [← pairsOf_size]; exact h
  obtain ⟨t, e⟩ := ints_nth hI i h'
  refine ⟨t, ?_⟩
  rw [getElem!_pos _ i h]
  have : (pairsOf vs)[i] = (vs[i], vs[i]) := by simp [pairsOf]
  rw [this]
  rw [List.getElem?_eq_getElem h'] at e
  exact Option.some.inj e
theorem rot_nth {k i : Nat} (hk : k < 64) (hi : i < 64) : ((List.range' k (64 - k) ++ List.range' 0 k).map Int.ofNat).getD i 0 = f0 k i := by
  rw [List.getD_eq_getElem?_getD, List.getElem?_map, List.getElem?_append, List.length_range']
  unfold f0
  by_cases e : i < 64 - k
  · rw [if_pos e, if_pos e, List.getElem?_range' e]
    show Int.ofNat _ = _
    simp
  · rw [if_neg e, if_neg e, List.getElem?_range' (by omega)]
    show Int.ofNat _ = _
    simp
section
variable {prog : Program} {w : World} {A : Around} {E : Value → Shared → Prop} {s : Shared}
/-- list.sort of ints, two at least, where it is known that the runs' sort ends well -/
theorem sort_known {a : Addr} {vs : List Value} {ns : List Int} {n : Nat} {P : Fin → Shared → Prop} (ho : s.heap.get? a = some (seqObj "list" vs.toArray n)) (hI : IntsAre vs ns) (h2 : 2 ≤ vs.length) (hl : vs.length ≤ 64)
    (hr : ∀ s' : Shared, wpS (model prog w) A E s' sortRuns' (fun _ st => (arrOf st).Perm (pairsOf vs) ∧ failedOf st = none ∧ SortedTo (arrOf st) (pairsOf vs).size) (ST (pairsOf vs) #[] 7))
    (h : ∀ (out : Array Value) (ns' : List Int), IntsAre out.toList ns' → ns'.Perm ns → ns'.Pairwise (· ≤ ·) → P (.done (.ret .none)) { s with heap := sortedHeap s.heap a vs out }) :
    wpAny (model prog w) A (Builtin.«list.sort» ⟨[.ref a], []⟩) P E s := by
  have ha := Heap.lt_size ho
  have hz : ¬ vs.toArray.size < 2 := by rw [List.size_toArray]; omega
  have kk : keyKind' vs.toArray = pure oneType' := by
    match vs, h2, hI with
    | x :: y :: r, _, hI => exact keyKind_ints hI
    | [_], h2, _ => exact absurd h2 (by simp)
    | [], h2, _ => exact absurd h2 (by decide)
  rw [list_sort_plain]
  refine wpAny_bind (listItems_at ho rfl (wpAny_bind (listUpdate_at ho rfl ?_ (by rw [List.size_toArray, sizeLine_eq]; omega))))
  obtain ⟨e1, o1⟩ : ∃ e, (s.heap.update a (Obj.mapSeq fun _ => #[])).get? a = some (seqObj "list" #[] e) := ⟨_, get?_update_seq ho fun _ => #[]⟩
  refine wpAny_bind (seqEpoch_at o1 rfl (wpAny_bind (wpAny_newTuple (wpAny_bind (wpAny_newList (wpAny_holding ?_))))))
  have o2 : (((s.heap.update a (Obj.mapSeq fun _ => #[])).push (seqObj "tuple" vs.toArray 0)).push (seqObj "list" #[] 0)).get? a = some (seqObj "list" #[] e1) :=
    Heap.get?_push_of_some _ (Heap.get?_push_of_some _ o1)
  show wpAny (model prog w) A _ P E { s with heap := ((s.heap.update a (Obj.mapSeq fun _ => #[])).push (seqObj "tuple" vs.toArray 0)).push (seqObj "list" #[] 0) }
  dsimp only
  rw [if_neg hz, if_neg hz, kk]
  refine wpAny_bind (wpAny_pure (wpAny_bind (wpAny_mono (hr _) ?_ fun _ _ e => e)))
  rintro ⟨⟨⟩, st⟩ s' ⟨rfl, p1, p2, p3⟩
  have sz : ((arrOf st).map (·.2)).size = vs.length := (Array.size_map ..).trans (p1.size_eq.trans (pairsOf_size _))
  dsimp only
  refine wpAny_bind (seqEpoch_at o2 rfl (wpAny_bind (listUpdate_at o2 rfl ?_ (hsz2 := by rw [sz, sizeLine_eq]; omega))))
  rw [p2]
  simp only [bne_self_eq_false, Bool.false_eq_true, if_false]
  obtain ⟨ns', q1, q2, q3⟩ := sorted_out hI p1 p3
  exact wpAny_pure (h _ ns' q1 q2 q3)
theorem sorted_known {h₀ : Heap} {L : Addr} {m : Str → Option Value} {news : List (Addr × Obj)} {l : Addr} {vs : List Value} {ns : List Int} {Q : Value → Shared → Prop}
    (F : Fr h₀ L s.heap m) (N : News h₀ L s.heap news) (hl : s.heap.IsList l vs.toArray) (hI : IntsAre vs ns) (h2 : 2 ≤ vs.length) (h64 : vs.length ≤ 64)
    (hr : ∀ (A : Around) (E : Value → Shared → Prop) (s' : Shared), wpS (model prog w) A E s' sortRuns' (fun _ st => (arrOf st).Perm (pairsOf vs) ∧ failedOf st = none ∧ SortedTo (arrOf st) (pairsOf vs).size) (ST (pairsOf vs) #[] 7))
    (h : ∀ (h' : Heap) (vs' : List Value) (ns' : List Int) (e : Nat), Fr h₀ L h' m → News h₀ L h' ((s.heap.objs.size + 1, seqObj "list" vs'.toArray e) :: news) →
      IntsAre vs' ns' → ns'.Perm ns → ns'.Pairwise (· ≤ ·) → Q (.ref (s.heap.objs.size + 1)) { s with heap := h' }) :
    wpAny (model prog w) A (call (.builtin "sorted") [.ref l]) Q E s := by
  refine call_function_entry kind_sorted plain_sorted entry_sorted (args_sorted1 _) ?_
  unfold Builtin.«sorted»
  refine wpAny_bind (m := checkCount "sorted" 1 1 _) (wpAny_pure (wpAny_bind (collect_list hl (wpAny_bind (wpAny_newList ?_)) (by rw [sizeLine_eq]; omega))))
  have z1 : ((s.heap.push (seqObj "list" #[] 0)).update s.heap.objs.size (Obj.mapSeq (· ++ vs.toArray))).objs.size = s.heap.objs.size + 1 := by rw [Heap.size_update, size_push']
  have o1 : (((s.heap.push (seqObj "list" #[] 0)).update s.heap.objs.size (Obj.mapSeq (· ++ vs.toArray))).push (seqObj "list" vs.toArray 0)).get? (s.heap.objs.size + 1) = some (seqObj "list" vs.toArray 0) := by
    rw [← z1]; exact Heap.get?_push_size _ rfl
  show wpAny _ _ _ _ _ { s with heap := ((s.heap.push (seqObj "list" #[] 0)).update s.heap.objs.size (Obj.mapSeq (· ++ vs.toArray))).push (seqObj "list" vs.toArray 0) }
  rw [z1]
  refine wpAny_bind (wpAny_holding (wpAny_call_entry slot_list_sort ⟨_, o1, rfl⟩ entry_list_sort (sort_known o1 hI h2 h64 (hr _ _) fun out ns' a1 a2 a3 => ⟨_, rfl, ?_⟩) (args_list_sort _)))
  obtain ⟨e, he⟩ := sortedAll_at s.heap vs out
  exact wpAny_pure ⟨_, rfl, h _ out.toList ns' e (F.kept fun _ _ => sortedAll_old) (N.kept_cons F (fun _ _ => sortedAll_old) (Nat.le_succ _) he) a1 a2 a3⟩
theorem sorted_rot {h₀ : Heap} {L : Addr} {m : Str → Option Value} {news : List (Addr × Obj)} {l : Addr} {vs : List Value} {k : Nat} {Q : Value → Shared → Prop} (hk : k < 64) (hev : k % 2 = 0)
    (F : Fr h₀ L s.heap m) (N : News h₀ L s.heap news) (hl : s.heap.IsList l vs.toArray) (hI : IntsAre vs ((List.range' k (64 - k) ++ List.range' 0 k).map Int.ofNat))
    (h : ∀ (D : Addr) (h' : Heap) (vs' : List Value) (ns' : List Int) (e : Nat), Fr h₀ L h' m → News h₀ L h' ((D, seqObj "list" vs'.toArray e) :: news) → (∀ p ∈ news, p.1 < D) →
      IntsAre vs' ns' → ns'.Perm ((List.range' k (64 - k) ++ List.range' 0 k).map Int.ofNat) → ns'.Pairwise (· ≤ ·) → Q (.ref D) { s with heap := h' }) :
    wpAny (model prog w) A (call (.builtin "sorted") [.ref l]) Q E s := by
  have hlen : vs.length = 64 := by rw [hI.length, List.length_map, List.length_append, List.length_range', List.length_range']; omega
  have hps : (pairsOf vs).size = 64 := by rw [pairsOf_size]; exact hlen
  have hf : ∀ i, i < (pairsOf vs).size → isK (pairsOf vs)[i]! (f0 k i) := fun i hi => by
    have := pair_nth hI hi
    rwa [rot_nth hk (by omega)] at this
  refine sorted_known F N hl hI (by omega) (by omega) (fun A E s' => ?_) fun h' vs' ns' e F' N' a1 a2 a3 => h _ h' vs' ns' e F' N' (fun p hp => Nat.lt_succ_of_lt (Heap.lt_size (N p hp).1)) a1 a2 a3
  refine wS_runs hps hI.intKeys hk hev hf (fun xs k32 p1 p2 p3 => two_of hps hI.intKeys hev k32 hk (fun i hi => K_of (by omega) (hf i (by omega))) p1 p2 p3) fun xs p g q1 q2 => ⟨q1, rfl, ?_⟩
  rw [hps]; exact q2
end
end
section -- G8
open PySem PySem.W PySem.Calls PyProof.Rows
section
variable {prog : Program} {w : World} {A : Around} {s : Shared} {K : Frag}
  {R : Flow → Shared → Prop} {name qual : Str} {params : Arguments} {body : List Stmt} {scope : Scope} {dV kV doc pm cdv ct oc : Value} {an od : Option Addr} {f : Addr} {args : Args} {binds : List (Str × Value)} {o : Obj}
  {p : Program} {loose : List Str} {mean : ExcName → Option Value} {mg mb : Str → Option Value}
theorem codeG_topC
    (T : Top p loose mean mg mb s.heap)
    (ho : s.heap.get? f = some o) (hdat : o.data = .func (fnOf name qual params body scope dV kV doc pm an cdv ct)) (hcd' : s.heap.CodeRec cdv qual) (hroom : A.depth < recursionLimit)
    (hbind : BindsTo s (fnOf name qual params body scope dV kV doc pm an cdv ct) args binds) (hkind : (binds.all fun y => scope.names.lookup y.1 == some .local || scope.names.lookup y.1 == some .cell) = true)
    (hnd : ((cellsFrom 0 scope.names []).map (·.1)).Nodup)
    (h : ∀ L' h₁ tk cells, Fr s.heap L' h₁ (bindL (envOfC qual scope L' f cdv).kindOf binds fun _ => none) → News s.heap L' h₁ cells →
      CellsAre (bindC (envOfC qual scope L' f cdv).kindOf binds fun _ => none) (cellsFrom (L' + 1) scope.names []) cells →
      wpG (model prog w) (A.deeper (envOfC qual scope L' f cdv)) (execs body (envOfC qual scope L' f cdv))
        (fun fl s' => R (.ret (match fl with | .ret v => v | _ => .none)) s')
        { s with heap := h₁, toks := tk })
    (hco : scope.isCoroutine = false) (hgen : scope.isGenerator = false) (hk : scope.kind = .function) : codeG (model prog w) A (.call (.ref f) args) R s := by
  refine codeG_call_function hroom ho hdat hco hgen rfl hcd' (hbind _ _ _ _ ?_)
  refine wpAny_newFunctionEnv_cells hk (kindsX hkind _) fun env' he s' x => ?_
  subst he
  refine ⟨T.nolimit.keeps x.toInCall.keep, codeG_func ?_⟩
  obtain ⟨h₁, tk, rfl, _⟩ := x.done
  have hk₁ := x.toInCall.keep
  obtain ⟨cells, NC, Y⟩ := Cl.news (h₀ := s.heap) (Nat.le_refl _) fun n c hm => ⟨x.cell n c (lookup_of_mem_nodup (cellsFrom_names scope.names 0 (s.heap.objs.size + 1) [] [] rfl ▸ hnd) hm), x.above n c hm⟩
  exact h s.heap.objs.size h₁ tk cells ⟨x.toInCall.ns, hk₁, Nat.le_refl _⟩ NC Y
end
theorem clean_atClaim : Clean atClaim := by first | decide | exact ⟨rfl, rfl⟩ | trivial | (unfold Clean; decide) | (unfold Clean; simp [atClaim])
theorem wp_of_G {M : Model} {t : Sem Value} {Q : Value → Shared → Prop} {E : Value → Shared → Prop} {s : Shared} (h : wpG M callerA t Q s) (p : Pos) : Sem.wp M atClaim t (fun v _ s' => Q v s') (fun e _ s' => E e s') p s :=
  Sem.wp_mono M atClaim t (fun _ _ _ q => q) (fun _ _ _ q => q.elim) p s (h atClaim p caller_in clean_atClaim)
end
section
open PySem PySem.W PySem.Calls PyProof.Rows
set_option linter.unusedVariables false
local macro_rules | `(tactic| k_room) => `(tactic| ktr_room)
local macro_rules | `(tactic| walk_at "exec While Compare cons nil") => `(tactic| refine stop_of ?_)
local macro_rules | `(tactic| walk_at "exec While BoolOp cons nil") => `(tactic| refine stop_of ?_)
local macro_rules | `(tactic| walk_at "LeaveK") => `(tactic| ((k_dflt (refine' leaveR ?k1 ?k2 ?_; (case k1 => k_asm); (case k2 => k_asm); k_whole)); intro kF kN; ground_anew kF; (have kX := kFor kF (by k_asm))))
local macro_rules | `(tactic| walk_at "execs cons") => `(tactic| first | (k_here; k_made; walk_at "execs cons") | (k_here; k_gentoks) | (with_reducible refine execs_consQ ?_))
local macro_rules | `(tactic| walk_at "FPost") => `(tactic| dsimp only [FPost])
local macro_rules | `(tactic| walk_at "call type:range") => `(tactic| refine stop_of ?_)
local macro_rules | `(tactic| walk_at "last pyIter ref") => `(tactic| refine stop_of ?_)
local macro_rules | `(tactic| size_fits) => `(tactic| (rw [sizeLine_eq]; (try simp only [Array.size_push, List.size_toArray, List.length_append, List.length_cons, List.length_nil, List.length_map, List.length_replicate, List.length_set, List.length_reverse]); omega))
local macro_rules | `(tactic| k_all) => `(tactic| (((repeat' (first | assumption | exact List.forall_mem_nil _ | exact off_nil | refine off_snoc ?_ ?_ | refine List.forall_mem_cons.mpr ⟨?_, ?_⟩)) <;> (try dsimp only) <;> first | assumption | exact Nat.ne_of_lt (by assumption) | exact Nat.ne_of_gt (by assumption) | exact Nat.ne_of_gt (by omega) | exact Nat.ne_of_lt (by omega) | exact allLt_ne (by assumption) | exact allLt_ne (rt1 (by assumption)) | exact allLt_ne (rt2 (by assumption)) | exact allLt_ne (rt3 (by assumption)) | exact allLt_ne (rt4 (by assumption)) | exact allLt_ne (rt5 (by assumption)) | exact fun p hp => Nat.ne_of_lt (‹∀ p ∈ _, p.1 < _› p hp) | exact fun p hp => Nat.ne_of_lt (Nat.lt_trans (‹∀ p ∈ _, p.1 < _› p hp) (by omega)) | exact allLt_ne2 (by assumption) (by omega) | exact allLt_ne2 (rt1 (by assumption)) (by omega) | exact allLt_ne2 (rt2 (by assumption)) (by omega) | exact allLt_ne2 (rt3 (by assumption)) (by omega))))
local macro_rules | `(tactic| walk_at "call ref") => `(tactic| ((with_reducible refine stop_call ?n ?_); (case n => with_unfolding_all rfl)))
local macro_rules | `(tactic| walk_at "call type:bytes") => `(tactic| (k_here; k_dflt (first | (refine by_of_bytes ?_) | (refine' by_of_baN ?F ?N ?m ?z ?_; (case F => k_asm); (case N => k_asm); (case m => k_mem); (case z => size_fits); intro _ _ _ _) | (refine' by_of_list0 ?F ?N ?m ?hh ?_; (case F => k_asm); (case N => k_asm); (case m => k_mem); (case hh => exact rfl); intro _ _ _ _ _))))
local macro_rules | `(tactic| walk_at "getMethod ref") => `(tactic| (k_here; (with_reducible show wpAny _ _ (getMethod (Value.ref _) (PySem.Str.ofString "append") _) _ _ _); k_dflt (refine' ba_methA ?N ?m ?_; (case N => k_asm); (case m => k_mem))))
local macro_rules | `(tactic| walk_at "getMethod ref") => `(tactic| (k_here; (with_reducible show wpAny _ _ (getMethod (Value.ref _) (PySem.Str.ofString "extend") _) _ _ _); k_dflt (refine' ba_methE ?N ?m ?_; (case N => k_asm); (case m => k_mem))))
local macro_rules | `(tactic| walk_at "binaryOp Add bytes bytes") => `(tactic| (refine' KBy.add_bytes ?z ?_; (case z => ((try simp only [List.size_toArray, List.length_cons, List.length_nil]); omega)); intro _ _))
local macro_rules | `(tactic| walk_at "subscriptTail") => `(tactic| ((with_reducible show wpAny _ _ (subscriptTail _ _ (Value.bytes _ _) _) _ _ _); refine stop_of ?_))
local macro_rules | `(tactic| walk_at "call builtin:int.bit_length") => `(tactic| (refine call_bitlen ?_; intro _ _))
local macro_rules | `(tactic| walk_at "eval ListComp") => `(tactic| refine stop_of ?_)
local macro_rules | `(tactic| walk_at "exec Assign cons ListComp") => `(tactic| refine stop_of ?_)
local macro_rules | `(tactic| walk_at "call type:enumerate") => `(tactic| refine stop_of ?_)
local macro_rules | `(tactic| walk_at "pyIter ref") => `(tactic| refine stop_of ?_)
theorem fill_once (w : World) : PySem.Challenge.rw_pq1208_01 = PySem.Challenge.rw_pq1208_01 ∧ Hd.hd.heap_1 w.params = Hd.hd.heap_1 w.params := by
  k_fill
  exact ⟨rfl, rfl⟩
structure Pm where
  w : World
  mean : ExcName → Option Value
  mg : Str → Option Value
  mb : Str → Option Value
  dp : Nat
  un : Nat
  gd : Option (List Code)
  cn : Str
  cs : Scope
  a : Addr
  ccd : Value
  cl : List (Str × Addr)
  outer : List Env
  A₀ : Around
  base : Heap
  h₀ : Heap
  L : Addr
  m : Str → Option Value
  rest : List (Addr × Obj)
  news : List (Addr × Obj)
  s : Shared
  Q : Value → Shared → Prop
  E : Value → Shared → Prop
theorem pm_some : Nonempty Pm :=
  ⟨⟨⟨fun _ _ => 0, { strHash := fun _ => 0, shareClass := fun _ => 0, mergeTok := fun t => t, idOf := fun _ => 0, idOfShared := fun _ _ => 0, followText := fun _ => true, idOfImm := fun _ => 0 }⟩, fun _ => none, fun _ => none, fun _ => none, 0, 0, none, Str.ofString "", ⟨.function, [], false, false, []⟩, 0, .none, [], [], {}, {}, {}, 0, fun _ => none, [], [], {}, fun _ _ => True, fun _ _ => True⟩⟩
noncomputable def pmD : Pm := Classical.choice pm_some
noncomputable def pmAt (P : Pm → Prop) : Pm := @Classical.epsilon Pm pm_some fun p => ¬ P p
theorem pm_all {P : Pm → Prop} (h : P (pmAt P)) (p : Pm) : P p := Classical.byContradiction fun hn => (@Classical.epsilon_spec Pm (fun p => ¬ P p) ⟨p, hn⟩) h
section -- E3
theorem walk_off_E3 : True := by
  w_top off
  exact trivial
section
variable {w : World} {mean : ExcName → Option Value} {mg mb : Str → Option Value} {dp un : Nat} {gd : Option (List Code)} {cn : Str} {cs : Scope} {a : Addr} {ccd : Value} {cl : List (Str × Addr)} {outer : List Env} {A₀ : Around} {base h₀ : Heap} {L : Addr} {m : Str → Option Value} {rest news : List (Addr × Obj)} {s : Shared} {Q E : Value → Shared → Prop}
set_option maxRecDepth 100000 in
set_option maxHeartbeats 8000000 in
theorem digit_ {pen : Addr} {n many : Int} {tk tkm : Tok} {ep : Nat}
   (C : Cx w mean mg mb dp un cs outer A₀ base h₀ L m s.heap 1) (N : News h₀ L s.heap ((pen, lst [.int n tk] ep) :: rest)) (hoff : ∀ p ∈ rest, p.1 ≠ pen)
   (hm : 0 < many) (hm2 : many < 1073741824)
   (hret : ∀ t tk2 ep' h' tk', Fr h₀ L h' m → News h₀ L h' ((pen, lst [.int (n / many) tk2] ep') :: rest) → Q (.int (n % many) t) { s with heap := h', toks := tk' }) :
   wpAny (model PySem.Challenge.rw_pq1208_01.row.prog w) (ktrTop dp un gd cn cs L a ccd cl outer) (call (.ref 448) [.ref pen, .int many tkm]) Q E s := by
  refine Cx.el C fun B F X T hk hd hu => ?_
  have hret' : ∀ t tk2 ep' h' tk', Fr h₀ L h' m → News h₀ L h' ((pen, lst [.int (([n].getD (Int.toNat 0) 0).fdiv many) tk2] ep') :: rest) → Q (.int (([n].getD (Int.toNat 0) 0).fmod many) t) { s with heap := h', toks := tk' } := by
    rw [show ([n].getD (Int.toNat 0) 0).fdiv many = n / many from Int.fdiv_eq_ediv_of_nonneg _ (by omega), show ([n].getD (Int.toNat 0) 0).fmod many = n % many from Int.fmod_eq_emod_of_nonneg _ (by omega)]
    exact hret
  clear hret
  refine wpAny_call ?_
  k_dflt cell_enter
  ((try dsimp only); repeat' (first | ((with_reducible first | refine nq_next ?_ | refine nq_ret ?_ | refine ng_next ?_ | refine ng_ret ?_ | refine nq_cont ?_ | refine nq_brk ?_ | refine ng_cont ?_ | refine ng_brk ?_); (try dsimp only)) | (k_unfold; (try dsimp only)) | walk1 | (dsimp only; walk1) | (leave1; walk_say "STEP leave1"; try dsimp only)))
  exact hret' _ _ _ _ _ (by assumption) (by assumption)
end
end
section -- E4
theorem walk_off_E4 : True := by
  w_top off
  exact trivial
section
variable {w : World} {mean : ExcName → Option Value} {mg mb : Str → Option Value} {dp un : Nat} {gd : Option (List Code)} {cn : Str} {cs : Scope} {a : Addr} {ccd : Value} {cl : List (Str × Addr)} {outer : List Env} {A₀ : Around} {base h₀ : Heap} {L : Addr} {m : Str → Option Value} {rest news : List (Addr × Obj)} {s : Shared} {Q E : Value → Shared → Prop}
structure CountsOk (ns : List Int) (z : Nat) : Prop where
  lo : ∀ c ∈ ns, -1 ≤ c
  sum : (ns.map Int.natAbs).sum = z
  len : ns.length ≤ 11
  lt : ∀ c ∈ ns, c.natAbs < z
theorem mem_sum : ∀ {l : List Nat} {a : Nat}, a ∈ l → a ≤ l.sum
  | x :: l, a, h => by
    rw [List.sum_cons]
    rcases List.mem_cons.mp h with rfl | h
    · omega
    · have := mem_sum h; omega
structure SCn where
  vs : List Value
  ns : List Int
  cap : Nat
  left : Int
  tl : Tok
  n : Int
  tn : Tok
  ep : Nat
structure SCnI (k z i : Nat) (c : SCn) : Prop where
  are : IntsAre c.vs c.ns
  lo : ∀ x ∈ c.ns, -1 ≤ x
  sum : (c.ns.map Int.natAbs).sum + c.left = z
  len : c.ns.length ≤ 2 * i
  left : (k : Int) + 1 ≤ c.left + i
  ge : i ≤ (c.ns.map Int.natAbs).sum
set_option maxRecDepth 100000 in
set_option maxHeartbeats 8000000 in
theorem scn_two {vs : List Value} {ns : List Int} {cap : Nat} {left left' x y : Int} {tl tn t₁ t₂ : Tok} {n' : Int} {ep k z i : Nat} (hare : IntsAre vs ns) (hlo : ∀ x ∈ ns, -1 ≤ x) (hsum : (ns.map Int.natAbs).sum + left = z) (hlen : ns.length ≤ 2 * i) (hleft : (k : Int) + 1 ≤ left + i)
    (hge : i ≤ (ns.map Int.natAbs).sum) (hx : -1 ≤ x) (hy : -1 ≤ y) (h3 : 1 ≤ x.natAbs + y.natAbs) (h1 : left' + x.natAbs + y.natAbs = left) (h2 : (k : Int) + 1 ≤ left' + i + 1) : SCnI k z (i + 1) ⟨((vs.toArray.push (.int x t₁)).push (.int y t₂)).toList, ns ++ [x, y], cap, left', tl, n', tn, ep⟩ := by
  refine ⟨?_, ?_, ?_, ?_, ?_, ?_⟩
  · simpa using hare.append (IntsAre.cons _ _ (IntsAre.cons _ _ IntsAre.nil))
  · simp only [List.mem_append, List.mem_cons, List.not_mem_nil, or_false]
    rintro c (hc | rfl | rfl)
    · exact hlo c hc
    · exact hx
    · exact hy
  · simp only [List.map_append, List.sum_append, List.map_cons, List.map_nil, List.sum_cons, List.sum_nil]; omega
  · simp only [List.length_append, List.length_cons, List.length_nil]; omega
  · show (k : Int) + 1 ≤ left' + ((i + 1 : Nat) : Int); omega
  · simp only [List.map_append, List.sum_append, List.map_cons, List.map_nil, List.sum_cons, List.sum_nil]; omega
theorem scn_one {vs : List Value} {ns : List Int} {cap : Nat} {left left' x : Int} {tl tn t₁ : Tok} {n' : Int} {ep k z i : Nat} (hare : IntsAre vs ns) (hlo : ∀ x ∈ ns, -1 ≤ x) (hsum : (ns.map Int.natAbs).sum + left = z) (hlen : ns.length ≤ 2 * i) (hleft : (k : Int) + 1 ≤ left + i)
    (hge : i ≤ (ns.map Int.natAbs).sum) (hx : -1 ≤ x) (h3 : 1 ≤ x.natAbs) (h1 : left' + x.natAbs = left) (h2 : (k : Int) + 1 ≤ left' + i + 1) : SCnI k z (i + 1) ⟨(vs.toArray.push (.int x t₁)).toList, ns ++ [x], cap, left', tl, n', tn, ep⟩ := by
  refine ⟨?_, ?_, ?_, ?_, ?_, ?_⟩
  · simpa using hare.append (IntsAre.cons _ _ IntsAre.nil)
  · simp only [List.mem_append, List.mem_cons, List.not_mem_nil, or_false]
    rintro c (hc | rfl)
    · exact hlo c hc
    · exact hx
  · simp only [List.map_append, List.sum_append, List.map_cons, List.map_nil, List.sum_cons, List.sum_nil]; omega
  · simp only [List.length_append, List.length_cons, List.length_nil]; omega
  · show (k : Int) + 1 ≤ left' + ((i + 1 : Nat) : Int); omega
  · simp only [List.map_append, List.sum_append, List.map_cons, List.map_nil, List.sum_cons, List.sum_nil]; omega
end
def counts_S (w : World) (mean : ExcName → Option Value) (mg : Str → Option Value) (mb : Str → Option Value) (dp : Nat) (un : Nat) (gd : Option (List Code)) (cn : Str) (cs : Scope) (a : Addr) (ccd : Value) (cl : List (Str × Addr)) (outer : List Env) (A₀ : Around) (base : Heap) (h₀ : Heap) (L : Addr) (m : Str → Option Value) (rest : List (Addr × Obj)) (s : Shared) (Q : Value → Shared → Prop) (E : Value → Shared → Prop) : Prop :=
  ∀ {pen : Addr} {n : Int} {z : Nat} {tk tkm : Tok} {ep : Nat} (C : Cx w mean mg mb dp un cs outer A₀ base h₀ L m s.heap 2) (N : News h₀ L s.heap ((pen, lst [.int n tk] ep) :: rest)) (hoff : ∀ p ∈ rest, p.1 ≠ pen) (hz : 8 ≤ z) (hz2 : z ≤ 64) (hret : ∀ r vs ns n' tk2 ep' ep2 h' tk', CountsOk ns z → IntsAre vs ns → Fr h₀ L h' m → News h₀ L h' ((r, lst vs ep2) :: (pen, lst [.int n' tk2] ep') :: rest) → Q (.ref r) { s with heap := h', toks := tk' }),
   wpAny (model PySem.Challenge.rw_pq1208_01.row.prog w) (ktrTop dp un gd cn cs L a ccd cl outer) (call (.ref 455) [.ref pen, .int (z : Int) tkm]) Q E s
namespace Kcounts_
noncomputable def pt : Pm := pmAt fun p => counts_S p.w p.mean p.mg p.mb p.dp p.un p.gd p.cn p.cs p.a p.ccd p.cl p.outer p.A₀ p.base p.h₀ p.L p.m p.rest p.s p.Q p.E
set_option maxRecDepth 100000 in
set_option maxHeartbeats 8000000 in
theorem walk : counts_S pt.w pt.mean pt.mg pt.mb pt.dp pt.un pt.gd pt.cn pt.cs pt.a pt.ccd pt.cl pt.outer pt.A₀ pt.base pt.h₀ pt.L pt.m pt.rest pt.s pt.Q pt.E := by
  unfold counts_S
  intro pen n z tk tkm ep C N hoff hz hz2 hret
  refine Cx.el C fun B F X T hk hd hu => ?_
  refine wpAny_call ?_
  k_dflt cell_enter
  ((try dsimp only); repeat' (first | ((with_reducible first | refine nq_next ?_ | refine nq_ret ?_ | refine ng_next ?_ | refine ng_ret ?_ | refine nq_cont ?_ | refine nq_brk ?_ | refine ng_cont ?_ | refine ng_brk ?_); (try dsimp only)) | (k_unfold; (try dsimp only)) | walk1 | (dsimp only; walk1) | (leave1; walk_say "STEP leave1"; try dsimp only)))
  refine Stop.go (digit_ (by (exact ⟨by assumption, by assumption, by assumption, by assumption, rfl, by (first | omega | ((try simp only [depth_under_make, units_under_make, depth_in1, units_in1, depth_deeper, units_deeper]); (try dsimp only [ktrTop]); omega)), by (first | omega | ((try simp only [depth_under_make, units_under_make, depth_in1, units_in1, depth_deeper, units_deeper]); (try dsimp only [ktrTop]); omega))⟩)) (rot2 (by assumption)) (by (((repeat' (first | assumption | exact List.forall_mem_nil _ | exact off_nil | refine off_snoc ?_ ?_ | refine List.forall_mem_cons.mpr ⟨?_, ?_⟩)) <;> (try dsimp only) <;> first | assumption | exact Nat.ne_of_lt (by assumption) | exact Nat.ne_of_gt (by assumption) | exact Nat.ne_of_gt (by omega) | exact Nat.ne_of_lt (by omega) | exact allLt_ne (by assumption) | exact allLt_ne (rt1 (by assumption)) | exact allLt_ne (rt2 (by assumption)) | exact allLt_ne (rt3 (by assumption)) | exact allLt_ne (rt4 (by assumption)) | exact allLt_ne (rt5 (by assumption)) | exact fun p hp => Nat.ne_of_lt (‹∀ p ∈ _, p.1 < _› p hp) | exact fun p hp => Nat.ne_of_lt (Nat.lt_trans (‹∀ p ∈ _, p.1 < _› p hp) (by omega)) | exact allLt_ne2 (by assumption) (by omega) | exact allLt_ne2 (rt1 (by assumption)) (by omega) | exact allLt_ne2 (rt2 (by assumption)) (by omega) | exact allLt_ne2 (rt3 (by assumption)) (by omega)))) (by omega) (by omega) ?_)
  intro t₁ t₂ e₁ h₁ k₁ F₁ N₁
  ((try dsimp only); repeat' (first | ((with_reducible first | refine nq_next ?_ | refine nq_ret ?_ | refine ng_next ?_ | refine ng_ret ?_ | refine nq_cont ?_ | refine nq_brk ?_ | refine ng_cont ?_ | refine ng_brk ?_); (try dsimp only)) | (k_unfold; (try dsimp only)) | walk1 | (dsimp only; walk1) | (leave1; walk_say "STEP leave1"; try dsimp only)))
  refine Stop.go (rg3 (by assumption) (by assumption) (PyProof.noPylong_small (by omega)) (by decide) ?_)
  intro r₂ h₂ tk₂ a₂ b₂ c₂ IR F₂ N₂
  ((try dsimp only); repeat' (first | ((with_reducible first | refine nq_next ?_ | refine nq_ret ?_ | refine ng_next ?_ | refine ng_ret ?_ | refine nq_cont ?_ | refine nq_brk ?_ | refine ng_cont ?_ | refine ng_brk ?_); (try dsimp only)) | (k_unfold; (try dsimp only)) | walk1 | (dsimp only; walk1) | (leave1; walk_say "STEP leave1"; try dsimp only)))
  refine Stop.go ?_
  have N₃ := rot2 N₂
  obtain ⟨k, hk5⟩ : ∃ k : Nat, 1 + n % 5 = (k : Int) := ⟨(1 + n % 5).toNat, by omega⟩
  rw [hk5] at IR
  refine it_range (σ := SCn) (n := k) (fun c => [(_, lst c.vs c.cap), (pen, lst [.int c.n c.tn] c.ep)]) [_, pen] _ (fun c => [(Str.ofString "left", .int c.left c.tl)]) [Str.ofString "later", Str.ofString "drawn"] (SCnI k z) ⟨[], [], 0, z, tkm, _, _, _⟩
    rfl IR ?small ?size (fun _ => rfl) (by decide) ?off (by assumption) N₃ ?ps ?hi ?turn ?done
  case small => exact small_down (by omega) (by omega) (by decide) (by decide)
  case size => exact (rangeSize_downNat _ _).trans (by rw [Int.sub_zero]; rfl)
  case off => (((repeat' (first | assumption | exact List.forall_mem_nil _ | exact off_nil | refine off_snoc ?_ ?_ | refine List.forall_mem_cons.mpr ⟨?_, ?_⟩)) <;> (try dsimp only) <;> first | assumption | exact Nat.ne_of_lt (by assumption) | exact Nat.ne_of_gt (by assumption) | exact Nat.ne_of_gt (by omega) | exact Nat.ne_of_lt (by omega) | exact allLt_ne (by assumption) | exact allLt_ne (rt1 (by assumption)) | exact allLt_ne (rt2 (by assumption)) | exact allLt_ne (rt3 (by assumption)) | exact allLt_ne (rt4 (by assumption)) | exact allLt_ne (rt5 (by assumption)) | exact fun p hp => Nat.ne_of_lt (‹∀ p ∈ _, p.1 < _› p hp) | exact fun p hp => Nat.ne_of_lt (Nat.lt_trans (‹∀ p ∈ _, p.1 < _› p hp) (by omega)) | exact allLt_ne2 (by assumption) (by omega) | exact allLt_ne2 (rt1 (by assumption)) (by omega) | exact allLt_ne2 (rt2 (by assumption)) (by omega) | exact allLt_ne2 (rt3 (by assumption)) (by omega)))
  case ps => ((repeat' (first | exact List.forall_mem_nil _ | refine List.forall_mem_cons.mpr ⟨by with_unfolding_all rfl, ?_⟩)))
  case hi => exact ⟨.nil, by simp, by simp, by simp, by simp only []; omega, Nat.zero_le _⟩
  case turn =>
    rintro i t ⟨vs, ns, cap, left, tl, n', tn, ep'⟩ u h tk' rest' hik hx1 hoff' hsub' F N
    first | refine el6 hx1 fun hare hlo hsum hlen hleft hge => ?_ | obtain ⟨hare, hlo, hsum, hlen, hleft, hge⟩ := hx1
    try clear hx1
    dsimp only [List.cons_append, List.nil_append] at *
    first | refine el2 (off_cons hoff') fun o1 o2 => ?_ | obtain ⟨o1, o2⟩ := off_cons hoff'
    first | refine el2 (off_cons o2) fun o2 _ => ?_ | obtain ⟨o2, -⟩ := off_cons o2
    have hvl : vs.length ≤ 10 := by rw [hare.length]; omega
    have l0 : pen < _ := And.left (by assumption)
    ((try dsimp only); repeat' (first | ((with_reducible first | refine nq_next ?_ | refine nq_ret ?_ | refine ng_next ?_ | refine ng_ret ?_ | refine nq_cont ?_ | refine nq_brk ?_ | refine ng_cont ?_ | refine ng_brk ?_); (try dsimp only)) | (k_unfold; (try dsimp only)) | walk1 | (dsimp only; walk1) | (leave1; walk_say "STEP leave1"; try dsimp only)))
    refine Stop.go (digit_ (by (exact ⟨by assumption, by assumption, by assumption, by assumption, rfl, by (first | omega | ((try simp only [depth_under_make, units_under_make, depth_in1, units_in1, depth_deeper, units_deeper]); (try dsimp only [ktrTop]); omega)), by (first | omega | ((try simp only [depth_under_make, units_under_make, depth_in1, units_in1, depth_deeper, units_deeper]); (try dsimp only [ktrTop]); omega))⟩)) (rot1 (by assumption)) (by (((repeat' (first | assumption | exact List.forall_mem_nil _ | exact off_nil | refine off_snoc ?_ ?_ | refine List.forall_mem_cons.mpr ⟨?_, ?_⟩)) <;> (try dsimp only) <;> first | assumption | exact Nat.ne_of_lt (by assumption) | exact Nat.ne_of_gt (by assumption) | exact Nat.ne_of_gt (by omega) | exact Nat.ne_of_lt (by omega) | exact allLt_ne (by assumption) | exact allLt_ne (rt1 (by assumption)) | exact allLt_ne (rt2 (by assumption)) | exact allLt_ne (rt3 (by assumption)) | exact allLt_ne (rt4 (by assumption)) | exact allLt_ne (rt5 (by assumption)) | exact fun p hp => Nat.ne_of_lt (‹∀ p ∈ _, p.1 < _› p hp) | exact fun p hp => Nat.ne_of_lt (Nat.lt_trans (‹∀ p ∈ _, p.1 < _› p hp) (by omega)) | exact allLt_ne2 (by assumption) (by omega) | exact allLt_ne2 (rt1 (by assumption)) (by omega) | exact allLt_ne2 (rt2 (by assumption)) (by omega) | exact allLt_ne2 (rt3 (by assumption)) (by omega)))) (by omega) (by omega) ?_)
    intro t₁ t₂ e₁ h₁ k₁ F₁ N₁
    ((try dsimp only); repeat' (first | ((with_reducible first | refine nq_next ?_ | refine nq_ret ?_ | refine ng_next ?_ | refine ng_ret ?_ | refine nq_cont ?_ | refine nq_brk ?_ | refine ng_cont ?_ | refine ng_brk ?_); (try dsimp only)) | (k_unfold; (try dsimp only)) | walk1 | (dsimp only; walk1) | (leave1; walk_say "STEP leave1"; try dsimp only)))
    all_goals refine Stop.go (digit_ (by (exact ⟨by assumption, by assumption, by assumption, by assumption, rfl, by (first | omega | ((try simp only [depth_under_make, units_under_make, depth_in1, units_in1, depth_deeper, units_deeper]); (try dsimp only [ktrTop]); omega)), by (first | omega | ((try simp only [depth_under_make, units_under_make, depth_in1, units_in1, depth_deeper, units_deeper]); (try dsimp only [ktrTop]); omega))⟩)) (by assumption) (by (((repeat' (first | assumption | exact List.forall_mem_nil _ | exact off_nil | refine off_snoc ?_ ?_ | refine List.forall_mem_cons.mpr ⟨?_, ?_⟩)) <;> (try dsimp only) <;> first | assumption | exact Nat.ne_of_lt (by assumption) | exact Nat.ne_of_gt (by assumption) | exact Nat.ne_of_gt (by omega) | exact Nat.ne_of_lt (by omega) | exact allLt_ne (by assumption) | exact allLt_ne (rt1 (by assumption)) | exact allLt_ne (rt2 (by assumption)) | exact allLt_ne (rt3 (by assumption)) | exact allLt_ne (rt4 (by assumption)) | exact allLt_ne (rt5 (by assumption)) | exact fun p hp => Nat.ne_of_lt (‹∀ p ∈ _, p.1 < _› p hp) | exact fun p hp => Nat.ne_of_lt (Nat.lt_trans (‹∀ p ∈ _, p.1 < _› p hp) (by omega)) | exact allLt_ne2 (by assumption) (by omega) | exact allLt_ne2 (rt1 (by assumption)) (by omega) | exact allLt_ne2 (rt2 (by assumption)) (by omega) | exact allLt_ne2 (rt3 (by assumption)) (by omega)))) (by omega) (by omega) ?_)
    all_goals intro t₁ t₂ e₁ h₁ k₁ F₁ N₁
    all_goals ((try dsimp only); repeat' (first | ((with_reducible first | refine nq_next ?_ | refine nq_ret ?_ | refine ng_next ?_ | refine ng_ret ?_ | refine nq_cont ?_ | refine nq_brk ?_ | refine ng_cont ?_ | refine ng_brk ?_); (try dsimp only)) | (k_unfold; (try dsimp only)) | walk1 | (dsimp only; walk1) | (leave1; walk_say "STEP leave1"; try dsimp only)))
    · refine FEnd.at ⟨((vs.toArray.push _).push _).toList, ns ++ [0, -1], _, _, _, _, _, _⟩ (by assumption) (rot1 (by assumption)) (by ((repeat' (first | exact List.forall_mem_nil _ | refine List.forall_mem_cons.mpr ⟨by with_unfolding_all rfl, ?_⟩)))) (by (((repeat (first | (with_reducible exact fun _ _ _ => rfl) | ((with_reducible refine same_lay ?nz1 ?_); (case nz1 => rfl)) | ((with_reducible refine same_kst ?nz1 ?_); (case nz1 => rfl)))); done))) ?_
      refine scn_two hare hlo hsum hlen hleft hge ?_ ?_ ?_ ?_ ?_
      all_goals (try split) <;> omega
    · refine FEnd.at ⟨((vs.toArray.push _).push _).toList, ns ++ [0, n' / 3 % (left - (k + i * -1) + 1)], _, _, _, _, _, _⟩ (by assumption) (rot1 (by assumption)) (by ((repeat' (first | exact List.forall_mem_nil _ | refine List.forall_mem_cons.mpr ⟨by with_unfolding_all rfl, ?_⟩)))) (by (((repeat (first | (with_reducible exact fun _ _ _ => rfl) | ((with_reducible refine same_lay ?nz2 ?_); (case nz2 => rfl)) | ((with_reducible refine same_kst ?nz2 ?_); (case nz2 => rfl)))); done))) ?_
      have q1 : 0 ≤ n' / 3 % (left - (k + i * -1) + 1) := Int.emod_nonneg _ (by omega)
      have q2 : n' / 3 % (left - (k + i * -1) + 1) < left - (k + i * -1) + 1 := Int.emod_lt_of_pos _ (by omega)
      generalize n' / 3 % (left - (k + i * -1) + 1) = q at *
      refine scn_two hare hlo hsum hlen hleft hge ?_ ?_ ?_ ?_ ?_
      all_goals (try split) <;> omega
    · refine FEnd.at ⟨(vs.toArray.push _).toList, ns ++ [-1], _, _, _, _, _, _⟩ (by assumption) (rot1 (by assumption)) (by ((repeat' (first | exact List.forall_mem_nil _ | refine List.forall_mem_cons.mpr ⟨by with_unfolding_all rfl, ?_⟩)))) (by (((repeat (first | (with_reducible exact fun _ _ _ => rfl) | ((with_reducible refine same_lay ?nz3 ?_); (case nz3 => rfl)) | ((with_reducible refine same_kst ?nz3 ?_); (case nz3 => rfl)))); done))) ?_
      refine scn_one hare hlo hsum hlen hleft hge ?_ ?_ ?_ ?_
      all_goals (try split) <;> omega
    · refine FEnd.at ⟨(vs.toArray.push _).toList, ns ++ [n' / 3 % (left - (k + i * -1) + 1)], _, _, _, _, _, _⟩ (by assumption) (rot1 (by assumption)) (by ((repeat' (first | exact List.forall_mem_nil _ | refine List.forall_mem_cons.mpr ⟨by with_unfolding_all rfl, ?_⟩)))) (by (((repeat (first | (with_reducible exact fun _ _ _ => rfl) | ((with_reducible refine same_lay ?nz4 ?_); (case nz4 => rfl)) | ((with_reducible refine same_kst ?nz4 ?_); (case nz4 => rfl)))); done))) ?_
      have q1 : 0 ≤ n' / 3 % (left - (k + i * -1) + 1) := Int.emod_nonneg _ (by omega)
      have q2 : n' / 3 % (left - (k + i * -1) + 1) < left - (k + i * -1) + 1 := Int.emod_lt_of_pos _ (by omega)
      generalize n' / 3 % (left - (k + i * -1) + 1) = q at *
      refine scn_one hare hlo hsum hlen hleft hge ?_ ?_ ?_ ?_
      all_goals (try split) <;> omega
  case done =>
    rintro ⟨vs, ns, cap, left, tl, n', tn, ep'⟩ u h tk' hx1 F N
    first | refine el6 hx1 fun hare hlo hsum hlen hleft hge => ?_ | obtain ⟨hare, hlo, hsum, hlen, hleft, hge⟩ := hx1
    try clear hx1
    dsimp only [List.cons_append, List.nil_append] at *
    ((try dsimp only); repeat' (first | ((with_reducible first | refine nq_next ?_ | refine nq_ret ?_ | refine ng_next ?_ | refine ng_ret ?_ | refine nq_cont ?_ | refine nq_brk ?_ | refine ng_cont ?_ | refine ng_brk ?_); (try dsimp only)) | (k_unfold; (try dsimp only)) | walk1 | (dsimp only; walk1) | (leave1; walk_say "STEP leave1"; try dsimp only)))
    refine hret _ _ _ _ _ _ _ _ _ ⟨?_, ?_, ?_, ?_⟩ (by assumption) (by assumption) (drop2 (drop1 (drop1 (by assumption))))
    · simp only [List.mem_append, List.mem_singleton]
      rintro c (hc | rfl)
      · exact hlo c hc
      · omega
    · simp only [List.map_append, List.sum_append, List.map_cons, List.map_nil, List.sum_cons, List.sum_nil]; omega
    · simp only [List.length_append, List.length_cons, List.length_nil]; show _ ≤ 11; omega
    · have hk1 : 1 ≤ k := by omega
      intro c hc
      rcases List.mem_append.mp hc with hc | hc
      · have := mem_sum (List.mem_map.mpr ⟨c, hc, rfl⟩ : c.natAbs ∈ ns.map Int.natAbs)
        omega
      · obtain rfl := List.mem_singleton.mp hc
        omega
end Kcounts_
theorem counts_ {w : World} {mean : ExcName → Option Value} {mg : Str → Option Value} {mb : Str → Option Value} {dp : Nat} {un : Nat} {gd : Option (List Code)} {cn : Str} {cs : Scope} {a : Addr} {ccd : Value} {cl : List (Str × Addr)} {outer : List Env} {A₀ : Around} {base : Heap} {h₀ : Heap} {L : Addr} {m : Str → Option Value} {rest : List (Addr × Obj)} {s : Shared} {Q : Value → Shared → Prop} {E : Value → Shared → Prop} : counts_S w mean mg mb dp un gd cn cs a ccd cl outer A₀ base h₀ L m rest s Q E := pm_all (P := fun p => counts_S p.w p.mean p.mg p.mb p.dp p.un p.gd p.cn p.cs p.a p.ccd p.cl p.outer p.A₀ p.base p.h₀ p.L p.m p.rest p.s p.Q p.E) Kcounts_.walk { pmD with w := w, mean := mean, mg := mg, mb := mb, dp := dp, un := un, gd := gd, cn := cn, cs := cs, a := a, ccd := ccd, cl := cl, outer := outer, A₀ := A₀, base := base, h₀ := h₀, L := L, m := m, rest := rest, s := s, Q := Q, E := E }
end
section -- E12
theorem walk_off_E12 : True := by
  w_top off
  exact trivial
section
variable {w : World} {mean : ExcName → Option Value} {mg mb : Str → Option Value} {dp un : Nat} {gd : Option (List Code)} {cn : Str} {cs : Scope} {a : Addr} {ccd : Value} {cl : List (Str × Addr)} {outer : List Env} {A₀ : Around} {base h₀ : Heap} {L : Addr} {m : Str → Option Value} {rest news : List (Addr × Obj)} {s : Shared} {Q E : Value → Shared → Prop}
set_option maxRecDepth 100000 in
set_option maxHeartbeats 8000000 in
theorem high_bit_ {n : Int} {t : Tok}
   (C : Cx w mean mg mb dp un cs outer A₀ base h₀ L m s.heap 1) (N : News h₀ L s.heap news) (hn : 1 ≤ n) (hn2 : n ≤ 1000)
   (hret : ∀ (v : Int) t h' tk', v = (n.toNat.log2 : Nat) → Fr h₀ L h' m → News h₀ L h' news → Q (.int v t) { s with heap := h', toks := tk' }) :
   wpAny (model PySem.Challenge.rw_pq1208_01.row.prog w) (ktrTop dp un gd cn cs L a ccd cl outer) (call (.ref 274) [.int n t]) Q E s := by
  refine Cx.el C fun B F X T hk hd hu => ?_
  refine wpAny_call ?_
  k_dflt cell_enter
  ((try dsimp only); repeat' (first | ((with_reducible first | refine nq_next ?_ | refine nq_ret ?_ | refine ng_next ?_ | refine ng_ret ?_ | refine nq_cont ?_ | refine nq_brk ?_ | refine ng_cont ?_ | refine ng_brk ?_); (try dsimp only)) | (k_unfold; (try dsimp only)) | walk1 | (dsimp only; walk1) | (leave1; walk_say "STEP leave1"; try dsimp only)))
  have hb := intBits_log hn
  refine hret _ _ _ _ (by rw [← hb]; omega) (by assumption) (by assumption)
set_option maxRecDepth 100000 in
set_option maxHeartbeats 8000000 in
theorem places_ {n : Int} {t : Tok}
   (C : Cx w mean mg mb dp un cs outer A₀ base h₀ L m s.heap 1) (N : News h₀ L s.heap news) (hn : -1 ≤ n)
   (hret : ∀ (v : Int) t h' tk', v = (n.natAbs : Nat) → Fr h₀ L h' m → News h₀ L h' news → Q (.int v t) { s with heap := h', toks := tk' }) :
   wpAny (model PySem.Challenge.rw_pq1208_01.row.prog w) (ktrTop dp un gd cn cs L a ccd cl outer) (call (.ref 267) [.int n t]) Q E s := by
  refine Cx.el C fun B F X T hk hd hu => ?_
  refine wpAny_call ?_
  k_dflt cell_enter
  ((try dsimp only); repeat' (first | ((with_reducible first | refine nq_next ?_ | refine nq_ret ?_ | refine ng_next ?_ | refine ng_ret ?_ | refine nq_cont ?_ | refine nq_brk ?_ | refine ng_cont ?_ | refine ng_brk ?_); (try dsimp only)) | (k_unfold; (try dsimp only)) | walk1 | (dsimp only; walk1) | (leave1; walk_say "STEP leave1"; try dsimp only)))
  all_goals exact hret _ _ _ _ (by omega) (by assumption) (by assumption)
end
end
section -- E13
theorem walk_off_E13 : True := by
  w_top off
  exact trivial
section
variable {w : World} {mean : ExcName → Option Value} {mg mb : Str → Option Value} {dp un : Nat} {gd : Option (List Code)} {cn : Str} {cs : Scope} {a : Addr} {ccd : Value} {cl : List (Str × Addr)} {outer : List Env} {A₀ : Around} {base h₀ : Heap} {L : Addr} {m : Str → Option Value} {rest news : List (Addr × Obj)} {s : Shared} {Q E : Value → Shared → Prop}
theorem sum_abs : ∀ (ns : List Int), (ns.map fun c => (c.natAbs : Int)).sum = ((ns.map Int.natAbs).sum : Nat)
  | [] => rfl
  | c :: ns => by rw [List.map_cons, List.sum_cons, sum_abs ns, List.map_cons, List.sum_cons, Int.natCast_add]
theorem are_take {vs : List Value} {ns : List Int} (hi : IntsAre vs ns) (hlo : ∀ c ∈ ns, -1 ≤ c) {i : Nat} {v : Value} (h : vs.toArray[i]? = some v) : ∃ c t, v = Value.int c t ∧ -1 ≤ c ∧ ns[i]? = some c := by
  obtain ⟨c, t, rfl, hc⟩ := IntsAre.at hi i v (by simpa using h)
  exact ⟨c, t, rfl, hlo c (List.mem_of_getElem? hc), hc⟩
end
def fault_S (w : World) (mean : ExcName → Option Value) (mg : Str → Option Value) (mb : Str → Option Value) (dp : Nat) (un : Nat) (gd : Option (List Code)) (cn : Str) (cs : Scope) (a : Addr) (ccd : Value) (cl : List (Str × Addr)) (outer : List Env) (A₀ : Around) (base : Heap) (h₀ : Heap) (L : Addr) (m : Str → Option Value) (rest : List (Addr × Obj)) (s : Shared) (Q : Value → Shared → Prop) (E : Value → Shared → Prop) : Prop :=
  ∀ {l : Addr} {vs : List Value} {ns : List Int} {cap : Nat} {z : Nat} {lg : Int} {t : Tok} (C : Cx w mean mg mb dp un cs outer A₀ base h₀ L m s.heap 14) (N : News h₀ L s.heap ((l, lst vs cap) :: rest)) (ho : ∀ p ∈ rest, p.1 ≠ l) (hi : IntsAre vs ns) (hc : CountsOk ns z) (hl : lg = 5 ∨ lg = 6) (hz : (z : Int) = 2 ^ lg.toNat) (hret : ∀ h' tk', Fr h₀ L h' m → News h₀ L h' ((l, lst vs cap) :: rest) → Q .none { s with heap := h', toks := tk' }),
   wpAny (model PySem.Challenge.rw_pq1208_01.row.prog w) (ktrTop dp un gd cn cs L a ccd cl outer) (call (.ref 279) [.ref l, .int lg t]) Q E s
namespace Kfault_
noncomputable def pt : Pm := pmAt fun p => fault_S p.w p.mean p.mg p.mb p.dp p.un p.gd p.cn p.cs p.a p.ccd p.cl p.outer p.A₀ p.base p.h₀ p.L p.m p.rest p.s p.Q p.E
set_option maxRecDepth 100000 in
set_option maxHeartbeats 8000000 in
theorem walk : fault_S pt.w pt.mean pt.mg pt.mb pt.dp pt.un pt.gd pt.cn pt.cs pt.a pt.ccd pt.cl pt.outer pt.A₀ pt.base pt.h₀ pt.L pt.m pt.rest pt.s pt.Q pt.E := by
  unfold fault_S
  intro l vs ns cap z lg t C N ho hi hc hl hz hret
  refine Cx.el C fun B F X T hk hd hu => ?_
  have hlen : vs.length ≤ 11 := by rw [hi.length]; exact hc.len
  have hlo := hc.lo
  have l5 : 5 ≤ lg := by omega
  have l6 : lg ≤ 6 := by omega
  refine wpAny_call ?_
  k_dflt cell_enter
  ((try dsimp only); repeat' (first | ((with_reducible first | refine nq_next ?_ | refine nq_ret ?_ | refine ng_next ?_ | refine ng_ret ?_ | refine nq_cont ?_ | refine nq_brk ?_ | refine ng_cont ?_ | refine ng_brk ?_); (try dsimp only)) | (k_unfold; (try dsimp only)) | walk1 | (dsimp only; walk1) | (leave1; walk_say "STEP leave1"; try dsimp only)))
  refine Stop.go (LCt.ListComp_T (F₀ := by assumption) (by with_unfolding_all rfl) (by decide) (by rfl) (by decide) (by rfl) ?_)
  ((try dsimp only); repeat' (first | ((with_reducible first | refine nq_next ?_ | refine nq_ret ?_ | refine ng_next ?_ | refine ng_ret ?_ | refine nq_cont ?_ | refine nq_brk ?_ | refine ng_cont ?_ | refine ng_brk ?_); (try dsimp only)) | (k_unfold; (try dsimp only)) | walk1 | (dsimp only; walk1) | (leave1; walk_say "STEP leave1"; try dsimp only)))
  refine LCt.CompSrcT.ledger rfl (by assumption) (by assumption) (.head _) (by size_fits) (fun g => comp_restT (fun i ys => ys = []) (.inr ⟨_, .head _, rfl, _, rfl⟩) ?turn ?fin _ _ _ (Nat.add_zero _) rfl)
  case fin =>
    rintro ys rfl D h tk F N off
    ((try dsimp only); repeat' (first | ((with_reducible first | refine nq_next ?_ | refine nq_ret ?_ | refine ng_next ?_ | refine ng_ret ?_ | refine nq_cont ?_ | refine nq_brk ?_ | refine ng_cont ?_ | refine ng_brk ?_); (try dsimp only)) | (k_unfold; (try dsimp only)) | walk1 | (dsimp only; walk1) | (leave1; walk_say "STEP leave1"; try dsimp only)))
    refine Stop.go (LCg.ListComp_U (F₀ := by assumption) (by with_unfolding_all rfl) (by decide) (by rfl) (by decide) (by rfl) ?_)
    ((try dsimp only); repeat' (first | ((with_reducible first | refine nq_next ?_ | refine nq_ret ?_ | refine ng_next ?_ | refine ng_ret ?_ | refine nq_cont ?_ | refine nq_brk ?_ | refine ng_cont ?_ | refine ng_brk ?_); (try dsimp only)) | (k_unfold; (try dsimp only)) | walk1 | (dsimp only; walk1) | (leave1; walk_say "STEP leave1"; try dsimp only)))
    refine LCg.CompSrc.ledger rfl (by assumption) (by assumption) (.tail _ (.tail _ (.head _))) (by size_fits) (fun g => comp_rest (fun i ys => IntsAre ys ((ns.take i).map fun c => (c.natAbs : Int))) (.inr ⟨_, .tail _ (.tail _ (.head _)), rfl, _, rfl⟩) ?turn2 ?fin2 _ _ _ (Nat.add_zero _) IntsAre.nil)
    case fin2 =>
      intro ys hys D h tk F N off
      have hsz : vs.toArray.size = ns.length := by rw [List.size_toArray, hi.length]
      rw [hsz, List.take_length] at hys
      have hsum : (ns.map fun c => (c.natAbs : Int)).sum = 2 ^ lg.toNat := by rw [sum_abs, hc.sum, hz]
      ((try dsimp only); repeat' (first | ((with_reducible first | refine nq_next ?_ | refine nq_ret ?_ | refine ng_next ?_ | refine ng_ret ?_ | refine nq_cont ?_ | refine nq_brk ?_ | refine ng_cont ?_ | refine ng_brk ?_); (try dsimp only)) | (k_unfold; (try dsimp only)) | walk1 | (dsimp only; walk1) | (leave1; walk_say "STEP leave1"; try dsimp only)))
      exact hret _ _ (by assumption) (drop0 (drop0 (drop0 (by assumption))))
    case turn2 =>
      rintro i v ys I oI Cc oC D m₂ h tk E' hin hP hI hC hm F N off ne
      obtain ⟨c, hct, rfl, hcn, hci⟩ := are_take hi hlo hP
      ((try dsimp only); repeat' (first | ((with_reducible first | refine nq_next ?_ | refine nq_ret ?_ | refine ng_next ?_ | refine ng_ret ?_ | refine nq_cont ?_ | refine nq_brk ?_ | refine ng_cont ?_ | refine ng_brk ?_); (try dsimp only)) | (k_unfold; (try dsimp only)) | walk1 | (dsimp only; walk1) | (leave1; walk_say "STEP leave1"; try dsimp only)))
      refine Stop.go (places_ (by (exact ⟨by assumption, by assumption, by assumption, by assumption, rfl, by (first | omega | ((try simp only [depth_under_make, units_under_make, depth_in1, units_in1, depth_deeper, units_deeper]); (try dsimp only [ktrTop]); omega)), by (first | omega | ((try simp only [depth_under_make, units_under_make, depth_in1, units_in1, depth_deeper, units_deeper]); (try dsimp only [ktrTop]); omega))⟩)) (by assumption) hcn ?_)
      intro v t h₁ k₁ hv F₁ N₁
      ((try dsimp only); repeat' (first | ((with_reducible first | refine nq_next ?_ | refine nq_ret ?_ | refine ng_next ?_ | refine ng_ret ?_ | refine nq_cont ?_ | refine nq_brk ?_ | refine ng_cont ?_ | refine ng_brk ?_); (try dsimp only)) | (k_unfold; (try dsimp only)) | walk1 | (dsimp only; walk1) | (leave1; walk_say "STEP leave1"; try dsimp only)))
      refine CEnd.at (by assumption) (by assumption) ?_
      rw [List.take_add_one, hci, List.map_append, hv]
      exact hI.append (IntsAre.cons _ _ IntsAre.nil)
  case turn =>
    rintro i v ys I oI Cc oC D m₂ h tk E' hin hP rfl hC hm F N off ne
    obtain ⟨c, hct, rfl, hcn, hci⟩ := are_take hi hlo hP
    ((try dsimp only); repeat' (first | ((with_reducible first | refine nq_next ?_ | refine nq_ret ?_ | refine ng_next ?_ | refine ng_ret ?_ | refine nq_cont ?_ | refine nq_brk ?_ | refine ng_cont ?_ | refine ng_brk ?_); (try dsimp only)) | (k_unfold; (try dsimp only)) | walk1 | (dsimp only; walk1) | (leave1; walk_say "STEP leave1"; try dsimp only)))
    exact CEnd.at (by assumption) (by assumption) rfl
end Kfault_
theorem fault_ {w : World} {mean : ExcName → Option Value} {mg : Str → Option Value} {mb : Str → Option Value} {dp : Nat} {un : Nat} {gd : Option (List Code)} {cn : Str} {cs : Scope} {a : Addr} {ccd : Value} {cl : List (Str × Addr)} {outer : List Env} {A₀ : Around} {base : Heap} {h₀ : Heap} {L : Addr} {m : Str → Option Value} {rest : List (Addr × Obj)} {s : Shared} {Q : Value → Shared → Prop} {E : Value → Shared → Prop} : fault_S w mean mg mb dp un gd cn cs a ccd cl outer A₀ base h₀ L m rest s Q E := pm_all (P := fun p => fault_S p.w p.mean p.mg p.mb p.dp p.un p.gd p.cn p.cs p.a p.ccd p.cl p.outer p.A₀ p.base p.h₀ p.L p.m p.rest p.s p.Q p.E) Kfault_.walk { pmD with w := w, mean := mean, mg := mg, mb := mb, dp := dp, un := un, gd := gd, cn := cn, cs := cs, a := a, ccd := ccd, cl := cl, outer := outer, A₀ := A₀, base := base, h₀ := h₀, L := L, m := m, rest := rest, s := s, Q := Q, E := E }
end
section -- E14
theorem walk_off_E14 : True := by
  w_top off
  exact trivial
section
variable {w : World} {mean : ExcName → Option Value} {mg mb : Str → Option Value} {dp un : Nat} {gd : Option (List Code)} {cn : Str} {cs : Scope} {a : Addr} {ccd : Value} {cl : List (Str × Addr)} {outer : List Env} {A₀ : Around} {base h₀ : Heap} {L : Addr} {m : Str → Option Value} {rest news : List (Addr × Obj)} {s : Shared} {Q E : Value → Shared → Prop}
theorem off1_mem {D : Addr} : ∀ {l : List (Addr × Obj)}, LCg.Off1 D l → ∀ p ∈ l, p.1 ≠ D
  | [], _, p, h => nomatch h
  | _ :: _, x, p, h => by
    rcases List.mem_cons.mp h with rfl | h
    · exact x.1
    · exact off1_mem x.2 p h
structure Sp1 where
  vs : List Value
  sy : List Nat
  k : Nat
  hi : Int
  th : Tok
structure Sp1I (ns : List Int) (z i : Nat) (c : Sp1) : Prop where
  are : IntsAre c.vs (up c.sy)
  hg : Hg ns z i c.sy c.k
  hi : c.hi = (z : Int) - 1 - c.k
structure Sp2 where
  vs : List Value
  sy : List Nat
  st : Nat
  ts : Tok
structure Sp2I (ns : List Int) (z K i t : Nat) (c : Sp2) : Prop where
  are : IntsAre c.vs (up c.sy)
  pl : Pl ns z K i t c.sy c.st
structure Sp3 where
  st : Nat
  ts : Tok
  f : Nat
theorem CountsOk.pos {ns : List Int} {z : Nat} (h : CountsOk ns z) (hz : 0 < z) : 0 < ns.length := by
  cases ns with
  | nil => have := h.sum; simp at this; omega
  | cons c ns => simp
theorem and_zm {z a b : Nat} (h : z = 32 ∨ z = 64) : Builtin.bitAnd ((a : Int) + (b : Int)) ((z : Int) - 1) = (((a + b) % z : Nat) : Int) := by
  rcases h with rfl | rfl
  · exact (and_mask (x := (a : Int) + b) 5 (by omega)).trans (by omega)
  · exact (and_mask (x := (a : Int) + b) 6 (by omega)).trans (by omega)
theorem stp_eq {z : Nat} : (z : Int).fdiv (2 ^ Int.toNat 1) + (z : Int).fdiv (2 ^ Int.toNat 3) + 3 = ((stp z : Nat) : Int) := by
  rw [fdiv_pow, fdiv_pow]
  show (z : Int) / 2 + (z : Int) / 8 + 3 = ((z / 2 + z / 8 + 3 : Nat) : Int)
  omega
theorem Hg.len {ns : List Int} {z i k : Nat} {sy : List Nat} (h : Hg ns z i sy k) : sy.length = z := by obtain ⟨⟨V, _, _, hv⟩, _⟩ := h; exact hv.len
theorem Pl.len {ns : List Int} {z K i t st : Nat} {sy : List Nat} (h : Pl ns z K i t sy st) : sy.length = z := by obtain ⟨⟨V, _, _, hv⟩, _⟩ := h; exact hv.len
end
def spread_S (w : World) (mean : ExcName → Option Value) (mg : Str → Option Value) (mb : Str → Option Value) (dp : Nat) (un : Nat) (gd : Option (List Code)) (cn : Str) (cs : Scope) (a : Addr) (ccd : Value) (cl : List (Str × Addr)) (outer : List Env) (A₀ : Around) (base : Heap) (h₀ : Heap) (L : Addr) (m : Str → Option Value) (rest : List (Addr × Obj)) (s : Shared) (Q : Value → Shared → Prop) (E : Value → Shared → Prop) : Prop :=
  ∀ {l : Addr} {vs : List Value} {ns : List Int} {cap : Nat} {z : Nat} {lg : Int} {t : Tok} (C : Cx w mean mg mb dp un cs outer A₀ base h₀ L m s.heap 16) (N : News h₀ L s.heap ((l, lst vs cap) :: rest)) (ho : ∀ p ∈ rest, p.1 ≠ l) (hi : IntsAre vs ns) (hc : CountsOk ns z) (hl : lg = 5 ∨ lg = 6) (hz : (z : Int) = 2 ^ lg.toNat) (hret : ∀ D us sy cap' h' tk', IntsAre us (up sy) → SprOk ns z sy → (∀ p ∈ (l, lst vs cap) :: rest, p.1 ≠ D) → Fr h₀ L h' m → News h₀ L h' ((D, lst us cap') :: (l, lst vs cap) :: rest) → Q (.ref D) { s with heap := h', toks := tk' }),
   wpAny (model PySem.Challenge.rw_pq1208_01.row.prog w) (ktrTop dp un gd cn cs L a ccd cl outer) (call (.ref 284) [.ref l, .int lg t]) Q E s
namespace Kspread_
noncomputable def pt : Pm := pmAt fun p => spread_S p.w p.mean p.mg p.mb p.dp p.un p.gd p.cn p.cs p.a p.ccd p.cl p.outer p.A₀ p.base p.h₀ p.L p.m p.rest p.s p.Q p.E
noncomputable def a : Addr := pt.a
noncomputable def rest : List (Addr × Obj) := pt.rest
set_option maxRecDepth 100000 in
set_option maxHeartbeats 8000000 in
theorem walk : spread_S pt.w pt.mean pt.mg pt.mb pt.dp pt.un pt.gd pt.cn pt.cs a pt.ccd pt.cl pt.outer pt.A₀ pt.base pt.h₀ pt.L pt.m rest pt.s pt.Q pt.E := by
  unfold spread_S
  intro l vs ns cap z lg t C N ho hi hc hl hz hret
  refine Cx.el C fun B F X T hk hd hu => ?_
  have hlen : vs.length ≤ 11 := by rw [hi.length]; exact hc.len
  have l5 : 5 ≤ lg := by omega
  have l6 : lg ≤ 6 := by omega
  have z1 : z = 32 ∨ z = 64 := by rcases hl with rfl | rfl <;> (have : (z : Int) = _ := hz; simp at this; omega)
  refine wpAny_call ?_
  k_dflt cell_enter
  ((try dsimp only); repeat' (first | ((with_reducible first | refine nq_next ?_ | refine nq_ret ?_ | refine ng_next ?_ | refine ng_ret ?_ | refine nq_cont ?_ | refine nq_brk ?_ | refine ng_cont ?_ | refine ng_brk ?_); (try dsimp only)) | (k_unfold; (try dsimp only)) | walk1 | (dsimp only; walk1) | (leave1; walk_say "STEP leave1"; try dsimp only)))
  refine Stop.go (fault_ (by (exact ⟨by assumption, by assumption, by assumption, by assumption, rfl, by (first | omega | ((try simp only [depth_under_make, units_under_make, depth_in1, units_in1, depth_deeper, units_deeper]); (try dsimp only [ktrTop]); omega)), by (first | omega | ((try simp only [depth_under_make, units_under_make, depth_in1, units_in1, depth_deeper, units_deeper]); (try dsimp only [ktrTop]); omega))⟩)) (by assumption) ho hi hc hl hz ?_)
  intro h₁ k₁ F₁ N₁
  ((try dsimp only); repeat' (first | ((with_reducible first | refine nq_next ?_ | refine nq_ret ?_ | refine ng_next ?_ | refine ng_ret ?_ | refine nq_cont ?_ | refine nq_brk ?_ | refine ng_cont ?_ | refine ng_brk ?_); (try dsimp only)) | (k_unfold; (try dsimp only)) | walk1 | (dsimp only; walk1) | (leave1; walk_say "STEP leave1"; try dsimp only)))
  have e1 : (1 : Int) * 2 ^ lg.toNat = (z : Int) := by rw [hz, Int.one_mul]
  simp only [e1] at *
  refine Stop.go (LCg.ListComp_U (F₀ := by assumption) (by with_unfolding_all rfl) (by decide) (by rfl) (by decide) (by rfl) ?_)
  ((try dsimp only); repeat' (first | ((with_reducible first | refine nq_next ?_ | refine nq_ret ?_ | refine ng_next ?_ | refine ng_ret ?_ | refine nq_cont ?_ | refine nq_brk ?_ | refine ng_cont ?_ | refine ng_brk ?_); (try dsimp only)) | (k_unfold; (try dsimp only)) | walk1 | (dsimp only; walk1) | (leave1; walk_say "STEP leave1"; try dsimp only)))
  refine Stop.go (rg1 (by assumption) (by assumption) ?_)
  intro r h₂ tk₂ a₂ b₂ c₂ IR F₂ N₂
  dsimp only
  refine LCg.CompSrc.range (n := z) rfl (by assumption) (by assumption) IR ?sm ?sz (by rw [sizeLine_eq]; omega) (fun g => comp_rest (fun i ys => ys.length = i ∧ IntsAre ys (up (List.replicate i 0))) trivial ?turn ?fin _ _ _ (Nat.add_zero _) ⟨rfl, IntsAre.nil⟩)
  case sm => exact rsm (by omega)
  case sz => exact rsz
  case turn =>
    rintro i v ys I oI Cc oC D m₂ h tk E' hin hP hx1 hC hm F N off ne
    first | refine el2 hx1 fun hI0 hI => ?_ | obtain ⟨hI0, hI⟩ := hx1
    try clear hx1
    ((try dsimp only); repeat' (first | ((with_reducible first | refine nq_next ?_ | refine nq_ret ?_ | refine ng_next ?_ | refine ng_ret ?_ | refine nq_cont ?_ | refine nq_brk ?_ | refine ng_cont ?_ | refine ng_brk ?_); (try dsimp only)) | (k_unfold; (try dsimp only)) | walk1 | (dsimp only; walk1) | (leave1; walk_say "STEP leave1"; try dsimp only)))
    refine CEnd.at (by assumption) (by assumption) ⟨by simp [hI0], ?_⟩
    rw [List.replicate_succ']
    unfold up
    rw [List.map_append]
    exact hI.append (IntsAre.cons _ _ IntsAre.nil)
  case fin =>
    rintro ys hx1 D h tk F N off
    first | refine el2 hx1 fun hyl hys => ?_ | obtain ⟨hyl, hys⟩ := hx1
    try clear hx1
    first | refine el2 (off) fun oD1 oD => ?_ | obtain ⟨oD1, oD⟩ := off
    have oD2 := off1_mem oD
    have oD3 : ∀ p ∈ (l, lst vs cap) :: rest, p.1 ≠ D := List.forall_mem_cons.mpr ⟨oD1, oD2⟩
    ((try dsimp only); repeat' (first | ((with_reducible first | refine nq_next ?_ | refine nq_ret ?_ | refine ng_next ?_ | refine ng_ret ?_ | refine nq_cont ?_ | refine nq_brk ?_ | refine ng_cont ?_ | refine ng_brk ?_); (try dsimp only)) | (k_unfold; (try dsimp only)) | walk1 | (dsimp only; walk1) | (leave1; walk_say "STEP leave1"; try dsimp only)))
    have N₃ := drop0 (by assumption)
    refine' Stop.go (it_enum (σ := Sp1) (vs := vs) (fun c => [(D, lst c.vs ys.length)]) [D] ((l, lst vs cap) :: rest) (fun c => [(Str.ofString "high", .int c.hi c.th)]) [Str.ofString "symbol", Str.ofString "count"] (Sp1I ns z) ⟨ys, List.replicate z 0, 0, (z : Int) - 1, _⟩
      rfl ?isl ?ne1 ?ne2 (fun _ => rfl) (by decide) (by decide) ?off (by assumption) N₃ ?ps ?hi ?turn ?done)
    case isl => exact ⟨_, (N₃ _ (.tail _ (.head _))).1, rfl, _, rfl⟩
    case ne1 => exact (N₃ _ (.tail _ (.head _))).2.1
    case ne2 => simpa using oD1
    case off => (((repeat' (first | assumption | exact List.forall_mem_nil _ | exact off_nil | refine off_snoc ?_ ?_ | refine List.forall_mem_cons.mpr ⟨?_, ?_⟩)) <;> (try dsimp only) <;> first | assumption | exact Nat.ne_of_lt (by assumption) | exact Nat.ne_of_gt (by assumption) | exact Nat.ne_of_gt (by omega) | exact Nat.ne_of_lt (by omega) | exact allLt_ne (by assumption) | exact allLt_ne (rt1 (by assumption)) | exact allLt_ne (rt2 (by assumption)) | exact allLt_ne (rt3 (by assumption)) | exact allLt_ne (rt4 (by assumption)) | exact allLt_ne (rt5 (by assumption)) | exact fun p hp => Nat.ne_of_lt (‹∀ p ∈ _, p.1 < _› p hp) | exact fun p hp => Nat.ne_of_lt (Nat.lt_trans (‹∀ p ∈ _, p.1 < _› p hp) (by omega)) | exact allLt_ne2 (by assumption) (by omega) | exact allLt_ne2 (rt1 (by assumption)) (by omega) | exact allLt_ne2 (rt2 (by assumption)) (by omega) | exact allLt_ne2 (rt3 (by assumption)) (by omega)))
    case ps => ((repeat' (first | exact List.forall_mem_nil _ | refine List.forall_mem_cons.mpr ⟨by with_unfolding_all rfl, ?_⟩)))
    case hi => exact ⟨hys, hg_start (hc.pos (by omega)), by simp⟩
    case turn =>
      rintro i v t ⟨us, sy, k, hgh, th⟩ u h tk rest' hin hv hx1 hoff' hsub' F N
      first | refine el3 hx1 fun hare hg hhi => ?_ | obtain ⟨hare, hg, hhi⟩ := hx1
      try clear hx1
      obtain ⟨c, hct, rfl, hcn, hci⟩ := are_take hi hc.lo (by simpa using hv)
      first | refine el2 (off_cons hoff') fun o1 _ => ?_ | obtain ⟨o1, -⟩ := off_cons hoff'
      have hk1 := hg.k
      have hk2 := km_le ns i
      have hsl := hg.len
      have hul : (up sy).length = z := by rw [up_len, hsl]
      dsimp only [List.cons_append, List.nil_append] at *
      ((try dsimp only); repeat' (first | ((with_reducible first | refine nq_next ?_ | refine nq_ret ?_ | refine ng_next ?_ | refine ng_ret ?_ | refine nq_cont ?_ | refine nq_brk ?_ | refine ng_cont ?_ | refine ng_brk ?_); (try dsimp only)) | (k_unfold; (try dsimp only)) | walk1 | (dsimp only; walk1) | (leave1; walk_say "STEP leave1"; try dsimp only)))
      · obtain rfl : c = -1 := by assumption
        refine FEnd.at ⟨us.set (Int.toNat hgh) (.int (i : Int) t), sy.set (z - 1 - k) i, k + 1, hgh - 1, _⟩ (by assumption) (by assumption) (by ((repeat' (first | exact List.forall_mem_nil _ | refine List.forall_mem_cons.mpr ⟨by with_unfolding_all rfl, ?_⟩)))) (by (((repeat (first | (with_reducible exact fun _ _ _ => rfl) | ((with_reducible refine same_lay ?nz5 ?_); (case nz5 => rfl)) | ((with_reducible refine same_kst ?nz5 ?_); (case nz5 => rfl)))); done))) ⟨?_, hg_neg hg hci (by omega), by show hgh - 1 = (z : Int) - 1 - ((k + 1 : Nat) : Int); omega⟩
        have := ints_set (x := (i : Int)) (u := t) hare hgh.toNat
        rw [up_set, show hgh.toNat = z - 1 - k by omega] at this
        rw [show hgh.toNat = z - 1 - k by omega]
        exact this
      · refine FEnd.at ⟨us, sy, k, hgh, th⟩ (by assumption) (by assumption) (by ((repeat' (first | exact List.forall_mem_nil _ | refine List.forall_mem_cons.mpr ⟨by with_unfolding_all rfl, ?_⟩)))) (by (((repeat (first | (with_reducible exact fun _ _ _ => rfl) | ((with_reducible refine same_lay ?nz6 ?_); (case nz6 => rfl)) | ((with_reducible refine same_kst ?nz6 ?_); (case nz6 => rfl)))); done))) ⟨hare, hg_pos hg hci (by assumption), hhi⟩
    case done =>
      rintro ⟨us, sy, k, hgh, th⟩ u h tk hx1 F N
      first | refine el3 hx1 fun hare hg hhi => ?_ | obtain ⟨hare, hg, hhi⟩ := hx1
      try clear hx1
      dsimp only [List.cons_append, List.nil_append] at *
      rw [hi.length] at hg
      have hk1 := hg.k
      have hk2 := km_le ns ns.length
      have hk3 : k < 12 := by have := hc.len; omega
      have O := orb_ok z1 hk3
      have hkz : k + (ns.map Int.toNat).sum = z := by rw [hk1, km_all, km_ps hc.lo, hc.sum]
      ((try dsimp only); repeat' (first | ((with_reducible first | refine nq_next ?_ | refine nq_ret ?_ | refine ng_next ?_ | refine ng_ret ?_ | refine nq_cont ?_ | refine nq_brk ?_ | refine ng_cont ?_ | refine ng_brk ?_); (try dsimp only)) | (k_unfold; (try dsimp only)) | walk1 | (dsimp only; walk1) | (leave1; walk_say "STEP leave1"; try dsimp only)))
      have e2 := stp_eq (z := z)
      simp only [e2] at *
      have N₃ := drop0 (by assumption)
      refine' Stop.go (it_enum (σ := Sp2) (vs := vs) (fun c => [(D, lst c.vs ys.length)]) [D] ((l, lst vs cap) :: rest) (fun c => [(Str.ofString "state", .int (c.st : Int) c.ts)]) [Str.ofString "symbol", Str.ofString "count", Str.ofString "turn"] (fun i => Sp2I ns z k i 0) ⟨us, sy, 0, _⟩
        rfl ?isl ?ne1 ?ne2 (fun _ => rfl) (by decide) (by decide) ?off (by assumption) N₃ ?ps ?hi ?turn ?done)
      case isl => exact ⟨_, (N₃ _ (.tail _ (.head _))).1, rfl, _, rfl⟩
      case ne1 => exact (N₃ _ (.tail _ (.head _))).2.1
      case ne2 => simpa using oD1
      case off => (((repeat' (first | assumption | exact List.forall_mem_nil _ | exact off_nil | refine off_snoc ?_ ?_ | refine List.forall_mem_cons.mpr ⟨?_, ?_⟩)) <;> (try dsimp only) <;> first | assumption | exact Nat.ne_of_lt (by assumption) | exact Nat.ne_of_gt (by assumption) | exact Nat.ne_of_gt (by omega) | exact Nat.ne_of_lt (by omega) | exact allLt_ne (by assumption) | exact allLt_ne (rt1 (by assumption)) | exact allLt_ne (rt2 (by assumption)) | exact allLt_ne (rt3 (by assumption)) | exact allLt_ne (rt4 (by assumption)) | exact allLt_ne (rt5 (by assumption)) | exact fun p hp => Nat.ne_of_lt (‹∀ p ∈ _, p.1 < _› p hp) | exact fun p hp => Nat.ne_of_lt (Nat.lt_trans (‹∀ p ∈ _, p.1 < _› p hp) (by omega)) | exact allLt_ne2 (by assumption) (by omega) | exact allLt_ne2 (rt1 (by assumption)) (by omega) | exact allLt_ne2 (rt2 (by assumption)) (by omega) | exact allLt_ne2 (rt3 (by assumption)) (by omega)))
      case ps => ((repeat' (first | exact List.forall_mem_nil _ | refine List.forall_mem_cons.mpr ⟨by with_unfolding_all rfl, ?_⟩)))
      case hi => exact ⟨hare, pl_start hg⟩
      case turn =>
        rintro i v t ⟨us, sy, st, ts⟩ u h tk rest' hin hv hx1 hoff' hsub' F N
        first | refine el2 hx1 fun hare hpl => ?_ | obtain ⟨hare, hpl⟩ := hx1
        try clear hx1
        obtain ⟨c, hct, rfl, hcn, hci⟩ := are_take hi hc.lo (by simpa using hv)
        first | refine el2 (off_cons hoff') fun o1 _ => ?_ | obtain ⟨o1, -⟩ := off_cons hoff'
        dsimp only [List.cons_append, List.nil_append] at *
        ((try dsimp only); repeat' (first | ((with_reducible first | refine nq_next ?_ | refine nq_ret ?_ | refine ng_next ?_ | refine ng_ret ?_ | refine nq_cont ?_ | refine nq_brk ?_ | refine ng_cont ?_ | refine ng_brk ?_); (try dsimp only)) | (k_unfold; (try dsimp only)) | walk1 | (dsimp only; walk1) | (leave1; walk_say "STEP leave1"; try dsimp only)))
        have hcz : c.toNat ≤ z := by have h1 := ps_succ hci; have h2 := ps_le (ns := ns) (i + 1); omega
        refine Stop.go (rg1 (by assumption) (by assumption) ?_)
        intro r h₂ tk₂ a₂ b₂ c₂ IR F₂ N₂
        ((try dsimp only); repeat' (first | ((with_reducible first | refine nq_next ?_ | refine nq_ret ?_ | refine ng_next ?_ | refine ng_ret ?_ | refine nq_cont ?_ | refine nq_brk ?_ | refine ng_cont ?_ | refine ng_brk ?_); (try dsimp only)) | (k_unfold; (try dsimp only)) | walk1 | (dsimp only; walk1) | (leave1; walk_say "STEP leave1"; try dsimp only)))
        refine Stop.go ?_
        refine' it_range (σ := Sp2) (n := c.toNat) (fun c => [(D, lst c.vs ys.length)]) [D] rest' (fun c => [(Str.ofString "state", .int (c.st : Int) c.ts)]) [Str.ofString "turn"] (fun t => Sp2I ns z k i t) ⟨us, sy, st, ts⟩
          rfl IR ?small ?size (fun _ => rfl) (by decide) hoff' (by assumption) N₂ ?ps2 ?hi2 ?turn2 ?done2
        case small => exact rsmI (Int.le_refl 0) (by decide) (Int.le_trans (by decide) hcn) (Int.le_trans (Int.self_le_toNat c) (Int.ofNat_le.mpr (Nat.le_trans hcz (by omega))))
        case size => exact rszI
        case ps2 => ((repeat' (first | exact List.forall_mem_nil _ | refine List.forall_mem_cons.mpr ⟨by with_unfolding_all rfl, ?_⟩)))
        case hi2 => exact ⟨hare, hpl⟩
        case turn2 =>
          rintro q t₁ ⟨us, sy, st, ts⟩ u h tk rest'' hq hx1 hoff'' hsub'' F N
          first | refine el2 hx1 fun hare hpl => ?_ | obtain ⟨hare, hpl⟩ := hx1
          try clear hx1
          dsimp only [List.cons_append, List.nil_append] at *
          first | refine el2 (off_cons hoff'') fun o1 _ => ?_ | obtain ⟨o1, -⟩ := off_cons hoff''
          have hsl := hpl.len
          have hul : (up sy).length = z := by rw [up_len, hsl]
          first | refine el4 (pl_turn hpl O hkz hci (by omega)) fun p1 p2 p3 p4 => ?_ | obtain ⟨p1, p2, p3, p4⟩ := pl_turn hpl O hkz hci (by omega)
          generalize itr z (z - 1 - k) (ps ns i + (q + 1)) = T' at *
          have p1' := ((st : Nat) : Int).toNat
          have hset := ints_set (x := (i : Int)) (u := t) hare st
          rw [up_set] at hset
          ((try dsimp only); repeat' (first | ((with_reducible first | refine nq_next ?_ | refine nq_ret ?_ | refine ng_next ?_ | refine ng_ret ?_ | refine nq_cont ?_ | refine nq_brk ?_ | refine ng_cont ?_ | refine ng_brk ?_); (try dsimp only)) | (k_unfold; (try dsimp only)) | walk1 | (dsimp only; walk1) | (leave1; walk_say "STEP leave1"; try dsimp only)))
          have e3 := and_zm (a := st) (b := stp z) z1
          simp only [e3] at *
          refine Stop.go ?_
          refine' while_inv (σ := Sp3) (fun _ => []) _ (fun c => [(Str.ofString "state", .int (c.st : Int) c.ts)]) [] (fun c => skipF z (z - 1 - k) c.f c.st = some T' ∧ c.st < z) (fun c => c.f) ⟨(st + stp z) % z, _, 12⟩ (by assumption) (by assumption) ?ps3 ?hi3 ?turn3
          case ps3 => ((repeat' (first | exact List.forall_mem_nil _ | refine List.forall_mem_cons.mpr ⟨by with_unfolding_all rfl, ?_⟩)))
          case hi3 => exact ⟨p3, Nat.mod_lt _ (by omega)⟩
          case turn3 =>
            rintro ⟨st, ts, f⟩ u h tk hx1 F N
            first | refine el2 hx1 fun hf hs => ?_ | obtain ⟨hf, hs⟩ := hx1
            try clear hx1
            dsimp only [List.cons_append, List.nil_append] at *
            ((try dsimp only); repeat' (first | ((with_reducible first | refine nq_next ?_ | refine nq_ret ?_ | refine ng_next ?_ | refine ng_ret ?_ | refine nq_cont ?_ | refine nq_brk ?_ | refine ng_cont ?_ | refine ng_brk ?_); (try dsimp only)) | (k_unfold; (try dsimp only)) | walk1 | (dsimp only; walk1) | (leave1; walk_say "STEP leave1"; try dsimp only)))
            · obtain ⟨f', rfl, hf'⟩ := skip_gt hf (by omega)
              have e4 := and_zm (a := st) (b := stp z) z1
              simp only [e4] at *
              refine FEnd.at ⟨(st + stp z) % z, _, f'⟩ (by assumption) (by assumption) (by ((repeat' (first | exact List.forall_mem_nil _ | refine List.forall_mem_cons.mpr ⟨by with_unfolding_all rfl, ?_⟩)))) (by (((repeat (first | (with_reducible exact fun _ _ _ => rfl) | ((with_reducible refine same_lay ?nz7 ?_); (case nz7 => rfl)) | ((with_reducible refine same_kst ?nz7 ?_); (case nz7 => rfl)))); done))) ⟨⟨hf', Nat.mod_lt _ (by omega)⟩, Nat.lt_succ_self _⟩
            · obtain rfl := skip_le hf (by omega)
              refine FEnd.at ⟨_, _, st, _⟩ (by assumption) (by assumption) (by ((repeat' (first | exact List.forall_mem_nil _ | refine List.forall_mem_cons.mpr ⟨by with_unfolding_all rfl, ?_⟩)))) (by (((repeat (first | (with_reducible exact fun _ _ _ => rfl) | ((with_reducible refine same_lay ?nz8 ?_); (case nz8 => rfl)) | ((with_reducible refine same_kst ?nz8 ?_); (case nz8 => rfl)))); done))) ⟨hset, p4⟩
        case done2 =>
          rintro ⟨us, sy, st, ts⟩ u h tk hx1 F N
          first | refine el2 hx1 fun hare hpl => ?_ | obtain ⟨hare, hpl⟩ := hx1
          try clear hx1
          dsimp only [List.cons_append, List.nil_append] at *
          ((try dsimp only); repeat' (first | ((with_reducible first | refine nq_next ?_ | refine nq_ret ?_ | refine ng_next ?_ | refine ng_ret ?_ | refine nq_cont ?_ | refine nq_brk ?_ | refine ng_cont ?_ | refine ng_brk ?_); (try dsimp only)) | (k_unfold; (try dsimp only)) | walk1 | (dsimp only; walk1) | (leave1; walk_say "STEP leave1"; try dsimp only)))
          refine FEnd.at ⟨us, sy, st, ts⟩ (by assumption) (by assumption) (by ((repeat' (first | exact List.forall_mem_nil _ | refine List.forall_mem_cons.mpr ⟨by with_unfolding_all rfl, ?_⟩)))) (by (((repeat (first | (with_reducible exact fun _ _ _ => rfl) | ((with_reducible refine same_lay ?nz9 ?_); (case nz9 => rfl)) | ((with_reducible refine same_kst ?nz9 ?_); (case nz9 => rfl)))); done))) ⟨hare, pl_next hpl hci⟩
      case done =>
        rintro ⟨us, sy, st, ts⟩ u h tk hx1 F N
        first | refine el2 hx1 fun hare hpl => ?_ | obtain ⟨hare, hpl⟩ := hx1
        try clear hx1
        dsimp only [List.cons_append, List.nil_append] at *
        rw [hi.length] at hpl
        ((try dsimp only); repeat' (first | ((with_reducible first | refine nq_next ?_ | refine nq_ret ?_ | refine ng_next ?_ | refine ng_ret ?_ | refine nq_cont ?_ | refine nq_brk ?_ | refine ng_cont ?_ | refine ng_brk ?_); (try dsimp only)) | (k_unfold; (try dsimp only)) | walk1 | (dsimp only; walk1) | (leave1; walk_say "STEP leave1"; try dsimp only)))
        exact hret D us sy _ _ _ hare (pl_end hpl hkz hc.lo) oD3 (by assumption) (by assumption)
end Kspread_
theorem spread_ {w : World} {mean : ExcName → Option Value} {mg : Str → Option Value} {mb : Str → Option Value} {dp : Nat} {un : Nat} {gd : Option (List Code)} {cn : Str} {cs : Scope} {a : Addr} {ccd : Value} {cl : List (Str × Addr)} {outer : List Env} {A₀ : Around} {base : Heap} {h₀ : Heap} {L : Addr} {m : Str → Option Value} {rest : List (Addr × Obj)} {s : Shared} {Q : Value → Shared → Prop} {E : Value → Shared → Prop} : spread_S w mean mg mb dp un gd cn cs a ccd cl outer A₀ base h₀ L m rest s Q E := pm_all (P := fun p => spread_S p.w p.mean p.mg p.mb p.dp p.un p.gd p.cn p.cs p.a p.ccd p.cl p.outer p.A₀ p.base p.h₀ p.L p.m p.rest p.s p.Q p.E) Kspread_.walk { pmD with w := w, mean := mean, mg := mg, mb := mb, dp := dp, un := un, gd := gd, cn := cn, cs := cs, a := a, ccd := ccd, cl := cl, outer := outer, A₀ := A₀, base := base, h₀ := h₀, L := L, m := m, rest := rest, s := s, Q := Q, E := E }
end
section -- E16
theorem walk_off_E16 : True := by
  w_top off
  exact trivial
local macro_rules | `(tactic| walk_at "subscriptTail") => `(tactic| ((with_reducible show wpAny _ _ (subscriptTail _ _ (Value.ref _) (Value.int _ _)) _ _ _); refine stop_of ?_))
section
variable {w : World} {mean : ExcName → Option Value} {mg mb : Str → Option Value} {dp un : Nat} {gd : Option (List Code)} {cn : Str} {cs : Scope} {a : Addr} {ccd : Value} {cl : List (Str × Addr)} {outer : List Env} {A₀ : Around} {base h₀ : Heap} {L : Addr} {m : Str → Option Value} {rest news : List (Addr × Obj)} {s : Shared} {Q E : Value → Shared → Prop}
theorem wfd {st z b : Nat} : ((st : Int) + ((z : Nat) : Int)).fdiv (2 ^ (b : Int).toNat) = (((st + z) / 2 ^ b : Nat) : Int) := by
  rw [fdiv_pow, Int.toNat_natCast, two_pow_cast, ← Int.natCast_add, ← Int.natCast_ediv]
theorem step_fl {n w b : Nat} (hn : 1 ≤ n) (h : 2 * n ≤ w / 2 ^ b) : b + 1 ≤ fl n w := by
  refine le_fl hn ?_
  have := (Nat.le_div_iff_mul_le (Nat.two_pow_pos b)).mp h
  rw [Nat.pow_succ]; rw [Nat.mul_comm 2 n, Nat.mul_assoc, Nat.mul_comm 2] at this; exact this
theorem stop_fl {n w b : Nat} (hn : 1 ≤ n) (h : b ≤ fl n w) (h2 : w / 2 ^ b < 2 * n) : fl n w = b := by
  by_cases hw : n ≤ w
  · have h1 := fl_le (z := w) hn hw
    have h3 := Nat.mul_le_mul_left n (Nat.pow_le_pow_right (by decide : 0 < 2) h)
    exact fl_div hn ((Nat.le_div_iff_mul_le (Nat.two_pow_pos b)).mpr (by omega)) h2
  · have : fl n w = 0 := by unfold fl; rw [Nat.div_eq_of_lt (by omega)]; rfl
    omega
structure Wb where
  b : Nat
  tb : Tok
set_option maxRecDepth 100000 in
set_option maxHeartbeats 8000000 in
theorem has_ {ns : List Int} {lg : Nat} {sy : List Nat} {o : TBo} {r : Nat} {t : Tok}
   (C : Cx w mean mg mb dp un cs outer A₀ base h₀ L m s.heap 12) (N : News h₀ L s.heap news) (T : TabIn w ns lg sy o news) (hr : 1 ≤ (ns.getD r 0).natAbs) (hn : ns.length ≤ 11)
   (hret : ∀ h' tk', Fr h₀ L h' m → News h₀ L h' news → Q (.bool true) { s with heap := h', toks := tk' }) :
   wpAny (model PySem.Challenge.rw_pq1208_01.row.prog w) (ktrTop dp un gd cn cs L a ccd cl outer) (call (.ref 303) [.ref o.x, .int (r : Int) t]) Q E s := by
  refine Cx.el C fun B F X Tp hk hd hu => ?_
  have hrl := lt_of_many hr
  first | refine el6 (T.sgt hrl) fun ai iv ic g1 g2 g3 => ?_ | obtain ⟨ai, iv, ic, g1, g2, g3⟩ := T.sgt hrl
  have hln := T.tb.cnt r
  have hul : (up (sts sy r)).length = (ns.getD r 0).natAbs := by rw [up_len, hln]
  have N₁ := News.put N (News.put N (News.put N (News.put N N g2) T.lss) T.dx) T.x
  have hil : (o.ins.map Value.ref).length = ns.length := by rw [List.length_map, T.ins]
  clear N
  refine wpAny_call ?_
  k_dflt cell_enter
  ((try dsimp only); repeat' (first | ((with_reducible first | refine nq_next ?_ | refine nq_ret ?_ | refine ng_next ?_ | refine ng_ret ?_ | refine nq_cont ?_ | refine nq_brk ?_ | refine ng_cont ?_ | refine ng_brk ?_); (try dsimp only)) | (k_unfold; (try dsimp only)) | walk1 | (dsimp only; walk1) | (leave1; walk_say "STEP leave1"; try dsimp only)))
  refine len_led (by assumption) (.tail _ (.tail _ (.head _))) (by omega) ?_
  intro k tk1 tk2 hk1
  ((try dsimp only); repeat' (first | ((with_reducible first | refine nq_next ?_ | refine nq_ret ?_ | refine ng_next ?_ | refine ng_ret ?_ | refine nq_cont ?_ | refine nq_brk ?_ | refine ng_cont ?_ | refine ng_brk ?_); (try dsimp only)) | (k_unfold; (try dsimp only)) | walk1 | (dsimp only; walk1) | (leave1; walk_say "STEP leave1"; try dsimp only)))
  refine Stop.go (ref_item (v := .ref ai) (by assumption) (.tail _ (.tail _ (.head _))) (by omega) (by omega) g1 ?_)
  ((try dsimp only); repeat' (first | ((with_reducible first | refine nq_next ?_ | refine nq_ret ?_ | refine ng_next ?_ | refine ng_ret ?_ | refine nq_cont ?_ | refine nq_brk ?_ | refine ng_cont ?_ | refine ng_brk ?_); (try dsimp only)) | (k_unfold; (try dsimp only)) | walk1 | (dsimp only; walk1) | (leave1; walk_say "STEP leave1"; try dsimp only)))
  have hne : (!decide (up (sts sy r) = [])) = true := by
    cases h : sts sy r with
    | nil => rw [h, List.length_nil] at hln; omega
    | cons a l => simp [up]
  rw [hne]
  exact hret _ _ (by assumption) (drop0 (drop0 (drop0 (drop0 (drop0 (by assumption))))))
set_option maxRecDepth 100000 in
set_option maxHeartbeats 8000000 in
theorem first_state_ {ns : List Int} {lg : Nat} {sy : List Nat} {o : TBo} {r : Nat} {t : Tok}
   (C : Cx w mean mg mb dp un cs outer A₀ base h₀ L m s.heap 12) (N : News h₀ L s.heap news) (T : TabIn w ns lg sy o news) (hr : 1 ≤ (ns.getD r 0).natAbs) (hn : ns.length ≤ 11)
   (hret : ∀ v t h' tk', v = ((sts sy r).getD 0 0 : Int) → Fr h₀ L h' m → News h₀ L h' news → Q (.int v t) { s with heap := h', toks := tk' }) :
   wpAny (model PySem.Challenge.rw_pq1208_01.row.prog w) (ktrTop dp un gd cn cs L a ccd cl outer) (call (.ref 310) [.ref o.x, .int (r : Int) t]) Q E s := by
  refine Cx.el C fun B F X Tp hk hd hu => ?_
  have hrl := lt_of_many hr
  first | refine el6 (T.sgt hrl) fun ai iv ic g1 g2 g3 => ?_ | obtain ⟨ai, iv, ic, g1, g2, g3⟩ := T.sgt hrl
  have hln := T.tb.cnt r
  have hul : (up (sts sy r)).length = (ns.getD r 0).natAbs := by rw [up_len, hln]
  have N₁ := News.put N (News.put N (News.put N (News.put N N g2) T.lss) T.dx) T.x
  have hil : (o.ins.map Value.ref).length = ns.length := by rw [List.length_map, T.ins]
  clear N
  refine wpAny_call ?_
  k_dflt cell_enter
  ((try dsimp only); repeat' (first | ((with_reducible first | refine nq_next ?_ | refine nq_ret ?_ | refine ng_next ?_ | refine ng_ret ?_ | refine nq_cont ?_ | refine nq_brk ?_ | refine ng_cont ?_ | refine ng_brk ?_); (try dsimp only)) | (k_unfold; (try dsimp only)) | walk1 | (dsimp only; walk1) | (leave1; walk_say "STEP leave1"; try dsimp only)))
  refine Stop.go (ref_item (v := .ref ai) (by assumption) (.tail _ (.tail _ (.head _))) (by omega) (by omega) g1 ?_)
  ((try dsimp only); repeat' (first | ((with_reducible first | refine nq_next ?_ | refine nq_ret ?_ | refine ng_next ?_ | refine ng_ret ?_ | refine nq_cont ?_ | refine nq_brk ?_ | refine ng_cont ?_ | refine ng_brk ?_); (try dsimp only)) | (k_unfold; (try dsimp only)) | walk1 | (dsimp only; walk1) | (leave1; walk_say "STEP leave1"; try dsimp only)))
  refine Stop.go (int_item (by assumption) (.tail _ (.tail _ (.tail _ (.head _)))) g3 (by omega) (by omega) (by omega) ?_)
  intro v t' hv
  ((try dsimp only); repeat' (first | ((with_reducible first | refine nq_next ?_ | refine nq_ret ?_ | refine ng_next ?_ | refine ng_ret ?_ | refine nq_cont ?_ | refine nq_brk ?_ | refine ng_cont ?_ | refine ng_brk ?_); (try dsimp only)) | (k_unfold; (try dsimp only)) | walk1 | (dsimp only; walk1) | (leave1; walk_say "STEP leave1"; try dsimp only)))
  exact hret _ _ _ _ (by rw [hv]; exact up_getD _ 0) (by assumption) (drop0 (drop0 (drop0 (drop0 (by assumption)))))
end
def ahead_S (w : World) (mean : ExcName → Option Value) (mg : Str → Option Value) (mb : Str → Option Value) (dp : Nat) (un : Nat) (gd : Option (List Code)) (cn : Str) (cs : Scope) (a : Addr) (ccd : Value) (cl : List (Str × Addr)) (outer : List Env) (A₀ : Around) (base : Heap) (h₀ : Heap) (L : Addr) (m : Str → Option Value) (news : List (Addr × Obj)) (s : Shared) (Q : Value → Shared → Prop) (E : Value → Shared → Prop) : Prop :=
  ∀ {ns : List Int} {lg : Nat} {sy : List Nat} {o : TBo} {r st : Nat} {t t2 : Tok} (C : Cx w mean mg mb dp un cs outer A₀ base h₀ L m s.heap 12) (N : News h₀ L s.heap news) (T : TabIn w ns lg sy o news) (hr : 1 ≤ (ns.getD r 0).natAbs) (hn : ns.length ≤ 11) (hst : st < 2 ^ lg) (hret : ∀ D t1 t2 t3 h' tk', (∀ p ∈ news, p.1 ≠ D) → Fr h₀ L h' m → News h₀ L h' ((D, { cls := Value.type "tuple", data := Data.seq #[.int (ahS ns lg sy r st : Int) t1, .int (ahV ns lg r st : Int) t2, .int (ahB ns lg r st : Int) t3] }) :: news) → Q (.ref D) { s with heap := h', toks := tk' }),
   wpAny (model PySem.Challenge.rw_pq1208_01.row.prog w) (ktrTop dp un gd cn cs L a ccd cl outer) (call (.ref 317) [.ref o.x, .int (r : Int) t, .int (st : Int) t2]) Q E s
namespace Kahead_
noncomputable def pt : Pm := pmAt fun p => ahead_S p.w p.mean p.mg p.mb p.dp p.un p.gd p.cn p.cs p.a p.ccd p.cl p.outer p.A₀ p.base p.h₀ p.L p.m p.news p.s p.Q p.E
noncomputable def w : World := pt.w
set_option maxRecDepth 100000 in
set_option maxHeartbeats 8000000 in
theorem walk : ahead_S w pt.mean pt.mg pt.mb pt.dp pt.un pt.gd pt.cn pt.cs pt.a pt.ccd pt.cl pt.outer pt.A₀ pt.base pt.h₀ pt.L pt.m pt.news pt.s pt.Q pt.E := by
  unfold ahead_S
  intro ns lg sy o r st t t2 C N T hr hn hst hret
  refine Cx.el C fun B F X Tp hk hd hu => ?_
  have hrl := lt_of_many hr
  first | refine el6 (T.sgt hrl) fun ai iv ic g1 g2 g3 => ?_ | obtain ⟨ai, iv, ic, g1, g2, g3⟩ := T.sgt hrl
  have hln := T.tb.cnt r
  have hul : (up (sts sy r)).length = (ns.getD r 0).natAbs := by rw [up_len, hln]
  have N₁ := News.put N (News.put N (News.put N (News.put N N g2) T.lss) T.dx) T.x
  have hil : (o.ins.map Value.ref).length = ns.length := by rw [List.length_map, T.ins]
  have hz := T.tb.z
  have A := T.tb.ah hr hst
  clear N
  refine wpAny_call ?_
  k_dflt cell_enter
  ((try dsimp only); repeat' (first | ((with_reducible first | refine nq_next ?_ | refine nq_ret ?_ | refine ng_next ?_ | refine ng_ret ?_ | refine nq_cont ?_ | refine nq_brk ?_ | refine ng_cont ?_ | refine ng_brk ?_); (try dsimp only)) | (k_unfold; (try dsimp only)) | walk1 | (dsimp only; walk1) | (leave1; walk_say "STEP leave1"; try dsimp only)))
  refine Stop.go (ref_item (v := .ref ai) (by assumption) (.tail _ (.tail _ (.head _))) (by omega) (by omega) g1 ?_)
  ((try dsimp only); repeat' (first | ((with_reducible first | refine nq_next ?_ | refine nq_ret ?_ | refine ng_next ?_ | refine ng_ret ?_ | refine nq_cont ?_ | refine nq_brk ?_ | refine ng_cont ?_ | refine ng_brk ?_); (try dsimp only)) | (k_unfold; (try dsimp only)) | walk1 | (dsimp only; walk1) | (leave1; walk_say "STEP leave1"; try dsimp only)))
  refine Stop.go ?_
  refine' while_inv (σ := Wb) (fun _ => []) _ (fun c => [(Str.ofString "bits", .int (c.b : Int) c.tb)]) [] (fun c => c.b ≤ ahB ns lg r st) (fun c => ahB ns lg r st - c.b) ⟨0, _⟩ (by assumption) (by assumption) ?ps ?hi ?turn
  case ps => ((repeat' (first | exact List.forall_mem_nil _ | refine List.forall_mem_cons.mpr ⟨by with_unfolding_all rfl, ?_⟩)))
  case hi => exact Nat.zero_le _
  case turn =>
    rintro ⟨b, tb⟩ u h tk hb F N
    dsimp only [List.cons_append, List.nil_append] at *
    have hb6 := A.b6
    ((try dsimp only); repeat' (first | ((with_reducible first | refine nq_next ?_ | refine nq_ret ?_ | refine ng_next ?_ | refine ng_ret ?_ | refine nq_cont ?_ | refine nq_brk ?_ | refine ng_cont ?_ | refine ng_brk ?_); (try dsimp only)) | (k_unfold; (try dsimp only)) | walk1 | (dsimp only; walk1) | (leave1; walk_say "STEP leave1"; try dsimp only)))
    refine len_led (by assumption) (.tail _ (.tail _ (.tail _ (.tail _ (.head _))))) (by rw [g3.length, hul]; have := T.tb.many r; omega) ?_
    intro k tk1 tk2 hk1
    rw [g3.length, hul] at hk1
    ((try dsimp only); repeat' (first | ((with_reducible first | refine nq_next ?_ | refine nq_ret ?_ | refine ng_next ?_ | refine ng_ret ?_ | refine nq_cont ?_ | refine nq_brk ?_ | refine ng_cont ?_ | refine ng_brk ?_); (try dsimp only)) | (k_unfold; (try dsimp only)) | walk1 | (dsimp only; walk1) | (leave1; walk_say "STEP leave1"; try dsimp only)))
    · have hge : 2 * k ≤ ((st : Int) + ((2 ^ lg : Nat) : Int)).fdiv (2 ^ (b : Int).toNat) := by assumption
      rw [wfd, hk1] at hge
      have h1 := step_fl hr (w := st + 2 ^ lg) (b := b) (by omega)
      refine FEnd.at ⟨b + 1, _⟩ (by assumption) (by assumption) (by ((repeat' (first | exact List.forall_mem_nil _ | refine List.forall_mem_cons.mpr ⟨by with_unfolding_all rfl, ?_⟩)))) (by (((repeat (first | (with_reducible exact fun _ _ _ => rfl) | ((with_reducible refine same_lay ?nz10 ?_); (case nz10 => rfl)) | ((with_reducible refine same_kst ?nz10 ?_); (case nz10 => rfl)))); done))) ⟨h1, ?_⟩
      show ahB ns lg r st - (b + 1) < ahB ns lg r st - b
      unfold ahB; omega
    · have hlt : ¬ 2 * k ≤ ((st : Int) + ((2 ^ lg : Nat) : Int)).fdiv (2 ^ (b : Int).toNat) := by assumption
      rw [wfd, hk1] at hlt
      have hB : ahB ns lg r st = b := stop_fl hr hb (by omega)
      have hd := div_fl (w := st + 2 ^ lg) hr (by have := T.tb.many r; omega)
      have hI : ahI ns lg r st + (ns.getD r 0).natAbs = (st + 2 ^ lg) / 2 ^ b := by rw [← hB]; unfold ahI ahB; omega
      have hI2 := A.i
      refine len_led (by assumption) (.tail _ (.tail _ (.tail _ (.tail _ (.head _))))) (by rw [g3.length, hul]; have := T.tb.many r; omega) ?_
      intro k2 tk3 tk4 hk2
      rw [g3.length, hul] at hk2
      have hq1 := T.tb.many r
      have v1 : (up (sts sy r)).getD ((((st + 2 ^ lg) / 2 ^ b : Nat) : Int) - k2).toNat 0 = (ahS ns lg sy r st : Int) := by
        rw [up_getD, show ((((st + 2 ^ lg) / 2 ^ b : Nat) : Int) - k2).toNat = ahI ns lg r st by omega]; rfl
      have v2 : Builtin.bitAnd ((st : Int) + ((2 ^ lg : Nat) : Int)) (1 * 2 ^ (b : Int).toNat - 1) = (ahV ns lg r st : Int) := by
        rw [Int.one_mul, and_mask _ (by omega), Int.toNat_natCast, two_pow_cast, ← Int.natCast_add, ← Int.natCast_emod, ← hB]; rfl
      rw [wfd]
      ((try dsimp only); repeat' (first | ((with_reducible first | refine nq_next ?_ | refine nq_ret ?_ | refine ng_next ?_ | refine ng_ret ?_ | refine nq_cont ?_ | refine nq_brk ?_ | refine ng_cont ?_ | refine ng_brk ?_); (try dsimp only)) | (k_unfold; (try dsimp only)) | walk1 | (dsimp only; walk1) | (leave1; walk_say "STEP leave1"; try dsimp only)))
      simp only [v1, v2] at *
      rw [← hB] at *
      refine hret _ _ _ _ _ _ (by (((repeat' (first | assumption | exact List.forall_mem_nil _ | exact off_nil | refine off_snoc ?_ ?_ | refine List.forall_mem_cons.mpr ⟨?_, ?_⟩)) <;> (try dsimp only) <;> first | assumption | exact Nat.ne_of_lt (by assumption) | exact Nat.ne_of_gt (by assumption) | exact Nat.ne_of_gt (by omega) | exact Nat.ne_of_lt (by omega) | exact allLt_ne (by assumption) | exact allLt_ne (rt1 (by assumption)) | exact allLt_ne (rt2 (by assumption)) | exact allLt_ne (rt3 (by assumption)) | exact allLt_ne (rt4 (by assumption)) | exact allLt_ne (rt5 (by assumption)) | exact fun p hp => Nat.ne_of_lt (‹∀ p ∈ _, p.1 < _› p hp) | exact fun p hp => Nat.ne_of_lt (Nat.lt_trans (‹∀ p ∈ _, p.1 < _› p hp) (by omega)) | exact allLt_ne2 (by assumption) (by omega) | exact allLt_ne2 (rt1 (by assumption)) (by omega) | exact allLt_ne2 (rt2 (by assumption)) (by omega) | exact allLt_ne2 (rt3 (by assumption)) (by omega)))) (by assumption) (drop1 (drop1 (drop1 (drop1 (drop1 (by assumption))))))
end Kahead_
theorem ahead_ {w : World} {mean : ExcName → Option Value} {mg : Str → Option Value} {mb : Str → Option Value} {dp : Nat} {un : Nat} {gd : Option (List Code)} {cn : Str} {cs : Scope} {a : Addr} {ccd : Value} {cl : List (Str × Addr)} {outer : List Env} {A₀ : Around} {base : Heap} {h₀ : Heap} {L : Addr} {m : Str → Option Value} {news : List (Addr × Obj)} {s : Shared} {Q : Value → Shared → Prop} {E : Value → Shared → Prop} : ahead_S w mean mg mb dp un gd cn cs a ccd cl outer A₀ base h₀ L m news s Q E := pm_all (P := fun p => ahead_S p.w p.mean p.mg p.mb p.dp p.un p.gd p.cn p.cs p.a p.ccd p.cl p.outer p.A₀ p.base p.h₀ p.L p.m p.news p.s p.Q p.E) Kahead_.walk { pmD with w := w, mean := mean, mg := mg, mb := mb, dp := dp, un := un, gd := gd, cn := cn, cs := cs, a := a, ccd := ccd, cl := cl, outer := outer, A₀ := A₀, base := base, h₀ := h₀, L := L, m := m, news := news, s := s, Q := Q, E := E }
end
section -- E5
theorem walk_off_E5 : True := by
  w_top off
  exact trivial
section
variable {w : World} {mean : ExcName → Option Value} {mg mb : Str → Option Value} {dp un : Nat} {gd : Option (List Code)} {cn : Str} {cs : Scope} {a : Addr} {ccd : Value} {cl : List (Str × Addr)} {outer : List Env} {A₀ : Around} {base h₀ : Heap} {L : Addr} {m : Str → Option Value} {rest news : List (Addr × Obj)} {s : Shared} {Q E : Value → Shared → Prop}
theorem allLt_up {d d' : Addr} : ∀ {r : List (Addr × Obj)}, AllLt d r → d < d' → AllLt d' r
  | [], _, _ => trivial
  | x :: r, h, hd => ⟨Nat.lt_trans h.1 hd, allLt_up h.2 hd⟩
set_option maxRecDepth 100000 in
set_option maxHeartbeats 8000000 in
theorem lw_new {Q : Value → Shared → Prop}
   (C : Cx w mean mg mb dp un cs outer A₀ base h₀ L m s.heap 2) (N : News h₀ L s.heap news)
   (hret : ∀ (o : LWo) (c : LWs) h' tk', o.Ok news → c.Ok 0 0 → AllLt o.dx news → Fr h₀ L h' m → News h₀ L h' (lwE w o c ++ news) → Q (.ref o.x) { s with heap := h', toks := tk' }) :
   wpG (model PySem.Challenge.rw_pq1208_01.row.prog w) (ktrTop dp un gd cn cs L a ccd cl outer) (call (.ref 165) []) Q s := by
  refine Cx.el C fun B F X T hk hd hu => ?_
  ((k_dflt (refine' call_clsG ?k1z11 ?k2z11 ?k3z11 ?k4z11 ?k5z11 ?k6z11 ?_; (case k1z11 => k_asm); (case k2z11 => k_asm); (case k3z11 => k_asm); (case k4z11 => k_is); (case k5z11 => k_is); (case k6z11 => k_is); k_whole; intro x' d' h' F' N' l1 l2; (have lA := allLt_of l1); (try k_lt l1); (try k_lt2 l2); (try k_sweep); ((refine' codeG_def ?k1z12 ?k2z12 ?k3z12 ?k4z12 ?k5z12 ?kAz12 ?kFz12 ?kKz12 ?k6z12 ?k7z12 ?k8z12 ?k9z12 ?kBz12 ?_ ?c2z12 ?c3z12 ?c4z12 ?c5z12; (case kAz12 => exact rfl); (case kFz12 => exact rfl); (case kKz12 => first | assumption | exact rfl); (case k1z12 => k_asm); (case k2z12 => k_asm); (case k3z12 => k_asm); (case k4z12 => k_asm); (case k5z12 => k_asm); (case k6z12 => k_is); (case k7z12 => k_is); (case k8z12 => ktr_room); (case k9z12 => exact BindsTo.of_eq rfl); (case c5z12 => decide); (case kBz12 => exact locs rfl); (case c2z12 => exact rfl); (case c3z12 => exact rfl); (case c4z12 => exact rfl); k_whole; intro g' L' h' FG' F' N' B' X' T'; (try dsimp only); (try k_lift B'); (try k_fold))))))
  (((try dsimp only); (repeat (with_reducible first | refine nq_next ?_ | refine nq_ret ?_ | refine ng_next ?_ | refine ng_ret ?_ | refine nq_cont ?_ | refine nq_brk ?_ | refine ng_cont ?_ | refine ng_brk ?_)); with_reducible refine execsG_cons ?_))
  refine G_Assign_Attribute ?_
  refine G_Call ?_
  ((try dsimp only); repeat' (first | ((with_reducible first | refine nq_next ?_ | refine nq_ret ?_ | refine ng_next ?_ | refine ng_ret ?_ | refine nq_cont ?_ | refine nq_brk ?_ | refine ng_cont ?_ | refine ng_brk ?_); (try dsimp only)) | (k_unfold; (try dsimp only)) | walk1 | (dsimp only; walk1) | (leave1; walk_say "STEP leave1"; try dsimp only)))
  refine gc_type0 (ba_new (by assumption) (by assumption) ?_)
  intro D h₁ F₁ N₁ l₁
  k_lt l₁
  ((try dsimp only); repeat' (first | ((with_reducible first | refine nq_next ?_ | refine nq_ret ?_ | refine ng_next ?_ | refine ng_ret ?_ | refine nq_cont ?_ | refine nq_brk ?_ | refine ng_cont ?_ | refine ng_brk ?_); (try dsimp only)) | (k_unfold; (try dsimp only)) | walk1 | (dsimp only; walk1) | (leave1; walk_say "STEP leave1"; try dsimp only)))
  (((try dsimp only); (repeat (with_reducible first | refine nq_next ?_ | refine nq_ret ?_ | refine ng_next ?_ | refine ng_ret ?_ | refine nq_cont ?_ | refine nq_brk ?_ | refine ng_cont ?_ | refine ng_brk ?_)); (with_reducible refine execsG_any ?_); ((try dsimp only); repeat' (first | ((with_reducible first | refine nq_next ?_ | refine nq_ret ?_ | refine ng_next ?_ | refine ng_ret ?_ | refine nq_cont ?_ | refine nq_brk ?_ | refine ng_cont ?_ | refine ng_brk ?_); (try dsimp only)) | (k_unfold; (try dsimp only)) | walk1 | (dsimp only; walk1) | (leave1; walk_say "STEP leave1"; try dsimp only)))))
  (((try dsimp only); (repeat (with_reducible first | refine nq_next ?_ | refine nq_ret ?_ | refine ng_next ?_ | refine ng_ret ?_ | refine nq_cont ?_ | refine nq_brk ?_ | refine ng_cont ?_ | refine ng_brk ?_)); (with_reducible refine execsG_any ?_); ((try dsimp only); repeat' (first | ((with_reducible first | refine nq_next ?_ | refine nq_ret ?_ | refine ng_next ?_ | refine ng_ret ?_ | refine nq_cont ?_ | refine nq_brk ?_ | refine ng_cont ?_ | refine ng_brk ?_); (try dsimp only)) | (k_unfold; (try dsimp only)) | walk1 | (dsimp only; walk1) | (leave1; walk_say "STEP leave1"; try dsimp only)))))
  (((try dsimp only); (repeat (with_reducible first | refine nq_next ?_ | refine nq_ret ?_ | refine ng_next ?_ | refine ng_ret ?_ | refine nq_cont ?_ | refine nq_brk ?_ | refine ng_cont ?_ | refine ng_brk ?_)); (with_reducible refine execsG_nil ?_); (try dsimp only); (repeat (with_reducible first | refine nq_next ?_ | refine nq_ret ?_ | refine ng_next ?_ | refine ng_ret ?_ | refine nq_cont ?_ | refine nq_brk ?_ | refine ng_cont ?_ | refine ng_brk ?_)); (try dsimp only); ((try dsimp only); repeat' (first | ((with_reducible first | refine nq_next ?_ | refine nq_ret ?_ | refine ng_next ?_ | refine ng_ret ?_ | refine nq_cont ?_ | refine nq_brk ?_ | refine ng_cont ?_ | refine ng_brk ?_); (try dsimp only)) | (k_unfold; (try dsimp only)) | walk1 | (dsimp only; walk1) | (leave1; walk_say "STEP leave1"; try dsimp only)))))
  have lr := l₁.1
  refine hret ⟨_, _, D, _, _, _⟩ ⟨#[], 0, _, 0, _⟩ _ _ ⟨by assumption, lr, by (((repeat' (first | assumption | exact List.forall_mem_nil _ | exact off_nil | refine off_snoc ?_ ?_ | refine List.forall_mem_cons.mpr ⟨?_, ?_⟩)) <;> (try dsimp only) <;> first | assumption | exact Nat.ne_of_lt (by assumption) | exact Nat.ne_of_gt (by assumption) | exact Nat.ne_of_gt (by omega) | exact Nat.ne_of_lt (by omega) | exact allLt_ne (by assumption) | exact allLt_ne (rt1 (by assumption)) | exact allLt_ne (rt2 (by assumption)) | exact allLt_ne (rt3 (by assumption)) | exact allLt_ne (rt4 (by assumption)) | exact allLt_ne (rt5 (by assumption)) | exact fun p hp => Nat.ne_of_lt (‹∀ p ∈ _, p.1 < _› p hp) | exact fun p hp => Nat.ne_of_lt (Nat.lt_trans (‹∀ p ∈ _, p.1 < _› p hp) (by omega)) | exact allLt_ne2 (by assumption) (by omega) | exact allLt_ne2 (rt1 (by assumption)) (by omega) | exact allLt_ne2 (rt2 (by assumption)) (by omega) | exact allLt_ne2 (rt3 (by assumption)) (by omega))), by (((repeat' (first | assumption | exact List.forall_mem_nil _ | exact off_nil | refine off_snoc ?_ ?_ | refine List.forall_mem_cons.mpr ⟨?_, ?_⟩)) <;> (try dsimp only) <;> first | assumption | exact Nat.ne_of_lt (by assumption) | exact Nat.ne_of_gt (by assumption) | exact Nat.ne_of_gt (by omega) | exact Nat.ne_of_lt (by omega) | exact allLt_ne (by assumption) | exact allLt_ne (rt1 (by assumption)) | exact allLt_ne (rt2 (by assumption)) | exact allLt_ne (rt3 (by assumption)) | exact allLt_ne (rt4 (by assumption)) | exact allLt_ne (rt5 (by assumption)) | exact fun p hp => Nat.ne_of_lt (‹∀ p ∈ _, p.1 < _› p hp) | exact fun p hp => Nat.ne_of_lt (Nat.lt_trans (‹∀ p ∈ _, p.1 < _› p hp) (by omega)) | exact allLt_ne2 (by assumption) (by omega) | exact allLt_ne2 (rt1 (by assumption)) (by omega) | exact allLt_ne2 (rt2 (by assumption)) (by omega) | exact allLt_ne2 (rt3 (by assumption)) (by omega))), by (((repeat' (first | assumption | exact List.forall_mem_nil _ | exact off_nil | refine off_snoc ?_ ?_ | refine List.forall_mem_cons.mpr ⟨?_, ?_⟩)) <;> (try dsimp only) <;> first | assumption | exact Nat.ne_of_lt (by assumption) | exact Nat.ne_of_gt (by assumption) | exact Nat.ne_of_gt (by omega) | exact Nat.ne_of_lt (by omega) | exact allLt_ne (by assumption) | exact allLt_ne (rt1 (by assumption)) | exact allLt_ne (rt2 (by assumption)) | exact allLt_ne (rt3 (by assumption)) | exact allLt_ne (rt4 (by assumption)) | exact allLt_ne (rt5 (by assumption)) | exact fun p hp => Nat.ne_of_lt (‹∀ p ∈ _, p.1 < _› p hp) | exact fun p hp => Nat.ne_of_lt (Nat.lt_trans (‹∀ p ∈ _, p.1 < _› p hp) (by omega)) | exact allLt_ne2 (by assumption) (by omega) | exact allLt_ne2 (rt1 (by assumption)) (by omega) | exact allLt_ne2 (rt2 (by assumption)) (by omega) | exact allLt_ne2 (rt3 (by assumption)) (by omega)))⟩ lw_ok0 (by assumption) (by assumption) (by assumption)
end
end
section -- E6
theorem walk_off_E6 : True := by
  w_top off
  exact trivial
section
variable {w : World} {mean : ExcName → Option Value} {mg mb : Str → Option Value} {dp un : Nat} {gd : Option (List Code)} {cn : Str} {cs : Scope} {a : Addr} {ccd : Value} {cl : List (Str × Addr)} {outer : List Env} {A₀ : Around} {base h₀ : Heap} {L : Addr} {m : Str → Option Value} {rest news : List (Addr × Obj)} {s : Shared} {Q E : Value → Shared → Prop}
set_option maxRecDepth 100000 in
set_option maxHeartbeats 8000000 in
theorem need_count_ {n : Int} {t : Tok}
   (C : Cx w mean mg mb dp un cs outer A₀ base h₀ L m s.heap 1) (N : News h₀ L s.heap news) (hn : 0 ≤ n)
   (hret : ∀ h' tk', Fr h₀ L h' m → News h₀ L h' news → Q .none { s with heap := h', toks := tk' }) :
   wpAny (model PySem.Challenge.rw_pq1208_01.row.prog w) (ktrTop dp un gd cn cs L a ccd cl outer) (call (.ref 85) [.int n t]) Q E s := by
  refine Cx.el C fun B F X T hk hd hu => ?_
  refine wpAny_call ?_
  k_dflt cell_enter
  ((try dsimp only); repeat' (first | ((with_reducible first | refine nq_next ?_ | refine nq_ret ?_ | refine ng_next ?_ | refine ng_ret ?_ | refine nq_cont ?_ | refine nq_brk ?_ | refine ng_cont ?_ | refine ng_brk ?_); (try dsimp only)) | (k_unfold; (try dsimp only)) | walk1 | (dsimp only; walk1) | (leave1; walk_say "STEP leave1"; try dsimp only)))
  exact hret _ _ (by assumption) (by assumption)
set_option maxRecDepth 100000 in
set_option maxHeartbeats 8000000 in
theorem need_value_ {v n : Int} {t1 t2 : Tok}
   (C : Cx w mean mg mb dp un cs outer A₀ base h₀ L m s.heap 2) (N : News h₀ L s.heap news) (hn : 0 ≤ n) (hn2 : n ≤ 64) (hv : 0 ≤ v) (hv2 : v < 2 ^ n.toNat)
   (hret : ∀ h' tk', Fr h₀ L h' m → News h₀ L h' news → Q .none { s with heap := h', toks := tk' }) :
   wpAny (model PySem.Challenge.rw_pq1208_01.row.prog w) (ktrTop dp un gd cn cs L a ccd cl outer) (call (.ref 92) [.int v t1, .int n t2]) Q E s := by
  have h0 : v.fdiv (2 ^ n.toNat) = 0 := by rw [Int.fdiv_eq_ediv_of_nonneg _ (Int.pow_nonneg (by decide))]; exact Int.ediv_eq_zero_of_lt hv hv2
  refine Cx.el C fun B F X T hk hd hu => ?_
  refine wpAny_call ?_
  k_dflt cell_enter
  ((try dsimp only); repeat' (first | ((with_reducible first | refine nq_next ?_ | refine nq_ret ?_ | refine ng_next ?_ | refine ng_ret ?_ | refine nq_cont ?_ | refine nq_brk ?_ | refine ng_cont ?_ | refine ng_brk ?_); (try dsimp only)) | (k_unfold; (try dsimp only)) | walk1 | (dsimp only; walk1) | (leave1; walk_say "STEP leave1"; try dsimp only)))
  refine Stop.go (need_count_ (by (exact ⟨by assumption, by assumption, by assumption, by assumption, rfl, by (first | omega | ((try simp only [depth_under_make, units_under_make, depth_in1, units_in1, depth_deeper, units_deeper]); (try dsimp only [ktrTop]); omega)), by (first | omega | ((try simp only [depth_under_make, units_under_make, depth_in1, units_in1, depth_deeper, units_deeper]); (try dsimp only [ktrTop]); omega))⟩)) (by assumption) (by omega) ?_)
  intro h₁ k₁ F₁ N₁
  ((try dsimp only); repeat' (first | ((with_reducible first | refine nq_next ?_ | refine nq_ret ?_ | refine ng_next ?_ | refine ng_ret ?_ | refine nq_cont ?_ | refine nq_brk ?_ | refine ng_cont ?_ | refine ng_brk ?_); (try dsimp only)) | (k_unfold; (try dsimp only)) | walk1 | (dsimp only; walk1) | (leave1; walk_say "STEP leave1"; try dsimp only)))
  exact hret _ _ (by assumption) (by assumption)
end
end
section -- E7
theorem walk_off_E7 : True := by
  w_top off
  exact trivial
section
variable {w : World} {mean : ExcName → Option Value} {mg mb : Str → Option Value} {dp un : Nat} {gd : Option (List Code)} {cn : Str} {cs : Scope} {a : Addr} {ccd : Value} {cl : List (Str × Addr)} {outer : List Env} {A₀ : Around} {base h₀ : Heap} {L : Addr} {m : Str → Option Value} {rest news : List (Addr × Obj)} {s : Shared} {Q E : Value → Shared → Prop}
theorem pow_le20 {k : Int} (h0 : 0 ≤ k) (h : k ≤ 20) : (2 : Int) ^ k.toNat ≤ 1048576 := by
  have h1 : k.toNat ≤ 20 := by omega
  have h2 : (2 : Nat) ^ k.toNat ≤ 2 ^ 20 := Nat.pow_le_pow_right (by decide) h1
  have h3 : (2 : Int) ^ k.toNat = ((2 ^ k.toNat : Nat) : Int) := by rw [Int.natCast_pow]; rfl
  rw [h3]
  omega
end
def lw_bitsS (w : World) (mean : ExcName → Option Value) (mg : Str → Option Value) (mb : Str → Option Value) (dp : Nat) (un : Nat) (gd : Option (List Code)) (cn : Str) (cs : Scope) (a : Addr) (ccd : Value) (cl : List (Str × Addr)) (outer : List Env) (A₀ : Around) (base : Heap) (h₀ : Heap) (L : Addr) (m : Str → Option Value) (rest : List (Addr × Obj)) (s : Shared) : Prop :=
  ∀ {Q : Value → Shared → Prop} {o : LWo} {c : LWs} {W : Int} {n : Nat} {v k : Int} {t1 t2 : Tok} (C : Cx w mean mg mb dp un cs outer A₀ base h₀ L m s.heap 3) (N : News h₀ L s.heap (lwE w o c ++ rest)) (ho : o.Ok rest) (hc : c.Ok W n) (hn : n ≤ 1000) (hk0 : 0 ≤ k) (hk2 : k ≤ 20) (hv : 0 ≤ v) (hv2 : v < 2 ^ k.toNat) (hret : ∀ c' h' tk', c'.Ok (W + v * 2 ^ n) (n + k.toNat) → Fr h₀ L h' m → News h₀ L h' (lwE w o c' ++ rest) → Q .none { s with heap := h', toks := tk' }),
   wpG (model PySem.Challenge.rw_pq1208_01.row.prog w) (ktrTop dp un gd cn cs L a ccd cl outer) (call (.ref 120) [.ref o.x, .int v t1, .int k t2]) Q s
namespace Klw_bits
noncomputable def pt : Pm := pmAt fun p => lw_bitsS p.w p.mean p.mg p.mb p.dp p.un p.gd p.cn p.cs p.a p.ccd p.cl p.outer p.A₀ p.base p.h₀ p.L p.m p.rest p.s
noncomputable def w : World := pt.w
noncomputable def rest : List (Addr × Obj) := pt.rest
set_option maxRecDepth 100000 in
set_option maxHeartbeats 8000000 in
theorem walk : lw_bitsS w pt.mean pt.mg pt.mb pt.dp pt.un pt.gd pt.cn pt.cs pt.a pt.ccd pt.cl pt.outer pt.A₀ pt.base pt.h₀ pt.L pt.m rest pt.s := by
  unfold lw_bitsS
  intro Q o c W n v k t1 t2 C N ho hc hn hk0 hk2 hv hv2 hret
  refine Cx.el C fun B F X T hk hd hu => ?_
  first | refine el6 (o) fun x dx D k1 k2 k3 => ?_ | obtain ⟨x, dx, D, k1, k2, k3⟩ := o
  first | refine el5 (c) fun b held th hb tb => ?_ | obtain ⟨b, held, th, hb, tb⟩ := c
  first | refine el5 (ho) fun o1 o2 o3 o4 o5 => ?_ | obtain ⟨o1, o2, o3, o4, o5⟩ := ho
  first | refine el6 (hc) fun c1 c2 c3 c4 c5 c6 => ?_ | obtain ⟨c1, c2, c3, c4, c5, c6⟩ := hc
  have hv3 : v < 1048576 := Int.lt_of_lt_of_le hv2 (pow_le20 hk0 hk2)
  dsimp only [List.cons_append, List.nil_append, de] at *
  ((refine wpG_call ?_; k_dflt ((refine' codeG_def ?k1z14 ?k2z14 ?k3z14 ?k4z14 ?k5z14 ?kAz14 ?kFz14 ?kKz14 ?k6z14 ?k7z14 ?k8z14 ?k9z14 ?kBz14 ?_ ?c2z14 ?c3z14 ?c4z14 ?c5z14; (case kAz14 => exact rfl); (case kFz14 => exact rfl); (case kKz14 => first | assumption | exact rfl); (case k1z14 => k_asm); (case k2z14 => k_asm); (case k3z14 => k_asm); (case k4z14 => k_asm); (case k5z14 => k_asm); (case k6z14 => k_is); (case k7z14 => k_is); (case k8z14 => ktr_room); (case k9z14 => exact BindsTo.of_eq rfl); (case c5z14 => decide); (case kBz14 => exact locs rfl); (case c2z14 => exact rfl); (case c3z14 => exact rfl); (case c4z14 => exact rfl); k_whole; intro g' L' h' FG' F' N' B' X' T'; (try dsimp only); (try k_lift B'); (try k_fold)))))
  (((try dsimp only); (repeat (with_reducible first | refine nq_next ?_ | refine nq_ret ?_ | refine ng_next ?_ | refine ng_ret ?_ | refine nq_cont ?_ | refine nq_brk ?_ | refine ng_cont ?_ | refine ng_brk ?_)); (with_reducible refine execsG_any ?_); ((try dsimp only); repeat' (first | ((with_reducible first | refine nq_next ?_ | refine nq_ret ?_ | refine ng_next ?_ | refine ng_ret ?_ | refine nq_cont ?_ | refine nq_brk ?_ | refine ng_cont ?_ | refine ng_brk ?_); (try dsimp only)) | (k_unfold; (try dsimp only)) | walk1 | (dsimp only; walk1) | (leave1; walk_say "STEP leave1"; try dsimp only)))))
  refine Stop.go (need_value_ (by (exact ⟨by assumption, by assumption, by assumption, by assumption, rfl, by (first | omega | ((try simp only [depth_under_make, units_under_make, depth_in1, units_in1, depth_deeper, units_deeper]); (try dsimp only [ktrTop]); omega)), by (first | omega | ((try simp only [depth_under_make, units_under_make, depth_in1, units_in1, depth_deeper, units_deeper]); (try dsimp only [ktrTop]); omega))⟩)) (by assumption) (by omega) (by omega) (by omega) (by assumption) ?_)
  intro h₁ tk₁ F₁ N₁
  ((try dsimp only); repeat' (first | ((with_reducible first | refine nq_next ?_ | refine nq_ret ?_ | refine ng_next ?_ | refine ng_ret ?_ | refine nq_cont ?_ | refine nq_brk ?_ | refine ng_cont ?_ | refine ng_brk ?_); (try dsimp only)) | (k_unfold; (try dsimp only)) | walk1 | (dsimp only; walk1) | (leave1; walk_say "STEP leave1"; try dsimp only)))
  (((try dsimp only); (repeat (with_reducible first | refine nq_next ?_ | refine nq_ret ?_ | refine ng_next ?_ | refine ng_ret ?_ | refine nq_cont ?_ | refine nq_brk ?_ | refine ng_cont ?_ | refine ng_brk ?_)); (with_reducible refine execsG_any ?_); ((try dsimp only); repeat' (first | ((with_reducible first | refine nq_next ?_ | refine nq_ret ?_ | refine ng_next ?_ | refine ng_ret ?_ | refine nq_cont ?_ | refine nq_brk ?_ | refine ng_cont ?_ | refine ng_brk ?_); (try dsimp only)) | (k_unfold; (try dsimp only)) | walk1 | (dsimp only; walk1) | (leave1; walk_say "STEP leave1"; try dsimp only)))))
  (((try dsimp only); (repeat (with_reducible first | refine nq_next ?_ | refine nq_ret ?_ | refine ng_next ?_ | refine ng_ret ?_ | refine nq_cont ?_ | refine nq_brk ?_ | refine ng_cont ?_ | refine ng_brk ?_)); (with_reducible refine execsG_any ?_); ((try dsimp only); repeat' (first | ((with_reducible first | refine nq_next ?_ | refine nq_ret ?_ | refine ng_next ?_ | refine ng_ret ?_ | refine nq_cont ?_ | refine nq_brk ?_ | refine ng_cont ?_ | refine ng_brk ?_); (try dsimp only)) | (k_unfold; (try dsimp only)) | walk1 | (dsimp only; walk1) | (leave1; walk_say "STEP leave1"; try dsimp only)))))
  (((try dsimp only); (repeat (with_reducible first | refine nq_next ?_ | refine nq_ret ?_ | refine ng_next ?_ | refine ng_ret ?_ | refine nq_cont ?_ | refine nq_brk ?_ | refine ng_cont ?_ | refine ng_brk ?_)); with_reducible refine execsG_cons ?_))
  refine' while_invG (σ := LWs) (fun c => [(D, bao c.b), (x, instObj 165 dx), (dx, dictOf [⟨PyData.keyHash w.params (Str.ofString "made"), .str (Str.ofString "made") k1, .ref D⟩, ⟨PyData.keyHash w.params (Str.ofString "held"), .str (Str.ofString "held") k2, .int c.held c.th⟩, ⟨PyData.keyHash w.params (Str.ofString "held_bits"), .str (Str.ofString "held_bits") k3, .int c.hb c.tb⟩] 3)])
    rest (fun _ => []) [] (fun c => c.Go (W + v * 2 ^ n) (n + k.toNat)) (fun c => c.hb.toNat) ⟨b, _, _, _, _⟩ (by assumption) (by assumption) ?ps ?hi ?turn
  case ps => ((repeat' (first | exact List.forall_mem_nil _ | refine List.forall_mem_cons.mpr ⟨by with_unfolding_all rfl, ?_⟩)))
  case hi => exact lw_start c1 c3 c4 c5 c6 hk0 hv hv2
  case turn =>
    rintro ⟨b, held, th, hb, tb⟩ u h tk c F N
    have c' := c
    first | refine el5 (c') fun c1 c3 c4 c5 c6 => ?_ | obtain ⟨c1, c3, c4, c5, c6⟩ := c'
    dsimp only [List.cons_append, List.nil_append] at *
    ((try dsimp only); repeat' (first | ((with_reducible first | refine nq_next ?_ | refine nq_ret ?_ | refine ng_next ?_ | refine ng_ret ?_ | refine nq_cont ?_ | refine nq_brk ?_ | refine ng_cont ?_ | refine ng_brk ?_); (try dsimp only)) | (k_unfold; (try dsimp only)) | walk1 | (dsimp only; walk1) | (leave1; walk_say "STEP leave1"; try dsimp only)))
    · (((try dsimp only); (repeat (with_reducible first | refine nq_next ?_ | refine nq_ret ?_ | refine ng_next ?_ | refine ng_ret ?_ | refine nq_cont ?_ | refine nq_brk ?_ | refine ng_cont ?_ | refine ng_brk ?_)); with_reducible refine execsG_cons ?_))
      refine G_Expr ?_
      refine G_MethodCall ?_
      ((try dsimp only); repeat' (first | ((with_reducible first | refine nq_next ?_ | refine nq_ret ?_ | refine ng_next ?_ | refine ng_ret ?_ | refine nq_cont ?_ | refine nq_brk ?_ | refine ng_cont ?_ | refine ng_brk ?_); (try dsimp only)) | (k_unfold; (try dsimp only)) | walk1 | (dsimp only; walk1) | (leave1; walk_say "STEP leave1"; try dsimp only)))
      refine gc_meth1 ?_
      ((try dsimp only); repeat' (first | ((with_reducible first | refine nq_next ?_ | refine nq_ret ?_ | refine ng_next ?_ | refine ng_ret ?_ | refine nq_cont ?_ | refine nq_brk ?_ | refine ng_cont ?_ | refine ng_brk ?_); (try dsimp only)) | (k_unfold; (try dsimp only)) | walk1 | (dsimp only; walk1) | (leave1; walk_say "STEP leave1"; try dsimp only)))
      rw [bitAnd_m8]
      refine ba_append (by assumption) (by assumption) (by (((repeat' (first | assumption | exact List.forall_mem_nil _ | exact off_nil | refine off_snoc ?_ ?_ | refine List.forall_mem_cons.mpr ⟨?_, ?_⟩)) <;> (try dsimp only) <;> first | assumption | exact Nat.ne_of_lt (by assumption) | exact Nat.ne_of_gt (by assumption) | exact Nat.ne_of_gt (by omega) | exact Nat.ne_of_lt (by omega) | exact allLt_ne (by assumption) | exact allLt_ne (rt1 (by assumption)) | exact allLt_ne (rt2 (by assumption)) | exact allLt_ne (rt3 (by assumption)) | exact allLt_ne (rt4 (by assumption)) | exact allLt_ne (rt5 (by assumption)) | exact fun p hp => Nat.ne_of_lt (‹∀ p ∈ _, p.1 < _› p hp) | exact fun p hp => Nat.ne_of_lt (Nat.lt_trans (‹∀ p ∈ _, p.1 < _› p hp) (by omega)) | exact allLt_ne2 (by assumption) (by omega) | exact allLt_ne2 (rt1 (by assumption)) (by omega) | exact allLt_ne2 (rt2 (by assumption)) (by omega) | exact allLt_ne2 (rt3 (by assumption)) (by omega)))) (by omega) (by omega) (by rw [sizeLine_eq]; omega) ?_
      intro h₃ F₃ N₃
      dsimp only
      (((try dsimp only); (repeat (with_reducible first | refine nq_next ?_ | refine nq_ret ?_ | refine ng_next ?_ | refine ng_ret ?_ | refine nq_cont ?_ | refine nq_brk ?_ | refine ng_cont ?_ | refine ng_brk ?_)); (with_reducible refine execsG_any ?_); ((try dsimp only); repeat' (first | ((with_reducible first | refine nq_next ?_ | refine nq_ret ?_ | refine ng_next ?_ | refine ng_ret ?_ | refine nq_cont ?_ | refine nq_brk ?_ | refine ng_cont ?_ | refine ng_brk ?_); (try dsimp only)) | (k_unfold; (try dsimp only)) | walk1 | (dsimp only; walk1) | (leave1; walk_say "STEP leave1"; try dsimp only)))))
      (((try dsimp only); (repeat (with_reducible first | refine nq_next ?_ | refine nq_ret ?_ | refine ng_next ?_ | refine ng_ret ?_ | refine nq_cont ?_ | refine nq_brk ?_ | refine ng_cont ?_ | refine ng_brk ?_)); (with_reducible refine execsG_any ?_); ((try dsimp only); repeat' (first | ((with_reducible first | refine nq_next ?_ | refine nq_ret ?_ | refine ng_next ?_ | refine ng_ret ?_ | refine nq_cont ?_ | refine nq_brk ?_ | refine ng_cont ?_ | refine ng_brk ?_); (try dsimp only)) | (k_unfold; (try dsimp only)) | walk1 | (dsimp only; walk1) | (leave1; walk_say "STEP leave1"; try dsimp only)))))
      with_reducible refine execsG_nil ?_
      walk_at "FPost"
      refine FEnd.at ⟨b.push (held % 256).toNat.toUInt8, held.fdiv (2 ^ Int.toNat 8), _, hb - 8, _⟩ (by assumption) (by assumption) (by ((repeat' (first | exact List.forall_mem_nil _ | refine List.forall_mem_cons.mpr ⟨by with_unfolding_all rfl, ?_⟩)))) (by (((repeat (first | (with_reducible exact fun _ _ _ => rfl) | ((with_reducible refine same_lay ?nz13 ?_); (case nz13 => rfl)) | ((with_reducible refine same_kst ?nz13 ?_); (case nz13 => rfl)))); done))) ⟨?_, ?_⟩
      · rw [show held.fdiv (2 ^ Int.toNat 8) = held / 256 from Int.fdiv_eq_ediv_of_nonneg _ (by decide)]
        exact lw_turn c (by assumption)
      · exact (Int.toNat_lt_toNat (by omega)).mpr (by omega)
    · (((try dsimp only); (repeat (with_reducible first | refine nq_next ?_ | refine nq_ret ?_ | refine ng_next ?_ | refine ng_ret ?_ | refine nq_cont ?_ | refine nq_brk ?_ | refine ng_cont ?_ | refine ng_brk ?_)); (with_reducible refine execsG_nil ?_); (try dsimp only); (repeat (with_reducible first | refine nq_next ?_ | refine nq_ret ?_ | refine ng_next ?_ | refine ng_ret ?_ | refine nq_cont ?_ | refine nq_brk ?_ | refine ng_cont ?_ | refine ng_brk ?_)); (try dsimp only); ((try dsimp only); repeat' (first | ((with_reducible first | refine nq_next ?_ | refine nq_ret ?_ | refine ng_next ?_ | refine ng_ret ?_ | refine nq_cont ?_ | refine nq_brk ?_ | refine ng_cont ?_ | refine ng_brk ?_); (try dsimp only)) | (k_unfold; (try dsimp only)) | walk1 | (dsimp only; walk1) | (leave1; walk_say "STEP leave1"; try dsimp only)))))
      refine hret ⟨b, held, _, hb, _⟩ _ _ ⟨c1, by show hb < 8; omega, c3, c4, c5, c6⟩ (by assumption) (by assumption)
end Klw_bits
theorem lw_bits {w : World} {mean : ExcName → Option Value} {mg : Str → Option Value} {mb : Str → Option Value} {dp : Nat} {un : Nat} {gd : Option (List Code)} {cn : Str} {cs : Scope} {a : Addr} {ccd : Value} {cl : List (Str × Addr)} {outer : List Env} {A₀ : Around} {base : Heap} {h₀ : Heap} {L : Addr} {m : Str → Option Value} {rest : List (Addr × Obj)} {s : Shared} : lw_bitsS w mean mg mb dp un gd cn cs a ccd cl outer A₀ base h₀ L m rest s := pm_all (P := fun p => lw_bitsS p.w p.mean p.mg p.mb p.dp p.un p.gd p.cn p.cs p.a p.ccd p.cl p.outer p.A₀ p.base p.h₀ p.L p.m p.rest p.s) Klw_bits.walk { pmD with w := w, mean := mean, mg := mg, mb := mb, dp := dp, un := un, gd := gd, cn := cn, cs := cs, a := a, ccd := ccd, cl := cl, outer := outer, A₀ := A₀, base := base, h₀ := h₀, L := L, m := m, rest := rest, s := s }
end
section -- E8
theorem walk_off_E8 : True := by
  w_top off
  exact trivial
section
variable {w : World} {mean : ExcName → Option Value} {mg mb : Str → Option Value} {dp un : Nat} {gd : Option (List Code)} {cn : Str} {cs : Scope} {a : Addr} {ccd : Value} {cl : List (Str × Addr)} {outer : List Env} {A₀ : Around} {base h₀ : Heap} {L : Addr} {m : Str → Option Value} {rest news : List (Addr × Obj)} {s : Shared} {Q E : Value → Shared → Prop}
theorem pow_le8 {k : Int} (h0 : 0 ≤ k) (h : k < 8) : (2 : Int) ^ k.toNat ≤ 256 := by
  have h2 : (2 : Nat) ^ k.toNat ≤ 2 ^ 8 := Nat.pow_le_pow_right (by decide) (by omega)
  have h3 : (2 : Int) ^ k.toNat = ((2 ^ k.toNat : Nat) : Int) := by rw [Int.natCast_pow]; rfl
  rw [h3]
  omega
set_option maxRecDepth 100000 in
set_option maxHeartbeats 8000000 in
theorem lw_bit {Q : Value → Shared → Prop} {o : LWo} {c : LWs} {W : Int} {n : Nat} {v : Int} {t1 : Tok}
   (C : Cx w mean mg mb dp un cs outer A₀ base h₀ L m s.heap 4) (N : News h₀ L s.heap (lwE w o c ++ rest)) (ho : o.Ok rest) (hc : c.Ok W n) (hn : n ≤ 1000) (hv : 0 ≤ v) (hv2 : v < 2)
   (hret : ∀ c' h' tk', c'.Ok (W + v * 2 ^ n) (n + 1) → Fr h₀ L h' m → News h₀ L h' (lwE w o c' ++ rest) → Q .none { s with heap := h', toks := tk' }) :
   wpG (model PySem.Challenge.rw_pq1208_01.row.prog w) (ktrTop dp un gd cn cs L a ccd cl outer) (call (.ref 127) [.ref o.x, .int v t1]) Q s := by
  refine Cx.el C fun B F X T hk hd hu => ?_
  dsimp only [List.cons_append, List.nil_append, de] at *
  ((refine wpG_call ?_; k_dflt ((refine' codeG_def ?k1z17 ?k2z17 ?k3z17 ?k4z17 ?k5z17 ?kAz17 ?kFz17 ?kKz17 ?k6z17 ?k7z17 ?k8z17 ?k9z17 ?kBz17 ?_ ?c2z17 ?c3z17 ?c4z17 ?c5z17; (case kAz17 => exact rfl); (case kFz17 => exact rfl); (case kKz17 => first | assumption | exact rfl); (case k1z17 => k_asm); (case k2z17 => k_asm); (case k3z17 => k_asm); (case k4z17 => k_asm); (case k5z17 => k_asm); (case k6z17 => k_is); (case k7z17 => k_is); (case k8z17 => ktr_room); (case k9z17 => exact BindsTo.of_eq rfl); (case c5z17 => decide); (case kBz17 => exact locs rfl); (case c2z17 => exact rfl); (case c3z17 => exact rfl); (case c4z17 => exact rfl); k_whole; intro g' L' h' FG' F' N' B' X' T'; (try dsimp only); (try k_lift B'); (try k_fold)))))
  (((try dsimp only); (repeat (with_reducible first | refine nq_next ?_ | refine nq_ret ?_ | refine ng_next ?_ | refine ng_ret ?_ | refine nq_cont ?_ | refine nq_brk ?_ | refine ng_cont ?_ | refine ng_brk ?_)); with_reducible refine execsG_cons ?_))
  refine G_Expr ?_
  refine G_MethodCall ?_
  ((try dsimp only); repeat' (first | ((with_reducible first | refine nq_next ?_ | refine nq_ret ?_ | refine ng_next ?_ | refine ng_ret ?_ | refine nq_cont ?_ | refine nq_brk ?_ | refine ng_cont ?_ | refine ng_brk ?_); (try dsimp only)) | (k_unfold; (try dsimp only)) | walk1 | (dsimp only; walk1) | (leave1; walk_say "STEP leave1"; try dsimp only)))
  ((k_dflt (first | (refine' gc_K0' ?k1z15 ?k3z15 ?k2z15 ?_; (case k1z15 => k_asm); (case k3z15 => k_asm); (case k2z15 => k_is)) | (refine' gc_K ?k1z15 ?k2z15 ?_; (case k1z15 => k_asm); (case k2z15 => k_is)))))
  ((try dsimp only); repeat' (first | ((with_reducible first | refine nq_next ?_ | refine nq_ret ?_ | refine ng_next ?_ | refine ng_ret ?_ | refine nq_cont ?_ | refine nq_brk ?_ | refine ng_cont ?_ | refine ng_brk ?_); (try dsimp only)) | (k_unfold; (try dsimp only)) | walk1 | (dsimp only; walk1) | (leave1; walk_say "STEP leave1"; try dsimp only)))
  refine lw_bits (o := o) (c := c) (W := W) (n := n) (by (exact ⟨by assumption, by assumption, by assumption, by assumption, rfl, by (first | omega | ((try simp only [depth_under_make, units_under_make, depth_in1, units_in1, depth_deeper, units_deeper]); (try dsimp only [ktrTop]); omega)), by (first | omega | ((try simp only [depth_under_make, units_under_make, depth_in1, units_in1, depth_deeper, units_deeper]); (try dsimp only [ktrTop]); omega))⟩)) (by assumption) ho hc hn (by omega) (by omega) hv (by show v < 2 ^ 1; omega) ?_
  intro c' h₁ tk₁ hc' F₁ N₁
  dsimp only [List.cons_append, List.nil_append] at *
  (((try dsimp only); (repeat (with_reducible first | refine nq_next ?_ | refine nq_ret ?_ | refine ng_next ?_ | refine ng_ret ?_ | refine nq_cont ?_ | refine nq_brk ?_ | refine ng_cont ?_ | refine ng_brk ?_)); (with_reducible refine execsG_nil ?_); (try dsimp only); (repeat (with_reducible first | refine nq_next ?_ | refine nq_ret ?_ | refine ng_next ?_ | refine ng_ret ?_ | refine nq_cont ?_ | refine nq_brk ?_ | refine ng_cont ?_ | refine ng_brk ?_)); (try dsimp only); ((try dsimp only); repeat' (first | ((with_reducible first | refine nq_next ?_ | refine nq_ret ?_ | refine ng_next ?_ | refine ng_ret ?_ | refine nq_cont ?_ | refine nq_brk ?_ | refine ng_cont ?_ | refine ng_brk ?_); (try dsimp only)) | (k_unfold; (try dsimp only)) | walk1 | (dsimp only; walk1) | (leave1; walk_say "STEP leave1"; try dsimp only)))))
  exact hret c' _ _ hc' (by assumption) (by assumption)
set_option maxRecDepth 100000 in
set_option maxHeartbeats 8000000 in
theorem lw_align {Q : Value → Shared → Prop} {o : LWo} {c : LWs} {W : Int} {n : Nat}
   (C : Cx w mean mg mb dp un cs outer A₀ base h₀ L m s.heap 4) (N : News h₀ L s.heap (lwE w o c ++ rest)) (ho : o.Ok rest) (hc : c.Ok W n) (h8 : c.hb = 0)
   (hret : ∀ h' tk', Fr h₀ L h' m → News h₀ L h' (lwE w o c ++ rest) → Q .none { s with heap := h', toks := tk' }) :
   wpG (model PySem.Challenge.rw_pq1208_01.row.prog w) (ktrTop dp un gd cn cs L a ccd cl outer) (call (.ref 141) [.ref o.x]) Q s := by
  refine Cx.el C fun B F X T hk hd hu => ?_
  dsimp only [List.cons_append, List.nil_append, de] at *
  ((refine wpG_call ?_; k_dflt ((refine' codeG_def ?k1z18 ?k2z18 ?k3z18 ?k4z18 ?k5z18 ?kAz18 ?kFz18 ?kKz18 ?k6z18 ?k7z18 ?k8z18 ?k9z18 ?kBz18 ?_ ?c2z18 ?c3z18 ?c4z18 ?c5z18; (case kAz18 => exact rfl); (case kFz18 => exact rfl); (case kKz18 => first | assumption | exact rfl); (case k1z18 => k_asm); (case k2z18 => k_asm); (case k3z18 => k_asm); (case k4z18 => k_asm); (case k5z18 => k_asm); (case k6z18 => k_is); (case k7z18 => k_is); (case k8z18 => ktr_room); (case k9z18 => exact BindsTo.of_eq rfl); (case c5z18 => decide); (case kBz18 => exact locs rfl); (case c2z18 => exact rfl); (case c3z18 => exact rfl); (case c4z18 => exact rfl); k_whole; intro g' L' h' FG' F' N' B' X' T'; (try dsimp only); (try k_lift B'); (try k_fold)))))
  (((try dsimp only); (repeat (with_reducible first | refine nq_next ?_ | refine nq_ret ?_ | refine ng_next ?_ | refine ng_ret ?_ | refine nq_cont ?_ | refine nq_brk ?_ | refine ng_cont ?_ | refine ng_brk ?_)); with_reducible refine execsG_cons ?_))
  refine G_If (wpG_of ?_)
  ((try dsimp only); repeat' (first | ((with_reducible first | refine nq_next ?_ | refine nq_ret ?_ | refine ng_next ?_ | refine ng_ret ?_ | refine nq_cont ?_ | refine nq_brk ?_ | refine ng_cont ?_ | refine ng_brk ?_); (try dsimp only)) | (k_unfold; (try dsimp only)) | walk1 | (dsimp only; walk1) | (leave1; walk_say "STEP leave1"; try dsimp only)))
  (((try dsimp only); (repeat (with_reducible first | refine nq_next ?_ | refine nq_ret ?_ | refine ng_next ?_ | refine ng_ret ?_ | refine nq_cont ?_ | refine nq_brk ?_ | refine ng_cont ?_ | refine ng_brk ?_)); (with_reducible refine execsG_nil ?_); (try dsimp only); (repeat (with_reducible first | refine nq_next ?_ | refine nq_ret ?_ | refine ng_next ?_ | refine ng_ret ?_ | refine nq_cont ?_ | refine nq_brk ?_ | refine ng_cont ?_ | refine ng_brk ?_)); (try dsimp only); ((try dsimp only); repeat' (first | ((with_reducible first | refine nq_next ?_ | refine nq_ret ?_ | refine ng_next ?_ | refine ng_ret ?_ | refine nq_cont ?_ | refine nq_brk ?_ | refine ng_cont ?_ | refine ng_brk ?_); (try dsimp only)) | (k_unfold; (try dsimp only)) | walk1 | (dsimp only; walk1) | (leave1; walk_say "STEP leave1"; try dsimp only)))))
  (((try dsimp only); (repeat (with_reducible first | refine nq_next ?_ | refine nq_ret ?_ | refine ng_next ?_ | refine ng_ret ?_ | refine nq_cont ?_ | refine nq_brk ?_ | refine ng_cont ?_ | refine ng_brk ?_)); (with_reducible refine execsG_nil ?_); (try dsimp only); (repeat (with_reducible first | refine nq_next ?_ | refine nq_ret ?_ | refine ng_next ?_ | refine ng_ret ?_ | refine nq_cont ?_ | refine nq_brk ?_ | refine ng_cont ?_ | refine ng_brk ?_)); (try dsimp only); ((try dsimp only); repeat' (first | ((with_reducible first | refine nq_next ?_ | refine nq_ret ?_ | refine ng_next ?_ | refine ng_ret ?_ | refine nq_cont ?_ | refine nq_brk ?_ | refine ng_cont ?_ | refine ng_brk ?_); (try dsimp only)) | (k_unfold; (try dsimp only)) | walk1 | (dsimp only; walk1) | (leave1; walk_say "STEP leave1"; try dsimp only)))))
  exact hret _ _ (by assumption) (by assumption)
set_option maxRecDepth 100000 in
set_option maxHeartbeats 8000000 in
theorem lw_octets {Q : Value → Shared → Prop} {o : LWo} {b : Array UInt8} {t : Tok} {c : LWs}
   (C : Cx w mean mg mb dp un cs outer A₀ base h₀ L m s.heap 5) (N : News h₀ L s.heap (lwE w o c ++ rest)) (ho : o.Ok rest) (hc : c.Ok 0 0) (hz : b.size ≤ 1000)
   (hret : ∀ c' h' tk', c'.Ok (bNat b) (8 * b.size) → Fr h₀ L h' m → News h₀ L h' (lwE w o c' ++ rest) → Q .none { s with heap := h', toks := tk' }) :
   wpG (model PySem.Challenge.rw_pq1208_01.row.prog w) (ktrTop dp un gd cn cs L a ccd cl outer) (call (.ref 148) [.ref o.x, .bytes b t]) Q s := by
  refine Cx.el C fun B F X T hk hd hu => ?_
  have h8 : c.hb = 0 := lw_hb0 hc
  have ho' := ho
  have hs : c.b = #[] := lw_b0 hc
  dsimp only [List.cons_append, List.nil_append, de] at *
  ((refine wpG_call ?_; k_dflt ((refine' codeG_def ?k1z19 ?k2z19 ?k3z19 ?k4z19 ?k5z19 ?kAz19 ?kFz19 ?kKz19 ?k6z19 ?k7z19 ?k8z19 ?k9z19 ?kBz19 ?_ ?c2z19 ?c3z19 ?c4z19 ?c5z19; (case kAz19 => exact rfl); (case kFz19 => exact rfl); (case kKz19 => first | assumption | exact rfl); (case k1z19 => k_asm); (case k2z19 => k_asm); (case k3z19 => k_asm); (case k4z19 => k_asm); (case k5z19 => k_asm); (case k6z19 => k_is); (case k7z19 => k_is); (case k8z19 => ktr_room); (case k9z19 => exact BindsTo.of_eq rfl); (case c5z19 => decide); (case kBz19 => exact locs rfl); (case c2z19 => exact rfl); (case c3z19 => exact rfl); (case c4z19 => exact rfl); k_whole; intro g' L' h' FG' F' N' B' X' T'; (try dsimp only); (try k_lift B'); (try k_fold)))))
  (((try dsimp only); (repeat (with_reducible first | refine nq_next ?_ | refine nq_ret ?_ | refine ng_next ?_ | refine ng_ret ?_ | refine nq_cont ?_ | refine nq_brk ?_ | refine ng_cont ?_ | refine ng_brk ?_)); with_reducible refine execsG_cons ?_))
  refine G_Expr ?_
  refine G_MethodCall ?_
  ((try dsimp only); repeat' (first | ((with_reducible first | refine nq_next ?_ | refine nq_ret ?_ | refine ng_next ?_ | refine ng_ret ?_ | refine nq_cont ?_ | refine nq_brk ?_ | refine ng_cont ?_ | refine ng_brk ?_); (try dsimp only)) | (k_unfold; (try dsimp only)) | walk1 | (dsimp only; walk1) | (leave1; walk_say "STEP leave1"; try dsimp only)))
  ((k_dflt (first | (refine' gc_K0' ?k1z16 ?k3z16 ?k2z16 ?_; (case k1z16 => k_asm); (case k3z16 => k_asm); (case k2z16 => k_is)) | (refine' gc_K ?k1z16 ?k2z16 ?_; (case k1z16 => k_asm); (case k2z16 => k_is)))))
  refine lw_align (o := o) (c := c) (by (exact ⟨by assumption, by assumption, by assumption, by assumption, rfl, by (first | omega | ((try simp only [depth_under_make, units_under_make, depth_in1, units_in1, depth_deeper, units_deeper]); (try dsimp only [ktrTop]); omega)), by (first | omega | ((try simp only [depth_under_make, units_under_make, depth_in1, units_in1, depth_deeper, units_deeper]); (try dsimp only [ktrTop]); omega))⟩)) (by assumption) ho hc h8 ?_
  intro h₁ tk₁ F₁ N₁
  first | refine el5 (ho) fun o1 o2 o3 o4 o5 => ?_ | obtain ⟨o1, o2, o3, o4, o5⟩ := ho
  dsimp only [List.cons_append, List.nil_append, de] at *
  (((try dsimp only); (repeat (with_reducible first | refine nq_next ?_ | refine nq_ret ?_ | refine ng_next ?_ | refine ng_ret ?_ | refine nq_cont ?_ | refine nq_brk ?_ | refine ng_cont ?_ | refine ng_brk ?_)); with_reducible refine execsG_cons ?_))
  refine G_Expr ?_
  refine G_MethodCall ?_
  ((try dsimp only); repeat' (first | ((with_reducible first | refine nq_next ?_ | refine nq_ret ?_ | refine ng_next ?_ | refine ng_ret ?_ | refine nq_cont ?_ | refine nq_brk ?_ | refine ng_cont ?_ | refine ng_brk ?_); (try dsimp only)) | (k_unfold; (try dsimp only)) | walk1 | (dsimp only; walk1) | (leave1; walk_say "STEP leave1"; try dsimp only)))
  refine gc_meth1 ?_
  ((try dsimp only); repeat' (first | ((with_reducible first | refine nq_next ?_ | refine nq_ret ?_ | refine ng_next ?_ | refine ng_ret ?_ | refine nq_cont ?_ | refine nq_brk ?_ | refine ng_cont ?_ | refine ng_brk ?_); (try dsimp only)) | (k_unfold; (try dsimp only)) | walk1 | (dsimp only; walk1) | (leave1; walk_say "STEP leave1"; try dsimp only)))
  refine ba_extend (by assumption) (by assumption) (by (((repeat' (first | assumption | exact List.forall_mem_nil _ | exact off_nil | refine off_snoc ?_ ?_ | refine List.forall_mem_cons.mpr ⟨?_, ?_⟩)) <;> (try dsimp only) <;> first | assumption | exact Nat.ne_of_lt (by assumption) | exact Nat.ne_of_gt (by assumption) | exact Nat.ne_of_gt (by omega) | exact Nat.ne_of_lt (by omega) | exact allLt_ne (by assumption) | exact allLt_ne (rt1 (by assumption)) | exact allLt_ne (rt2 (by assumption)) | exact allLt_ne (rt3 (by assumption)) | exact allLt_ne (rt4 (by assumption)) | exact allLt_ne (rt5 (by assumption)) | exact fun p hp => Nat.ne_of_lt (‹∀ p ∈ _, p.1 < _› p hp) | exact fun p hp => Nat.ne_of_lt (Nat.lt_trans (‹∀ p ∈ _, p.1 < _› p hp) (by omega)) | exact allLt_ne2 (by assumption) (by omega) | exact allLt_ne2 (rt1 (by assumption)) (by omega) | exact allLt_ne2 (rt2 (by assumption)) (by omega) | exact allLt_ne2 (rt3 (by assumption)) (by omega)))) (by rw [hs, sizeLine_eq]; show 0 + _ ≤ _; omega) ?_
  intro h₂ F₂ N₂
  (((try dsimp only); (repeat (with_reducible first | refine nq_next ?_ | refine nq_ret ?_ | refine ng_next ?_ | refine ng_ret ?_ | refine nq_cont ?_ | refine nq_brk ?_ | refine ng_cont ?_ | refine ng_brk ?_)); (with_reducible refine execsG_nil ?_); (try dsimp only); (repeat (with_reducible first | refine nq_next ?_ | refine nq_ret ?_ | refine ng_next ?_ | refine ng_ret ?_ | refine nq_cont ?_ | refine nq_brk ?_ | refine ng_cont ?_ | refine ng_brk ?_)); (try dsimp only); ((try dsimp only); repeat' (first | ((with_reducible first | refine nq_next ?_ | refine nq_ret ?_ | refine ng_next ?_ | refine ng_ret ?_ | refine nq_cont ?_ | refine nq_brk ?_ | refine ng_cont ?_ | refine ng_brk ?_); (try dsimp only)) | (k_unfold; (try dsimp only)) | walk1 | (dsimp only; walk1) | (leave1; walk_say "STEP leave1"; try dsimp only)))))
  refine hret ⟨c.b ++ b, c.held, c.th, c.hb, c.tb⟩ _ _ ?_ (by assumption) (by assumption)
  exact lw_ext hc
end
def lw_doneS (w : World) (mean : ExcName → Option Value) (mg : Str → Option Value) (mb : Str → Option Value) (dp : Nat) (un : Nat) (gd : Option (List Code)) (cn : Str) (cs : Scope) (a : Addr) (ccd : Value) (cl : List (Str × Addr)) (outer : List Env) (A₀ : Around) (base : Heap) (h₀ : Heap) (L : Addr) (m : Str → Option Value) (rest : List (Addr × Obj)) (s : Shared) (E : Value → Shared → Prop) : Prop :=
  ∀ {Q : Value → Shared → Prop} {o : LWo} {c : LWs} {W : Int} {n : Nat} (C : Cx w mean mg mb dp un cs outer A₀ base h₀ L m s.heap 1) (N : News h₀ L s.heap (lwE w o c ++ rest)) (ho : o.Ok rest) (hc : c.Ok W n) (hn : n ≤ 1000) (hret : ∀ b t h' tk', bNat b = W → b.size = (n + 7) / 8 → Fr h₀ L h' m → News h₀ L h' (lwE w o c ++ rest) → Q (.bytes b t) { s with heap := h', toks := tk' }),
   wpAny (model PySem.Challenge.rw_pq1208_01.row.prog w) (ktrTop dp un gd cn cs L a ccd cl outer) (call (.ref 162) [.ref o.x]) Q E s
namespace Klw_done
noncomputable def pt : Pm := pmAt fun p => lw_doneS p.w p.mean p.mg p.mb p.dp p.un p.gd p.cn p.cs p.a p.ccd p.cl p.outer p.A₀ p.base p.h₀ p.L p.m p.rest p.s p.E
set_option maxRecDepth 100000 in
set_option maxHeartbeats 8000000 in
theorem walk : lw_doneS pt.w pt.mean pt.mg pt.mb pt.dp pt.un pt.gd pt.cn pt.cs pt.a pt.ccd pt.cl pt.outer pt.A₀ pt.base pt.h₀ pt.L pt.m pt.rest pt.s pt.E := by
  unfold lw_doneS
  intro Q o c W n C N ho hc hn hret
  refine Cx.el C fun B F X T hk hd hu => ?_
  first | refine el6 (o) fun x dx D k1 k2 k3 => ?_ | obtain ⟨x, dx, D, k1, k2, k3⟩ := o
  first | refine el5 (c) fun b held th hb tb => ?_ | obtain ⟨b, held, th, hb, tb⟩ := c
  first | refine el5 (ho) fun o1 o2 o3 o4 o5 => ?_ | obtain ⟨o1, o2, o3, o4, o5⟩ := ho
  first | refine el6 (hc) fun c1 c2 c3 c4 c5 c6 => ?_ | obtain ⟨c1, c2, c3, c4, c5, c6⟩ := hc
  dsimp only [List.cons_append, List.nil_append, de] at *
  have c7 : b.size ≤ 1000 := by omega
  have c8 : held < 256 := Int.lt_of_lt_of_le c4 (pow_le8 c1 c2)
  refine wpAny_call ?_
  k_dflt cell_enter
  ((try dsimp only); repeat' (first | ((with_reducible first | refine nq_next ?_ | refine nq_ret ?_ | refine ng_next ?_ | refine ng_ret ?_ | refine nq_cont ?_ | refine nq_brk ?_ | refine ng_cont ?_ | refine ng_brk ?_); (try dsimp only)) | (k_unfold; (try dsimp only)) | walk1 | (dsimp only; walk1) | (leave1; walk_say "STEP leave1"; try dsimp only)))
  · refine hret _ _ _ _ ?_ ?_ (by assumption) (drop0 (by assumption))
    · rw [lw_byte c3 c8, c6]
    · rw [Array.size_append]; show b.size + 1 = _; omega
  · have h8 : hb = 0 := by omega
    have h9 : held = 0 := by subst h8; have : held < 1 := c4; omega
    refine hret _ _ _ _ ?_ ?_ (by assumption) (drop0 (by assumption))
    · rw [Array.append_empty, c6, h9, Int.zero_mul, Int.add_zero]
    · rw [Array.append_empty]; omega
end Klw_done
theorem lw_done {w : World} {mean : ExcName → Option Value} {mg : Str → Option Value} {mb : Str → Option Value} {dp : Nat} {un : Nat} {gd : Option (List Code)} {cn : Str} {cs : Scope} {a : Addr} {ccd : Value} {cl : List (Str × Addr)} {outer : List Env} {A₀ : Around} {base : Heap} {h₀ : Heap} {L : Addr} {m : Str → Option Value} {rest : List (Addr × Obj)} {s : Shared} {E : Value → Shared → Prop} : lw_doneS w mean mg mb dp un gd cn cs a ccd cl outer A₀ base h₀ L m rest s E := pm_all (P := fun p => lw_doneS p.w p.mean p.mg p.mb p.dp p.un p.gd p.cn p.cs p.a p.ccd p.cl p.outer p.A₀ p.base p.h₀ p.L p.m p.rest p.s p.E) Klw_done.walk { pmD with w := w, mean := mean, mg := mg, mb := mb, dp := dp, un := un, gd := gd, cn := cn, cs := cs, a := a, ccd := ccd, cl := cl, outer := outer, A₀ := A₀, base := base, h₀ := h₀, L := L, m := m, rest := rest, s := s, E := E }
end
section -- E9
theorem walk_off_E9 : True := by
  w_top off
  exact trivial
section
variable {w : World} {mean : ExcName → Option Value} {mg mb : Str → Option Value} {dp un : Nat} {gd : Option (List Code)} {cn : Str} {cs : Scope} {a : Addr} {ccd : Value} {cl : List (Str × Addr)} {outer : List Env} {A₀ : Around} {base h₀ : Heap} {L : Addr} {m : Str → Option Value} {rest news : List (Addr × Obj)} {s : Shared} {Q E : Value → Shared → Prop}
set_option maxRecDepth 100000 in
set_option maxHeartbeats 8000000 in
theorem bw_new {Q : Value → Shared → Prop}
   (C : Cx w mean mg mb dp un cs outer A₀ base h₀ L m s.heap 4) (N : News h₀ L s.heap news)
   (hret : ∀ (p : BWo) (c : LWs) h' tk', p.Ok news → c.Ok 0 0 → AllLt p.dx news → Fr h₀ L h' m → News h₀ L h' (bwE w p c ++ news) → Q (.ref p.x) { s with heap := h', toks := tk' }) :
   wpG (model PySem.Challenge.rw_pq1208_01.row.prog w) (ktrTop dp un gd cn cs L a ccd cl outer) (call (.ref 256) []) Q s := by
  refine Cx.el C fun B F X T hk hd hu => ?_
  ((k_dflt (refine' call_clsG ?k1z20 ?k2z20 ?k3z20 ?k4z20 ?k5z20 ?k6z20 ?_; (case k1z20 => k_asm); (case k2z20 => k_asm); (case k3z20 => k_asm); (case k4z20 => k_is); (case k5z20 => k_is); (case k6z20 => k_is); k_whole; intro x' d' h' F' N' l1 l2; (have lA := allLt_of l1); (try k_lt l1); (try k_lt2 l2); (try k_sweep); ((refine' codeG_def ?k1z27 ?k2z27 ?k3z27 ?k4z27 ?k5z27 ?kAz27 ?kFz27 ?kKz27 ?k6z27 ?k7z27 ?k8z27 ?k9z27 ?kBz27 ?_ ?c2z27 ?c3z27 ?c4z27 ?c5z27; (case kAz27 => exact rfl); (case kFz27 => exact rfl); (case kKz27 => first | assumption | exact rfl); (case k1z27 => k_asm); (case k2z27 => k_asm); (case k3z27 => k_asm); (case k4z27 => k_asm); (case k5z27 => k_asm); (case k6z27 => k_is); (case k7z27 => k_is); (case k8z27 => ktr_room); (case k9z27 => exact BindsTo.of_eq rfl); (case c5z27 => decide); (case kBz27 => exact locs rfl); (case c2z27 => exact rfl); (case c3z27 => exact rfl); (case c4z27 => exact rfl); k_whole; intro g' L' h' FG' F' N' B' X' T'; (try dsimp only); (try k_lift B'); (try k_fold))))))
  (((try dsimp only); (repeat (with_reducible first | refine nq_next ?_ | refine nq_ret ?_ | refine ng_next ?_ | refine ng_ret ?_ | refine nq_cont ?_ | refine nq_brk ?_ | refine ng_cont ?_ | refine ng_brk ?_)); with_reducible refine execsG_cons ?_))
  refine G_Assign_Attribute ?_
  refine G_Call ?_
  ((try dsimp only); repeat' (first | ((with_reducible first | refine nq_next ?_ | refine nq_ret ?_ | refine ng_next ?_ | refine ng_ret ?_ | refine nq_cont ?_ | refine nq_brk ?_ | refine ng_cont ?_ | refine ng_brk ?_); (try dsimp only)) | (k_unfold; (try dsimp only)) | walk1 | (dsimp only; walk1) | (leave1; walk_say "STEP leave1"; try dsimp only)))
  ((k_dflt (first | (refine' gc_K0' ?k1z21 ?k3z21 ?k2z21 ?_; (case k1z21 => k_asm); (case k3z21 => k_asm); (case k2z21 => k_is)) | (refine' gc_K ?k1z21 ?k2z21 ?_; (case k1z21 => k_asm); (case k2z21 => k_is)))))
  refine lw_new (by (exact ⟨by assumption, by assumption, by assumption, by assumption, rfl, by (first | omega | ((try simp only [depth_under_make, units_under_make, depth_in1, units_in1, depth_deeper, units_deeper]); (try dsimp only [ktrTop]); omega)), by (first | omega | ((try simp only [depth_under_make, units_under_make, depth_in1, units_in1, depth_deeper, units_deeper]); (try dsimp only [ktrTop]); omega))⟩)) (by assumption) ?_
  intro o c h₁ tk₁ ho hc hl F₁ N₁
  first | refine el5 (ho) fun o1 o2 o3 o4 o5 => ?_ | obtain ⟨o1, o2, o3, o4, o5⟩ := ho
  first | refine el3 (hl) fun q1 q2 q3 => ?_ | obtain ⟨q1, q2, q3⟩ := hl
  dsimp only [List.cons_append, List.nil_append, de] at *
  ((try dsimp only); repeat' (first | ((with_reducible first | refine nq_next ?_ | refine nq_ret ?_ | refine ng_next ?_ | refine ng_ret ?_ | refine nq_cont ?_ | refine nq_brk ?_ | refine ng_cont ?_ | refine ng_brk ?_); (try dsimp only)) | (k_unfold; (try dsimp only)) | walk1 | (dsimp only; walk1) | (leave1; walk_say "STEP leave1"; try dsimp only)))
  (((try dsimp only); (repeat (with_reducible first | refine nq_next ?_ | refine nq_ret ?_ | refine ng_next ?_ | refine ng_ret ?_ | refine nq_cont ?_ | refine nq_brk ?_ | refine ng_cont ?_ | refine ng_brk ?_)); (with_reducible refine execsG_nil ?_); (try dsimp only); (repeat (with_reducible first | refine nq_next ?_ | refine nq_ret ?_ | refine ng_next ?_ | refine ng_ret ?_ | refine nq_cont ?_ | refine nq_brk ?_ | refine ng_cont ?_ | refine ng_brk ?_)); (try dsimp only); ((try dsimp only); repeat' (first | ((with_reducible first | refine nq_next ?_ | refine nq_ret ?_ | refine ng_next ?_ | refine ng_ret ?_ | refine nq_cont ?_ | refine nq_brk ?_ | refine ng_cont ?_ | refine ng_brk ?_); (try dsimp only)) | (k_unfold; (try dsimp only)) | walk1 | (dsimp only; walk1) | (leave1; walk_say "STEP leave1"; try dsimp only)))))
  exact hret ⟨_, _, _, o⟩ c _ _ ⟨by assumption, by assumption, o1, o2, by (((repeat' (first | assumption | exact List.forall_mem_nil _ | exact off_nil | refine off_snoc ?_ ?_ | refine List.forall_mem_cons.mpr ⟨?_, ?_⟩)) <;> (try dsimp only) <;> first | assumption | exact Nat.ne_of_lt (by assumption) | exact Nat.ne_of_gt (by assumption) | exact Nat.ne_of_gt (by omega) | exact Nat.ne_of_lt (by omega) | exact allLt_ne (by assumption) | exact allLt_ne (rt1 (by assumption)) | exact allLt_ne (rt2 (by assumption)) | exact allLt_ne (rt3 (by assumption)) | exact allLt_ne (rt4 (by assumption)) | exact allLt_ne (rt5 (by assumption)) | exact fun p hp => Nat.ne_of_lt (‹∀ p ∈ _, p.1 < _› p hp) | exact fun p hp => Nat.ne_of_lt (Nat.lt_trans (‹∀ p ∈ _, p.1 < _› p hp) (by omega)) | exact allLt_ne2 (by assumption) (by omega) | exact allLt_ne2 (rt1 (by assumption)) (by omega) | exact allLt_ne2 (rt2 (by assumption)) (by omega) | exact allLt_ne2 (rt3 (by assumption)) (by omega))), by (((repeat' (first | assumption | exact List.forall_mem_nil _ | exact off_nil | refine off_snoc ?_ ?_ | refine List.forall_mem_cons.mpr ⟨?_, ?_⟩)) <;> (try dsimp only) <;> first | assumption | exact Nat.ne_of_lt (by assumption) | exact Nat.ne_of_gt (by assumption) | exact Nat.ne_of_gt (by omega) | exact Nat.ne_of_lt (by omega) | exact allLt_ne (by assumption) | exact allLt_ne (rt1 (by assumption)) | exact allLt_ne (rt2 (by assumption)) | exact allLt_ne (rt3 (by assumption)) | exact allLt_ne (rt4 (by assumption)) | exact allLt_ne (rt5 (by assumption)) | exact fun p hp => Nat.ne_of_lt (‹∀ p ∈ _, p.1 < _› p hp) | exact fun p hp => Nat.ne_of_lt (Nat.lt_trans (‹∀ p ∈ _, p.1 < _› p hp) (by omega)) | exact allLt_ne2 (by assumption) (by omega) | exact allLt_ne2 (rt1 (by assumption)) (by omega) | exact allLt_ne2 (rt2 (by assumption)) (by omega) | exact allLt_ne2 (rt3 (by assumption)) (by omega))), by (((repeat' (first | assumption | exact List.forall_mem_nil _ | exact off_nil | refine off_snoc ?_ ?_ | refine List.forall_mem_cons.mpr ⟨?_, ?_⟩)) <;> (try dsimp only) <;> first | assumption | exact Nat.ne_of_lt (by assumption) | exact Nat.ne_of_gt (by assumption) | exact Nat.ne_of_gt (by omega) | exact Nat.ne_of_lt (by omega) | exact allLt_ne (by assumption) | exact allLt_ne (rt1 (by assumption)) | exact allLt_ne (rt2 (by assumption)) | exact allLt_ne (rt3 (by assumption)) | exact allLt_ne (rt4 (by assumption)) | exact allLt_ne (rt5 (by assumption)) | exact fun p hp => Nat.ne_of_lt (‹∀ p ∈ _, p.1 < _› p hp) | exact fun p hp => Nat.ne_of_lt (Nat.lt_trans (‹∀ p ∈ _, p.1 < _› p hp) (by omega)) | exact allLt_ne2 (by assumption) (by omega) | exact allLt_ne2 (rt1 (by assumption)) (by omega) | exact allLt_ne2 (rt2 (by assumption)) (by omega) | exact allLt_ne2 (rt3 (by assumption)) (by omega))), by (((repeat' (first | assumption | exact List.forall_mem_nil _ | exact off_nil | refine off_snoc ?_ ?_ | refine List.forall_mem_cons.mpr ⟨?_, ?_⟩)) <;> (try dsimp only) <;> first | assumption | exact Nat.ne_of_lt (by assumption) | exact Nat.ne_of_gt (by assumption) | exact Nat.ne_of_gt (by omega) | exact Nat.ne_of_lt (by omega) | exact allLt_ne (by assumption) | exact allLt_ne (rt1 (by assumption)) | exact allLt_ne (rt2 (by assumption)) | exact allLt_ne (rt3 (by assumption)) | exact allLt_ne (rt4 (by assumption)) | exact allLt_ne (rt5 (by assumption)) | exact fun p hp => Nat.ne_of_lt (‹∀ p ∈ _, p.1 < _› p hp) | exact fun p hp => Nat.ne_of_lt (Nat.lt_trans (‹∀ p ∈ _, p.1 < _› p hp) (by omega)) | exact allLt_ne2 (by assumption) (by omega) | exact allLt_ne2 (rt1 (by assumption)) (by omega) | exact allLt_ne2 (rt2 (by assumption)) (by omega) | exact allLt_ne2 (rt3 (by assumption)) (by omega))), by (((repeat' (first | assumption | exact List.forall_mem_nil _ | exact off_nil | refine off_snoc ?_ ?_ | refine List.forall_mem_cons.mpr ⟨?_, ?_⟩)) <;> (try dsimp only) <;> first | assumption | exact Nat.ne_of_lt (by assumption) | exact Nat.ne_of_gt (by assumption) | exact Nat.ne_of_gt (by omega) | exact Nat.ne_of_lt (by omega) | exact allLt_ne (by assumption) | exact allLt_ne (rt1 (by assumption)) | exact allLt_ne (rt2 (by assumption)) | exact allLt_ne (rt3 (by assumption)) | exact allLt_ne (rt4 (by assumption)) | exact allLt_ne (rt5 (by assumption)) | exact fun p hp => Nat.ne_of_lt (‹∀ p ∈ _, p.1 < _› p hp) | exact fun p hp => Nat.ne_of_lt (Nat.lt_trans (‹∀ p ∈ _, p.1 < _› p hp) (by omega)) | exact allLt_ne2 (by assumption) (by omega) | exact allLt_ne2 (rt1 (by assumption)) (by omega) | exact allLt_ne2 (rt2 (by assumption)) (by omega) | exact allLt_ne2 (rt3 (by assumption)) (by omega)))⟩ hc (by assumption) (by assumption) (by assumption)
set_option maxRecDepth 100000 in
set_option maxHeartbeats 8000000 in
theorem bw_bits {Q : Value → Shared → Prop} {p : BWo} {c : LWs} {W : Int} {n : Nat} {v k : Int} {t1 t2 : Tok}
   (C : Cx w mean mg mb dp un cs outer A₀ base h₀ L m s.heap 4) (N : News h₀ L s.heap (bwE w p c ++ rest)) (ho : p.Ok rest) (hc : c.Ok W n) (hn : n ≤ 1000) (hk0 : 0 ≤ k) (hk2 : k ≤ 20) (hv : 0 ≤ v) (hv2 : v < 2 ^ k.toNat)
   (hret : ∀ c' h' tk', c'.Ok (W + v * 2 ^ n) (n + k.toNat) → Fr h₀ L h' m → News h₀ L h' (bwE w p c' ++ rest) → Q .none { s with heap := h', toks := tk' }) :
   wpG (model PySem.Challenge.rw_pq1208_01.row.prog w) (ktrTop dp un gd cn cs L a ccd cl outer) (call (.ref 239) [.ref p.x, .int v t1, .int k t2]) Q s := by
  refine Cx.el C fun B F X T hk hd hu => ?_
  first | refine el9 (ho) fun o1 o2 o3 o4 o5 o6 o7 o8 o9 => ?_ | obtain ⟨o1, o2, o3, o4, o5, o6, o7, o8, o9⟩ := ho
  dsimp only [List.cons_append, List.nil_append, de] at *
  ((refine wpG_call ?_; k_dflt ((refine' codeG_def ?k1z28 ?k2z28 ?k3z28 ?k4z28 ?k5z28 ?kAz28 ?kFz28 ?kKz28 ?k6z28 ?k7z28 ?k8z28 ?k9z28 ?kBz28 ?_ ?c2z28 ?c3z28 ?c4z28 ?c5z28; (case kAz28 => exact rfl); (case kFz28 => exact rfl); (case kKz28 => first | assumption | exact rfl); (case k1z28 => k_asm); (case k2z28 => k_asm); (case k3z28 => k_asm); (case k4z28 => k_asm); (case k5z28 => k_asm); (case k6z28 => k_is); (case k7z28 => k_is); (case k8z28 => ktr_room); (case k9z28 => exact BindsTo.of_eq rfl); (case c5z28 => decide); (case kBz28 => exact locs rfl); (case c2z28 => exact rfl); (case c3z28 => exact rfl); (case c4z28 => exact rfl); k_whole; intro g' L' h' FG' F' N' B' X' T'; (try dsimp only); (try k_lift B'); (try k_fold)))))
  (((try dsimp only); (repeat (with_reducible first | refine nq_next ?_ | refine nq_ret ?_ | refine ng_next ?_ | refine ng_ret ?_ | refine nq_cont ?_ | refine nq_brk ?_ | refine ng_cont ?_ | refine ng_brk ?_)); with_reducible refine execsG_cons ?_))
  refine G_Expr ?_
  refine G_MethodCall ?_
  ((try dsimp only); repeat' (first | ((with_reducible first | refine nq_next ?_ | refine nq_ret ?_ | refine ng_next ?_ | refine ng_ret ?_ | refine nq_cont ?_ | refine nq_brk ?_ | refine ng_cont ?_ | refine ng_brk ?_); (try dsimp only)) | (k_unfold; (try dsimp only)) | walk1 | (dsimp only; walk1) | (leave1; walk_say "STEP leave1"; try dsimp only)))
  ((k_dflt (first | (refine' gc_K0' ?k1z22 ?k3z22 ?k2z22 ?_; (case k1z22 => k_asm); (case k3z22 => k_asm); (case k2z22 => k_is)) | (refine' gc_K ?k1z22 ?k2z22 ?_; (case k1z22 => k_asm); (case k2z22 => k_is)))))
  ((try dsimp only); repeat' (first | ((with_reducible first | refine nq_next ?_ | refine nq_ret ?_ | refine ng_next ?_ | refine ng_ret ?_ | refine nq_cont ?_ | refine nq_brk ?_ | refine ng_cont ?_ | refine ng_brk ?_); (try dsimp only)) | (k_unfold; (try dsimp only)) | walk1 | (dsimp only; walk1) | (leave1; walk_say "STEP leave1"; try dsimp only)))
  refine lw_bits (o := p.o) (c := c) (W := W) (n := n) (by (exact ⟨by assumption, by assumption, by assumption, by assumption, rfl, by (first | omega | ((try simp only [depth_under_make, units_under_make, depth_in1, units_in1, depth_deeper, units_deeper]); (try dsimp only [ktrTop]); omega)), by (first | omega | ((try simp only [depth_under_make, units_under_make, depth_in1, units_in1, depth_deeper, units_deeper]); (try dsimp only [ktrTop]); omega))⟩)) (by assumption) ⟨o3, o4, by (((repeat' (first | assumption | exact List.forall_mem_nil _ | exact off_nil | refine off_snoc ?_ ?_ | refine List.forall_mem_cons.mpr ⟨?_, ?_⟩)) <;> (try dsimp only) <;> first | assumption | exact Nat.ne_of_lt (by assumption) | exact Nat.ne_of_gt (by assumption) | exact Nat.ne_of_gt (by omega) | exact Nat.ne_of_lt (by omega) | exact allLt_ne (by assumption) | exact allLt_ne (rt1 (by assumption)) | exact allLt_ne (rt2 (by assumption)) | exact allLt_ne (rt3 (by assumption)) | exact allLt_ne (rt4 (by assumption)) | exact allLt_ne (rt5 (by assumption)) | exact fun p hp => Nat.ne_of_lt (‹∀ p ∈ _, p.1 < _› p hp) | exact fun p hp => Nat.ne_of_lt (Nat.lt_trans (‹∀ p ∈ _, p.1 < _› p hp) (by omega)) | exact allLt_ne2 (by assumption) (by omega) | exact allLt_ne2 (rt1 (by assumption)) (by omega) | exact allLt_ne2 (rt2 (by assumption)) (by omega) | exact allLt_ne2 (rt3 (by assumption)) (by omega))), by (((repeat' (first | assumption | exact List.forall_mem_nil _ | exact off_nil | refine off_snoc ?_ ?_ | refine List.forall_mem_cons.mpr ⟨?_, ?_⟩)) <;> (try dsimp only) <;> first | assumption | exact Nat.ne_of_lt (by assumption) | exact Nat.ne_of_gt (by assumption) | exact Nat.ne_of_gt (by omega) | exact Nat.ne_of_lt (by omega) | exact allLt_ne (by assumption) | exact allLt_ne (rt1 (by assumption)) | exact allLt_ne (rt2 (by assumption)) | exact allLt_ne (rt3 (by assumption)) | exact allLt_ne (rt4 (by assumption)) | exact allLt_ne (rt5 (by assumption)) | exact fun p hp => Nat.ne_of_lt (‹∀ p ∈ _, p.1 < _› p hp) | exact fun p hp => Nat.ne_of_lt (Nat.lt_trans (‹∀ p ∈ _, p.1 < _› p hp) (by omega)) | exact allLt_ne2 (by assumption) (by omega) | exact allLt_ne2 (rt1 (by assumption)) (by omega) | exact allLt_ne2 (rt2 (by assumption)) (by omega) | exact allLt_ne2 (rt3 (by assumption)) (by omega))), by (((repeat' (first | assumption | exact List.forall_mem_nil _ | exact off_nil | refine off_snoc ?_ ?_ | refine List.forall_mem_cons.mpr ⟨?_, ?_⟩)) <;> (try dsimp only) <;> first | assumption | exact Nat.ne_of_lt (by assumption) | exact Nat.ne_of_gt (by assumption) | exact Nat.ne_of_gt (by omega) | exact Nat.ne_of_lt (by omega) | exact allLt_ne (by assumption) | exact allLt_ne (rt1 (by assumption)) | exact allLt_ne (rt2 (by assumption)) | exact allLt_ne (rt3 (by assumption)) | exact allLt_ne (rt4 (by assumption)) | exact allLt_ne (rt5 (by assumption)) | exact fun p hp => Nat.ne_of_lt (‹∀ p ∈ _, p.1 < _› p hp) | exact fun p hp => Nat.ne_of_lt (Nat.lt_trans (‹∀ p ∈ _, p.1 < _› p hp) (by omega)) | exact allLt_ne2 (by assumption) (by omega) | exact allLt_ne2 (rt1 (by assumption)) (by omega) | exact allLt_ne2 (rt2 (by assumption)) (by omega) | exact allLt_ne2 (rt3 (by assumption)) (by omega)))⟩ hc hn hk0 hk2 hv hv2 ?_
  intro c' h₁ tk₁ hc' F₁ N₁
  dsimp only [List.cons_append, List.nil_append] at *
  (((try dsimp only); (repeat (with_reducible first | refine nq_next ?_ | refine nq_ret ?_ | refine ng_next ?_ | refine ng_ret ?_ | refine nq_cont ?_ | refine nq_brk ?_ | refine ng_cont ?_ | refine ng_brk ?_)); (with_reducible refine execsG_nil ?_); (try dsimp only); (repeat (with_reducible first | refine nq_next ?_ | refine nq_ret ?_ | refine ng_next ?_ | refine ng_ret ?_ | refine nq_cont ?_ | refine nq_brk ?_ | refine ng_cont ?_ | refine ng_brk ?_)); (try dsimp only); ((try dsimp only); repeat' (first | ((with_reducible first | refine nq_next ?_ | refine nq_ret ?_ | refine ng_next ?_ | refine ng_ret ?_ | refine nq_cont ?_ | refine nq_brk ?_ | refine ng_cont ?_ | refine ng_brk ?_); (try dsimp only)) | (k_unfold; (try dsimp only)) | walk1 | (dsimp only; walk1) | (leave1; walk_say "STEP leave1"; try dsimp only)))))
  exact hret c' _ _ hc' (by assumption) (by assumption)
end
def bw_doneS (w : World) (mean : ExcName → Option Value) (mg : Str → Option Value) (mb : Str → Option Value) (dp : Nat) (un : Nat) (gd : Option (List Code)) (cn : Str) (cs : Scope) (a : Addr) (ccd : Value) (cl : List (Str × Addr)) (outer : List Env) (A₀ : Around) (base : Heap) (h₀ : Heap) (L : Addr) (m : Str → Option Value) (rest : List (Addr × Obj)) (s : Shared) : Prop :=
  ∀ {Q : Value → Shared → Prop} {p : BWo} {c : LWs} {W : Int} {n : Nat} (C : Cx w mean mg mb dp un cs outer A₀ base h₀ L m s.heap 6) (N : News h₀ L s.heap (bwE w p c ++ rest)) (ho : p.Ok rest) (hc : c.Ok W n) (hn : n ≤ 900) (hret : ∀ b t h' tk', bNat b = W + 2 ^ n → b.size = n / 8 + 1 → Fr h₀ L h' m → News h₀ L h' (bwE w p c ++ rest) → Q (.bytes b t) { s with heap := h', toks := tk' }),
   wpG (model PySem.Challenge.rw_pq1208_01.row.prog w) (ktrTop dp un gd cn cs L a ccd cl outer) (call (.ref 253) [.ref p.x]) Q s
namespace Kbw_done
noncomputable def pt : Pm := pmAt fun p => bw_doneS p.w p.mean p.mg p.mb p.dp p.un p.gd p.cn p.cs p.a p.ccd p.cl p.outer p.A₀ p.base p.h₀ p.L p.m p.rest p.s
set_option maxRecDepth 100000 in
set_option maxHeartbeats 8000000 in
theorem walk : bw_doneS pt.w pt.mean pt.mg pt.mb pt.dp pt.un pt.gd pt.cn pt.cs pt.a pt.ccd pt.cl pt.outer pt.A₀ pt.base pt.h₀ pt.L pt.m pt.rest pt.s := by
  unfold bw_doneS
  intro Q p c W n C N ho hc hn hret
  refine Cx.el C fun B F X T hk hd hu => ?_
  have hz := lw_size hc (by omega)
  first | refine el9 (ho) fun o1 o2 o3 o4 o5 o6 o7 o8 o9 => ?_ | obtain ⟨o1, o2, o3, o4, o5, o6, o7, o8, o9⟩ := ho
  dsimp only [List.cons_append, List.nil_append, de] at *
  ((refine wpG_call ?_; k_dflt ((refine' codeG_def ?k1z29 ?k2z29 ?k3z29 ?k4z29 ?k5z29 ?kAz29 ?kFz29 ?kKz29 ?k6z29 ?k7z29 ?k8z29 ?k9z29 ?kBz29 ?_ ?c2z29 ?c3z29 ?c4z29 ?c5z29; (case kAz29 => exact rfl); (case kFz29 => exact rfl); (case kKz29 => first | assumption | exact rfl); (case k1z29 => k_asm); (case k2z29 => k_asm); (case k3z29 => k_asm); (case k4z29 => k_asm); (case k5z29 => k_asm); (case k6z29 => k_is); (case k7z29 => k_is); (case k8z29 => ktr_room); (case k9z29 => exact BindsTo.of_eq rfl); (case c5z29 => decide); (case kBz29 => exact locs rfl); (case c2z29 => exact rfl); (case c3z29 => exact rfl); (case c4z29 => exact rfl); k_whole; intro g' L' h' FG' F' N' B' X' T'; (try dsimp only); (try k_lift B'); (try k_fold)))))
  (((try dsimp only); (repeat (with_reducible first | refine nq_next ?_ | refine nq_ret ?_ | refine ng_next ?_ | refine ng_ret ?_ | refine nq_cont ?_ | refine nq_brk ?_ | refine ng_cont ?_ | refine ng_brk ?_)); with_reducible refine execsG_cons ?_))
  refine G_Assign_Name ?_
  refine G_Call ?_
  ((try dsimp only); repeat' (first | ((with_reducible first | refine nq_next ?_ | refine nq_ret ?_ | refine ng_next ?_ | refine ng_ret ?_ | refine nq_cont ?_ | refine nq_brk ?_ | refine ng_cont ?_ | refine ng_brk ?_); (try dsimp only)) | (k_unfold; (try dsimp only)) | walk1 | (dsimp only; walk1) | (leave1; walk_say "STEP leave1"; try dsimp only)))
  ((k_dflt (first | (refine' gc_K0' ?k1z23 ?k3z23 ?k2z23 ?_; (case k1z23 => k_asm); (case k3z23 => k_asm); (case k2z23 => k_is)) | (refine' gc_K ?k1z23 ?k2z23 ?_; (case k1z23 => k_asm); (case k2z23 => k_is)))))
  refine lw_new (by (exact ⟨by assumption, by assumption, by assumption, by assumption, rfl, by (first | omega | ((try simp only [depth_under_make, units_under_make, depth_in1, units_in1, depth_deeper, units_deeper]); (try dsimp only [ktrTop]); omega)), by (first | omega | ((try simp only [depth_under_make, units_under_make, depth_in1, units_in1, depth_deeper, units_deeper]); (try dsimp only [ktrTop]); omega))⟩)) (by assumption) ?_
  intro q c₂ h₁ tk₁ hq hc₂ hl F₁ N₁
  have hq' := hq
  first | refine el5 (hq') fun q1 q2 q3 q4 q5 => ?_ | obtain ⟨q1, q2, q3, q4, q5⟩ := hq'
  dsimp only [List.cons_append, List.nil_append, de] at *
  ((try dsimp only); repeat' (first | ((with_reducible first | refine nq_next ?_ | refine nq_ret ?_ | refine ng_next ?_ | refine ng_ret ?_ | refine nq_cont ?_ | refine nq_brk ?_ | refine ng_cont ?_ | refine ng_brk ?_); (try dsimp only)) | (k_unfold; (try dsimp only)) | walk1 | (dsimp only; walk1) | (leave1; walk_say "STEP leave1"; try dsimp only)))
  (((try dsimp only); (repeat (with_reducible first | refine nq_next ?_ | refine nq_ret ?_ | refine ng_next ?_ | refine ng_ret ?_ | refine nq_cont ?_ | refine nq_brk ?_ | refine ng_cont ?_ | refine ng_brk ?_)); with_reducible refine execsG_cons ?_))
  refine G_Expr ?_
  refine G_MethodCall ?_
  ((try dsimp only); repeat' (first | ((with_reducible first | refine nq_next ?_ | refine nq_ret ?_ | refine ng_next ?_ | refine ng_ret ?_ | refine nq_cont ?_ | refine nq_brk ?_ | refine ng_cont ?_ | refine ng_brk ?_); (try dsimp only)) | (k_unfold; (try dsimp only)) | walk1 | (dsimp only; walk1) | (leave1; walk_say "STEP leave1"; try dsimp only)))
  ((k_dflt (first | (refine' gc_K0' ?k1z24 ?k3z24 ?k2z24 ?_; (case k1z24 => k_asm); (case k3z24 => k_asm); (case k2z24 => k_is)) | (refine' gc_K ?k1z24 ?k2z24 ?_; (case k1z24 => k_asm); (case k2z24 => k_is)))))
  ((try dsimp only); repeat' (first | ((with_reducible first | refine nq_next ?_ | refine nq_ret ?_ | refine ng_next ?_ | refine ng_ret ?_ | refine nq_cont ?_ | refine nq_brk ?_ | refine ng_cont ?_ | refine ng_brk ?_); (try dsimp only)) | (k_unfold; (try dsimp only)) | walk1 | (dsimp only; walk1) | (leave1; walk_say "STEP leave1"; try dsimp only)))
  refine lw_octets (o := q) (c := c₂) (by (exact ⟨by assumption, by assumption, by assumption, by assumption, rfl, by (first | omega | ((try simp only [depth_under_make, units_under_make, depth_in1, units_in1, depth_deeper, units_deeper]); (try dsimp only [ktrTop]); omega)), by (first | omega | ((try simp only [depth_under_make, units_under_make, depth_in1, units_in1, depth_deeper, units_deeper]); (try dsimp only [ktrTop]); omega))⟩)) (by assumption) hq hc₂ hz ?_
  intro c₃ h₂ tk₂ hc₃ F₂ N₂
  dsimp only [List.cons_append, List.nil_append, de] at *
  (((try dsimp only); (repeat (with_reducible first | refine nq_next ?_ | refine nq_ret ?_ | refine ng_next ?_ | refine ng_ret ?_ | refine nq_cont ?_ | refine nq_brk ?_ | refine ng_cont ?_ | refine ng_brk ?_)); with_reducible refine execsG_cons ?_))
  refine G_Expr ?_
  refine G_MethodCall ?_
  ((try dsimp only); repeat' (first | ((with_reducible first | refine nq_next ?_ | refine nq_ret ?_ | refine ng_next ?_ | refine ng_ret ?_ | refine nq_cont ?_ | refine nq_brk ?_ | refine ng_cont ?_ | refine ng_brk ?_); (try dsimp only)) | (k_unfold; (try dsimp only)) | walk1 | (dsimp only; walk1) | (leave1; walk_say "STEP leave1"; try dsimp only)))
  ((k_dflt (first | (refine' gc_K0' ?k1z25 ?k3z25 ?k2z25 ?_; (case k1z25 => k_asm); (case k3z25 => k_asm); (case k2z25 => k_is)) | (refine' gc_K ?k1z25 ?k2z25 ?_; (case k1z25 => k_asm); (case k2z25 => k_is)))))
  ((try dsimp only); repeat' (first | ((with_reducible first | refine nq_next ?_ | refine nq_ret ?_ | refine ng_next ?_ | refine ng_ret ?_ | refine nq_cont ?_ | refine nq_brk ?_ | refine ng_cont ?_ | refine ng_brk ?_); (try dsimp only)) | (k_unfold; (try dsimp only)) | walk1 | (dsimp only; walk1) | (leave1; walk_say "STEP leave1"; try dsimp only)))
  refine lw_bits (o := q) (c := c₃) (W := bNat c.b) (n := 8 * c.b.size) (by (exact ⟨by assumption, by assumption, by assumption, by assumption, rfl, by (first | omega | ((try simp only [depth_under_make, units_under_make, depth_in1, units_in1, depth_deeper, units_deeper]); (try dsimp only [ktrTop]); omega)), by (first | omega | ((try simp only [depth_under_make, units_under_make, depth_in1, units_in1, depth_deeper, units_deeper]); (try dsimp only [ktrTop]); omega))⟩)) (by assumption) hq hc₃ (by have := hc.len; have := hc.hb0; omega) hc.hb0 (by have := hc.hb8; omega) hc.h0 hc.h1 ?_
  intro c₄ h₃ tk₃ hc₄ F₃ N₃
  dsimp only [List.cons_append, List.nil_append, de] at *
  (((try dsimp only); (repeat (with_reducible first | refine nq_next ?_ | refine nq_ret ?_ | refine ng_next ?_ | refine ng_ret ?_ | refine nq_cont ?_ | refine nq_brk ?_ | refine ng_cont ?_ | refine ng_brk ?_)); with_reducible refine execsG_cons ?_))
  refine G_Expr ?_
  refine G_MethodCall ?_
  ((try dsimp only); repeat' (first | ((with_reducible first | refine nq_next ?_ | refine nq_ret ?_ | refine ng_next ?_ | refine ng_ret ?_ | refine nq_cont ?_ | refine nq_brk ?_ | refine ng_cont ?_ | refine ng_brk ?_); (try dsimp only)) | (k_unfold; (try dsimp only)) | walk1 | (dsimp only; walk1) | (leave1; walk_say "STEP leave1"; try dsimp only)))
  ((k_dflt (first | (refine' gc_K0' ?k1z26 ?k3z26 ?k2z26 ?_; (case k1z26 => k_asm); (case k3z26 => k_asm); (case k2z26 => k_is)) | (refine' gc_K ?k1z26 ?k2z26 ?_; (case k1z26 => k_asm); (case k2z26 => k_is)))))
  ((try dsimp only); repeat' (first | ((with_reducible first | refine nq_next ?_ | refine nq_ret ?_ | refine ng_next ?_ | refine ng_ret ?_ | refine nq_cont ?_ | refine nq_brk ?_ | refine ng_cont ?_ | refine ng_brk ?_); (try dsimp only)) | (k_unfold; (try dsimp only)) | walk1 | (dsimp only; walk1) | (leave1; walk_say "STEP leave1"; try dsimp only)))
  have e1 : bNat c.b + c.held * 2 ^ (8 * c.b.size) = W := by rw [hc.val, p256]
  have e2 : 8 * c.b.size + c.hb.toNat = n := by have := hc.len; have := hc.hb0; omega
  rw [e1, e2] at hc₄
  refine lw_bit (o := q) (c := c₄) (W := W) (n := n) (by (exact ⟨by assumption, by assumption, by assumption, by assumption, rfl, by (first | omega | ((try simp only [depth_under_make, units_under_make, depth_in1, units_in1, depth_deeper, units_deeper]); (try dsimp only [ktrTop]); omega)), by (first | omega | ((try simp only [depth_under_make, units_under_make, depth_in1, units_in1, depth_deeper, units_deeper]); (try dsimp only [ktrTop]); omega))⟩)) (by assumption) hq hc₄ (by omega) (by decide) (by decide) ?_
  intro c₅ h₄ tk₄ hc₅ F₄ N₄
  dsimp only [List.cons_append, List.nil_append, de] at *
  (((try dsimp only); (repeat (with_reducible first | refine nq_next ?_ | refine nq_ret ?_ | refine ng_next ?_ | refine ng_ret ?_ | refine nq_cont ?_ | refine nq_brk ?_ | refine ng_cont ?_ | refine ng_brk ?_)); (with_reducible refine execsG_any ?_); ((try dsimp only); repeat' (first | ((with_reducible first | refine nq_next ?_ | refine nq_ret ?_ | refine ng_next ?_ | refine ng_ret ?_ | refine nq_cont ?_ | refine nq_brk ?_ | refine ng_cont ?_ | refine ng_brk ?_); (try dsimp only)) | (k_unfold; (try dsimp only)) | walk1 | (dsimp only; walk1) | (leave1; walk_say "STEP leave1"; try dsimp only)))))
  refine Stop.go (lw_done (o := q) (c := c₅) (W := W + 1 * 2 ^ n) (n := n + 1) (by (exact ⟨by assumption, by assumption, by assumption, by assumption, rfl, by (first | omega | ((try simp only [depth_under_make, units_under_make, depth_in1, units_in1, depth_deeper, units_deeper]); (try dsimp only [ktrTop]); omega)), by (first | omega | ((try simp only [depth_under_make, units_under_make, depth_in1, units_in1, depth_deeper, units_deeper]); (try dsimp only [ktrTop]); omega))⟩)) (by assumption) hq hc₅ (by omega) ?_)
  intro b₁ t₁ h₅ tk₅ hb₁ hb₂ F₅ N₅
  dsimp only [List.cons_append, List.nil_append, de] at *
  ((try dsimp only); repeat' (first | ((with_reducible first | refine nq_next ?_ | refine nq_ret ?_ | refine ng_next ?_ | refine ng_ret ?_ | refine nq_cont ?_ | refine nq_brk ?_ | refine ng_cont ?_ | refine ng_brk ?_); (try dsimp only)) | (k_unfold; (try dsimp only)) | walk1 | (dsimp only; walk1) | (leave1; walk_say "STEP leave1"; try dsimp only)))
  exact hret _ _ _ _ (by rw [hb₁, Int.one_mul]) (by rw [hb₂]; omega) (by assumption) (drop0 (drop0 (drop0 (by assumption))))
end Kbw_done
theorem bw_done {w : World} {mean : ExcName → Option Value} {mg : Str → Option Value} {mb : Str → Option Value} {dp : Nat} {un : Nat} {gd : Option (List Code)} {cn : Str} {cs : Scope} {a : Addr} {ccd : Value} {cl : List (Str × Addr)} {outer : List Env} {A₀ : Around} {base : Heap} {h₀ : Heap} {L : Addr} {m : Str → Option Value} {rest : List (Addr × Obj)} {s : Shared} : bw_doneS w mean mg mb dp un gd cn cs a ccd cl outer A₀ base h₀ L m rest s := pm_all (P := fun p => bw_doneS p.w p.mean p.mg p.mb p.dp p.un p.gd p.cn p.cs p.a p.ccd p.cl p.outer p.A₀ p.base p.h₀ p.L p.m p.rest p.s) Kbw_done.walk { pmD with w := w, mean := mean, mg := mg, mb := mb, dp := dp, un := un, gd := gd, cn := cn, cs := cs, a := a, ccd := ccd, cl := cl, outer := outer, A₀ := A₀, base := base, h₀ := h₀, L := L, m := m, rest := rest, s := s }
end
section -- E15
theorem walk_off_E15 : True := by
  w_top off
  exact trivial
local macro_rules | `(tactic| walk_at "subscriptTail") => `(tactic| ((with_reducible show wpAny _ _ (subscriptTail _ _ (Value.ref _) (Value.int _ _)) _ _ _); refine stop_of ?_))
section
variable {w : World} {mean : ExcName → Option Value} {mg mb : Str → Option Value} {dp un : Nat} {gd : Option (List Code)} {cn : Str} {cs : Scope} {a : Addr} {ccd : Value} {cl : List (Str × Addr)} {outer : List Env} {A₀ : Around} {base h₀ : Heap} {L : Addr} {m : Str → Option Value} {rest news : List (Addr × Obj)} {s : Shared} {Q E : Value → Shared → Prop}
theorem mid7 {h₀ h : Heap} {L : Addr} {a b1 b2 b3 b4 b5 b6 b7 : Addr × Obj} {xs rest : List (Addr × Obj)} (N : News h₀ L h (a :: (xs ++ b1 :: b2 :: b3 :: b4 :: b5 :: b6 :: b7 :: rest))) : News h₀ L h (a :: b1 :: b2 :: b3 :: b4 :: b5 :: b6 :: b7 :: (xs ++ rest)) := cb_drop N (by (((repeat' (first | exact List.forall_mem_nil _ | refine subC (by ((repeat (first | assumption | exact List.Mem.head _ | exact List.mem_append_left _ (by assumption) | refine List.Mem.tail _ ?_ | refine List.mem_append_right _ ?_)))) ?_ | refine subA ?_ ?_)) <;> (intro p hp; ((repeat (first | assumption | exact List.Mem.head _ | exact List.mem_append_left _ (by assumption) | refine List.Mem.tail _ ?_ | refine List.mem_append_right _ ?_)))))))
theorem cb_all7 {L : Addr} {b1 b2 b3 b4 b5 b6 b7 : Addr × Obj} {xs rest : List (Addr × Obj)} (h : ∀ p ∈ (xs ++ b1 :: b2 :: b3 :: b4 :: b5 :: b6 :: b7 :: rest), p.1 ≠ L) :
    (@Ne Nat b1.1 L) ∧ (@Ne Nat b2.1 L) ∧ (@Ne Nat b3.1 L) ∧ (@Ne Nat b4.1 L) ∧ (@Ne Nat b5.1 L) ∧ (@Ne Nat b6.1 L) ∧ (@Ne Nat b7.1 L) ∧ ∀ p ∈ xs ++ rest, p.1 ≠ L := by
  refine ⟨h _ (by simp), h _ (by simp), h _ (by simp), h _ (by simp), h _ (by simp), h _ (by simp), h _ (by simp), fun p hp => h p ?_⟩
  rcases List.mem_append.mp hp with hp | hp <;> simp [hp]
theorem off1_8 {D : Addr} {b1 b2 b3 b4 b5 b6 b7 b8 : Addr × Obj} {rest : List (Addr × Obj)} (h : LCg.Off1 D (b1 :: b2 :: b3 :: b4 :: b5 :: b6 :: b7 :: b8 :: rest)) :
    (@Ne Nat b1.1 D) ∧ (@Ne Nat b2.1 D) ∧ (@Ne Nat b3.1 D) ∧ (@Ne Nat b4.1 D) ∧ (@Ne Nat b5.1 D) ∧ (@Ne Nat b6.1 D) ∧ (@Ne Nat b7.1 D) ∧ (@Ne Nat b8.1 D) ∧ ∀ p ∈ rest, p.1 ≠ D :=
  ⟨h.1, h.2.1, h.2.2.1, h.2.2.2.1, h.2.2.2.2.1, h.2.2.2.2.2.1, h.2.2.2.2.2.2.1, h.2.2.2.2.2.2.2.1, off1_mem h.2.2.2.2.2.2.2.2⟩
def inE (as : List Addr) (f : Nat → List Value × Nat) : List (Addr × Obj) := (List.range as.length).map fun s => (as.getD s 0, lst (f s).1 (f s).2)
def inX (as : List Addr) (f : Nat → List Value × Nat) (j : Nat) : List (Addr × Obj) := ((List.range as.length).filter (fun s => !(s == j))).map fun s => (as.getD s 0, lst (f s).1 (f s).2)
theorem inE_adr (as : List Addr) (f : Nat → List Value × Nat) : (inE as f).map (·.1) = (List.range as.length).map fun s => as.getD s 0 := by unfold inE; rw [List.map_map]; rfl
theorem adr_mem {as : List Addr} {a : Addr} (h : a ∈ (List.range as.length).map fun s => as.getD s 0) : a ∈ as := by
  obtain ⟨s, hs, rfl⟩ := List.mem_map.mp h
  have hl := List.mem_range.mp hs
  rw [List.getD_eq_getElem?_getD, List.getElem?_eq_getElem hl]; exact List.getElem_mem hl
theorem inE_zero {as : List Addr} : ∀ p ∈ inE as (fun _ => ([], 0)), p ∈ as.map fun a => (a, lst [] 0) := fun p hp => by
  obtain ⟨s, hs, rfl⟩ := List.mem_map.mp hp
  exact List.mem_map.mpr ⟨_, adr_mem (List.mem_map.mpr ⟨s, hs, rfl⟩), rfl⟩
theorem inE_at {as : List Addr} {f : Nat → List Value × Nat} {j : Nat} (h : j < as.length) : (as.getD j 0, lst (f j).1 (f j).2) ∈ inE as f := List.mem_map.mpr ⟨j, List.mem_range.mpr h, rfl⟩
theorem inX_sub {as : List Addr} {f : Nat → List Value × Nat} {j : Nat} : ∀ p ∈ inX as f j, p ∈ inE as f := fun p hp => by
  obtain ⟨s, hs, rfl⟩ := List.mem_map.mp hp
  exact List.mem_map.mpr ⟨s, (List.mem_filter.mp hs).1, rfl⟩
theorem inX_off {as : List Addr} {f : Nat → List Value × Nat} {j : Nat} (hj : j < as.length) (nd : as.Pairwise (· ≠ ·)) : ∀ p ∈ inX as f j, p.1 ≠ as.getD j 0 := fun p hp => by
  obtain ⟨s, hs, rfl⟩ := List.mem_map.mp hp
  first | refine el2 (List.mem_filter.mp hs) fun h1 h2 => ?_ | obtain ⟨h1, h2⟩ := List.mem_filter.mp hs
  have hl := List.mem_range.mp h1
  have hne : s ≠ j := by simpa using h2
  show as.getD s 0 ≠ as.getD j 0
  rw [List.getD_eq_getElem?_getD, List.getElem?_eq_getElem hl, List.getD_eq_getElem?_getD, List.getElem?_eq_getElem hj]
  rcases Nat.lt_or_gt_of_ne hne with h | h
  · exact List.pairwise_iff_getElem.mp nd s j hl hj h
  · exact (List.pairwise_iff_getElem.mp nd j s hj hl h).symm
def upd (f : Nat → List Value × Nat) (j : Nat) (v : List Value × Nat) : Nat → List Value × Nat := fun s => if s = j then v else f s
theorem inE_upd {as : List Addr} {f : Nat → List Value × Nat} {j : Nat} {v : List Value} {c : Nat} : ∀ p ∈ inE as (upd f j (v, c)), p = (as.getD j 0, lst v c) ∨ p ∈ inX as f j := fun p hp => by
  obtain ⟨s, hs, rfl⟩ := List.mem_map.mp hp
  by_cases e : s = j
  · subst e; left; simp [upd]
  · right
    exact List.mem_map.mpr ⟨s, List.mem_filter.mpr ⟨hs, by simpa using e⟩, by simp [upd, e]⟩
structure Tbs where
  vtu : List Value
  vbi : List Value
  cbi : Nat
  vba : List Value
  cba : Nat
  inn : Nat → List Value × Nat
structure TbsI (ns : List Int) (lg : Nat) (sy : List Nat) (q : Nat) (c : Tbs) : Prop where
  tu : IntsAre c.vtu (up (tl ns sy q))
  bi : IntsAre c.vbi (up ((List.range q).map (bitF ns sy lg)))
  ba : IntsAre c.vba (up ((List.range q).map (basF ns sy lg)))
  inn : ∀ s, s < ns.length → IntsAre (c.inn s).1 (up (stq sy q s))
theorem reN {h₀ h : Heap} {L ltu lba lbi : Addr} {b1 b4 b5 b6 b7 b8 : Addr × Obj} {ys : List Value} {n : Nat} {as : List Addr} {rest rest2 : List (Addr × Obj)} (N : News h₀ L h ((ltu, lst ys n) :: b1 :: (lba, lst [] 0) :: (lbi, lst [] 0) :: b4 :: b5 :: b6 :: b7 :: b8 :: rest2))
    (hr : rest2 = (as.map fun a => (a, lst [] 0)) ++ rest) : News h₀ L h (((ltu, lst ys n) :: (lbi, lst [] 0) :: (lba, lst [] 0) :: inE as (fun _ => ([], 0))) ++ (b1 :: b4 :: b5 :: b6 :: b7 :: b8 :: rest)) := cb_drop N (by
  subst hr
  refine subA (subC (by ((repeat (first | assumption | exact List.Mem.head _ | exact List.mem_append_left _ (by assumption) | refine List.Mem.tail _ ?_ | refine List.mem_append_right _ ?_)))) (subC (by ((repeat (first | assumption | exact List.Mem.head _ | exact List.mem_append_left _ (by assumption) | refine List.Mem.tail _ ?_ | refine List.mem_append_right _ ?_)))) (subC (by ((repeat (first | assumption | exact List.Mem.head _ | exact List.mem_append_left _ (by assumption) | refine List.Mem.tail _ ?_ | refine List.mem_append_right _ ?_)))) fun p hp => ?_))) (by (((repeat' (first | exact List.forall_mem_nil _ | refine subC (by ((repeat (first | assumption | exact List.Mem.head _ | exact List.mem_append_left _ (by assumption) | refine List.Mem.tail _ ?_ | refine List.mem_append_right _ ?_)))) ?_ | refine subA ?_ ?_)) <;> (intro p hp; ((repeat (first | assumption | exact List.Mem.head _ | exact List.mem_append_left _ (by assumption) | refine List.Mem.tail _ ?_ | refine List.mem_append_right _ ?_)))))))
  have hp := inE_zero p hp
  ((repeat (first | assumption | exact List.Mem.head _ | exact List.mem_append_left _ (by assumption) | refine List.Mem.tail _ ?_ | refine List.mem_append_right _ ?_))))
theorem offA {as : List Addr} {a b c q : Addr} (h1 : @Ne Nat q a) (h2 : @Ne Nat q b) (h3 : @Ne Nat q c) (h : ∀ x ∈ as, @Ne Nat q x) : q ∉ a :: b :: c :: (List.range as.length).map fun s => as.getD s 0 := fun hm => by
  rcases List.mem_cons.mp hm with e | hm
  · exact h1 e
  rcases List.mem_cons.mp hm with e | hm
  · exact h2 e
  rcases List.mem_cons.mp hm with e | hm
  · exact h3 e
  exact h q (adr_mem hm) rfl
theorem exN {h₀ h : Heap} {L : Addr} {a1 a2 a3 b1 b2 b3 : Addr × Obj} {as : List Addr} {f : Nat → List Value × Nat} {j : Nat} {rest : List (Addr × Obj)} (N : News h₀ L h ((a1 :: a2 :: a3 :: inE as f) ++ rest)) (hj : j < as.length) (m1 : b1 ∈ rest) (m2 : b2 ∈ rest) (m3 : b3 ∈ rest) :
    News h₀ L h ((as.getD j 0, lst (f j).1 (f j).2) :: a1 :: a2 :: a3 :: b1 :: b2 :: b3 :: (inX as f j ++ rest)) := cb_drop N (by
  have h0 := inE_at (f := f) hj
  refine subC (by ((repeat (first | assumption | exact List.Mem.head _ | exact List.mem_append_left _ (by assumption) | refine List.Mem.tail _ ?_ | refine List.mem_append_right _ ?_)))) (subC (by ((repeat (first | assumption | exact List.Mem.head _ | exact List.mem_append_left _ (by assumption) | refine List.Mem.tail _ ?_ | refine List.mem_append_right _ ?_)))) (subC (by ((repeat (first | assumption | exact List.Mem.head _ | exact List.mem_append_left _ (by assumption) | refine List.Mem.tail _ ?_ | refine List.mem_append_right _ ?_)))) (subC (by ((repeat (first | assumption | exact List.Mem.head _ | exact List.mem_append_left _ (by assumption) | refine List.Mem.tail _ ?_ | refine List.mem_append_right _ ?_)))) (subC (by ((repeat (first | assumption | exact List.Mem.head _ | exact List.mem_append_left _ (by assumption) | refine List.Mem.tail _ ?_ | refine List.mem_append_right _ ?_)))) (subC (by ((repeat (first | assumption | exact List.Mem.head _ | exact List.mem_append_left _ (by assumption) | refine List.Mem.tail _ ?_ | refine List.mem_append_right _ ?_)))) (subC (by ((repeat (first | assumption | exact List.Mem.head _ | exact List.mem_append_left _ (by assumption) | refine List.Mem.tail _ ?_ | refine List.mem_append_right _ ?_)))) (subA (fun p hp => ?_) (by (((repeat' (first | exact List.forall_mem_nil _ | refine subC (by ((repeat (first | assumption | exact List.Mem.head _ | exact List.mem_append_left _ (by assumption) | refine List.Mem.tail _ ?_ | refine List.mem_append_right _ ?_)))) ?_ | refine subA ?_ ?_)) <;> (intro p hp; ((repeat (first | assumption | exact List.Mem.head _ | exact List.mem_append_left _ (by assumption) | refine List.Mem.tail _ ?_ | refine List.mem_append_right _ ?_))))))))))))))
  have hp := inX_sub p hp
  ((repeat (first | assumption | exact List.Mem.head _ | exact List.mem_append_left _ (by assumption) | refine List.Mem.tail _ ?_ | refine List.mem_append_right _ ?_))))
theorem fiN {h₀ h : Heap} {L : Addr} {a1 a2 a3 b1 b2 b3 : Addr × Obj} {as : List Addr} {f : Nat → List Value × Nat} {j : Nat} {v : List Value} {c : Nat} {rest : List (Addr × Obj)} (N : News h₀ L h ((as.getD j 0, lst v c) :: a1 :: a2 :: a3 :: b1 :: b2 :: b3 :: (inX as f j ++ rest))) :
    News h₀ L h ((a1 :: a2 :: a3 :: inE as (upd f j (v, c))) ++ rest) := cb_drop N (subA (subC (by ((repeat (first | assumption | exact List.Mem.head _ | exact List.mem_append_left _ (by assumption) | refine List.Mem.tail _ ?_ | refine List.mem_append_right _ ?_)))) (subC (by ((repeat (first | assumption | exact List.Mem.head _ | exact List.mem_append_left _ (by assumption) | refine List.Mem.tail _ ?_ | refine List.mem_append_right _ ?_)))) (subC (by ((repeat (first | assumption | exact List.Mem.head _ | exact List.mem_append_left _ (by assumption) | refine List.Mem.tail _ ?_ | refine List.mem_append_right _ ?_)))) fun p hp => (inE_upd p hp).elim (fun e => by rw [e]; exact .head _) fun hp => by ((repeat (first | assumption | exact List.Mem.head _ | exact List.mem_append_left _ (by assumption) | refine List.Mem.tail _ ?_ | refine List.mem_append_right _ ?_)))))) (by (((repeat' (first | exact List.forall_mem_nil _ | refine subC (by ((repeat (first | assumption | exact List.Mem.head _ | exact List.mem_append_left _ (by assumption) | refine List.Mem.tail _ ?_ | refine List.mem_append_right _ ?_)))) ?_ | refine subA ?_ ?_)) <;> (intro p hp; ((repeat (first | assumption | exact List.Mem.head _ | exact List.mem_append_left _ (by assumption) | refine List.Mem.tail _ ?_ | refine List.mem_append_right _ ?_))))))))
theorem push_are {vs : List Value} {ns : List Int} {x : Int} {t : Tok} (h : IntsAre vs ns) : IntsAre (vs.toArray.push (.int x t)).toList (ns ++ [x]) := by
  simpa using h.append (IntsAre.cons x t IntsAre.nil)
theorem push_are' {vs : List Value} {ns : List Int} {x y : Int} {t : Tok} (h : IntsAre vs ns) (e : x = y) : IntsAre (vs.toArray.push (.int x t)).toList (ns ++ [y]) := e ▸ push_are h
theorem up_range_succ (f : Nat → Nat) (q : Nat) : up ((List.range (q + 1)).map f) = up ((List.range q).map f) ++ [(f q : Int)] := by
  unfold up; rw [List.range_succ, List.map_append, List.map_append]; rfl
theorem tbN {h₀ h : Heap} {L : Addr} {a1 a2 a3 b1 b2 b3 b4 b5 b6 : Addr × Obj} {xs rest : List (Addr × Obj)} (N : News h₀ L h ((a1 :: a2 :: a3 :: xs) ++ (b1 :: b2 :: b3 :: b4 :: b5 :: b6 :: rest))) : News h₀ L h ((b5 :: b6 :: b3 :: a2 :: a3 :: b1 :: xs) ++ (b4 :: rest)) := cb_drop N (by (((repeat' (first | exact List.forall_mem_nil _ | refine subC (by ((repeat (first | assumption | exact List.Mem.head _ | exact List.mem_append_left _ (by assumption) | refine List.Mem.tail _ ?_ | refine List.mem_append_right _ ?_)))) ?_ | refine subA ?_ ?_)) <;> (intro p hp; ((repeat (first | assumption | exact List.Mem.head _ | exact List.mem_append_left _ (by assumption) | refine List.Mem.tail _ ?_ | refine List.mem_append_right _ ?_)))))))
theorem tu_are {vtu : List Value} {ns : List Int} {sy : List Nat} {q n0 : Nat} {t : Tok} (h : IntsAre vtu (up (tl ns sy q))) (hn0 : n0 = sy.getD q 0) (hq : q < sy.length) (hj : n0 < ns.length) : IntsAre (vtu.set n0 (.int ((trn ns sy q : Int) + 1) t)) (up (tl ns sy (q + 1))) := by
  have h1 := ints_set (x := ((trn ns sy q + 1 : Nat) : Int)) (u := t) h n0
  rw [up_set, hn0, tl_step hq (hn0 ▸ hj), ← hn0] at h1
  exact h1
theorem offTb {b1 b2 b3 b4 b5 b6 : Addr × Obj} {as : List Addr} {f : Nat → List Value × Nat} {news : List (Addr × Obj)} (h1 : ∀ q ∈ news, q.1 ≠ b1.1) (h2 : ∀ q ∈ news, q.1 ≠ b2.1) (h3 : ∀ q ∈ news, q.1 ≠ b3.1) (h4 : ∀ q ∈ news, q.1 ≠ b4.1) (h5 : ∀ q ∈ news, q.1 ≠ b5.1) (h6 : ∀ q ∈ news, q.1 ≠ b6.1) (h7 : ∀ q ∈ news, ∀ b ∈ as, q.1 ≠ b) :
    ∀ p ∈ b1 :: b2 :: b3 :: b4 :: b5 :: b6 :: inE as f, ∀ q ∈ news, p.1 ≠ q.1 := fun p hp q hq => by
  simp only [List.mem_cons] at hp
  rcases hp with rfl | rfl | rfl | rfl | rfl | rfl | hp
  · exact Ne.symm (h1 q hq)
  · exact Ne.symm (h2 q hq)
  · exact Ne.symm (h3 q hq)
  · exact Ne.symm (h4 q hq)
  · exact Ne.symm (h5 q hq)
  · exact Ne.symm (h6 q hq)
  · exact Ne.symm (h7 q hq _ (adr_mem (by rw [← inE_adr as f]; exact List.mem_map.mpr ⟨p, hp, rfl⟩)))
theorem tab_mk {w : World} {ns : List Int} {lg : Nat} {sy : List Nat} {h₀ h : Heap} {L x dx lsy lct lbi lba lss : Addr} {k1 k2 k3 k4 k5 k6 k7 t1 t2 : Tok} {vsy vbi vba : List Value} {csy cbi cba css : Nat} {as : List Addr} {xs r : List (Addr × Obj)}
    (N : News h₀ L h (((x, instObj 320 dx) :: (dx, dictOf [de w "symbols" k1 (.ref lsy), de w "counts" k2 (.ref lct), de w "log" k3 (.int (lg : Int) t1), de w "size" k4 (.int ((2 ^ lg : Nat) : Int) t2), de w "bits" k5 (.ref lbi), de w "bases" k6 (.ref lba), de w "states" k7 (.ref lss)] 7) ::
      (lsy, lst vsy csy) :: (lbi, lst vbi cbi) :: (lba, lst vba cba) :: (lss, lst (as.map Value.ref) css) :: xs) ++ r))
    (TB : Tb ns lg sy) (a1 : IntsAre vsy (up sy)) (a2 : IntsAre vbi (up ((List.range (2 ^ lg)).map (bitF ns sy lg)))) (a3 : IntsAre vba (up ((List.range (2 ^ lg)).map (basF ns sy lg)))) (hal : as.length = ns.length)
    (hinn : ∀ (s : Nat) (a : Addr), as[s]? = some a → ∃ vs c, (a, lst vs c) ∈ xs ∧ IntsAre vs (up (sts sy s))) :
    ∃ o : TBo, o.x = x ∧ TabIn w ns lg sy o ((x, instObj 320 dx) :: (dx, dictOf [de w "symbols" k1 (.ref lsy), de w "counts" k2 (.ref lct), de w "log" k3 (.int (lg : Int) t1), de w "size" k4 (.int ((2 ^ lg : Nat) : Int) t2), de w "bits" k5 (.ref lbi), de w "bases" k6 (.ref lba), de w "states" k7 (.ref lss)] 7) ::
      (lsy, lst vsy csy) :: (lbi, lst vbi cbi) :: (lba, lst vba cba) :: (lss, lst (as.map Value.ref) css) :: xs) :=
  ⟨⟨x, dx, lsy, lct, lbi, lba, lss, k1, k2, k3, k4, k5, k6, k7, t1, t2, vsy, csy, vbi, cbi, vba, cba, css, as⟩, rfl, TB, .head _, .tail _ (.head _), .tail _ (.tail _ (.head _)), a1, .tail _ (.tail _ (.tail _ (.head _))), a2, .tail _ (.tail _ (.tail _ (.tail _ (.head _)))), a3, .tail _ (.tail _ (.tail _ (.tail _ (.tail _ (.head _))))), hal, fun r a e => by
    obtain ⟨vs, c, h1, h2⟩ := hinn r a e
    exact ⟨vs, c, .tail _ (.tail _ (.tail _ (.tail _ (.tail _ (.tail _ h1))))), h2⟩⟩
structure InsI (news : List (Addr × Obj)) (i : Nat) (ys : List Value) (as : List Addr) : Prop where
  ys : ys = as.map Value.ref
  len : as.length = i
  nd : as.Pairwise (· ≠ ·)
  off : ∀ p ∈ news, ∀ a ∈ as, p.1 ≠ a
set_option maxRecDepth 100000 in
set_option maxHeartbeats 8000000 in
theorem comp_lists {A : Around} {h₀ : Heap} {L : Addr} {m : Str → Option Value} {env : Env} {x : Str} {pos : Pos} {scope : Scope} {cl : List (Str × Addr)} {S : List (Addr × Obj) → Prop} {P : Nat → Value → Prop} {Fin : List Value → List (Addr × Obj) → Prop} {n : Nat} {news : List (Addr × Obj)}
    (hS : ∀ as : List Addr, S ((as.map fun a => (a, lst [] 0)) ++ news)) (fin : ∀ ys as, InsI news n ys as → Fin ys ((as.map fun a => (a, lst [] 0)) ++ news)) :
    LCg.CompRest PySem.Challenge.rw_pq1208_01.row.prog w A h₀ L m env (.List [] pos) x scope cl s S P Fin n 0 [] news := by
  refine comp_gen (σ := List Addr) (fun as => as.map fun a => (a, lst [] 0)) (InsI news) hS ?turn fin n 0 [] [] (Nat.add_zero n) ⟨rfl, rfl, .nil, by simp⟩
  rintro i v ys as I oI Cc oC D m₂ h tk E' hin hP hx1 hC hm F N off ne
  first | refine el4 hx1 fun h1 h2 h3 h4 => ?_ | obtain ⟨h1, h2, h3, h4⟩ := hx1
  try clear hx1
  have gl : ∀ p ∈ (I, oI) :: (Cc, oC) :: (D, LCg.lst ys) :: (as.map (fun a => (a, lst [] 0)) ++ news), p.1 < h.objs.size := fun p hp => Heap.lt_size (N p hp).1
  ((try dsimp only); repeat' (first | ((with_reducible first | refine nq_next ?_ | refine nq_ret ?_ | refine ng_next ?_ | refine ng_ret ?_ | refine nq_cont ?_ | refine nq_brk ?_ | refine ng_cont ?_ | refine ng_brk ?_); (try dsimp only)) | (k_unfold; (try dsimp only)) | walk1 | (dsimp only; walk1) | (leave1; walk_say "STEP leave1"; try dsimp only)))
  have hg : ∀ q : Nat × Obj, q ∈ (as.map (fun a => (a, lst [] 0)) ++ news) → q.1 ≠ h.objs.size := fun q hq => Nat.ne_of_lt (gl q (.tail _ (.tail _ (.tail _ hq))))
  have ga : ∀ b ∈ as, b ≠ h.objs.size := fun b hb => hg (b, lst [] 0) (List.mem_append_left _ (List.mem_map.mpr ⟨b, hb, rfl⟩))
  refine CEndG.at (as ++ [h.objs.size]) (by assumption) (by assumption) ?_ ?_ ⟨by rw [h1, List.map_append]; rfl, by rw [List.length_append, h2]; rfl, ?_, ?_⟩
  · intro p hp
    simp only [List.map_append, List.map_cons, List.map_nil, List.mem_append, List.mem_cons, List.not_mem_nil, or_false] at hp ⊢
    rcases hp with (hp | hp | hp) | ((hp | hp) | hp)
    · exact .inr (.inl hp)
    · exact .inr (.inr (.inl hp))
    · exact .inr (.inr (.inr (.inl hp)))
    · exact .inr (.inr (.inr (.inr (.inl hp))))
    · exact .inl hp
    · exact .inr (.inr (.inr (.inr (.inr hp))))
  · refine LCg.Off3.of fun p hp => ?_
    rw [List.map_append, List.append_assoc] at hp
    rcases List.mem_append.mp hp with hp | hp
    · exact off3_mem off p (List.mem_append_left _ hp)
    · rcases List.mem_append.mp hp with hp | hp
      · obtain rfl : p = (h.objs.size, lst [] 0) := by simpa using hp
        exact ⟨Nat.ne_of_gt (gl _ (.head _)), Nat.ne_of_gt (gl _ (.tail _ (.head _))), Nat.ne_of_gt (gl _ (.tail _ (.tail _ (.head _))))⟩
      · exact off3_mem off p (List.mem_append_right _ hp)
  · refine List.pairwise_append.mpr ⟨h3, List.pairwise_singleton _ _, fun b hb c hc => ?_⟩
    obtain rfl := List.mem_singleton.mp hc
    exact ga b hb
  · intro p hp b hb
    rcases List.mem_append.mp hb with hb | hb
    · exact h4 p hp b hb
    · obtain rfl := List.mem_singleton.mp hb
      exact hg p (List.mem_append_right _ hp)
end
def table_newS (w : World) (mean : ExcName → Option Value) (mg : Str → Option Value) (mb : Str → Option Value) (dp : Nat) (un : Nat) (gd : Option (List Code)) (cn : Str) (cs : Scope) (a : Addr) (ccd : Value) (cl : List (Str × Addr)) (outer : List Env) (A₀ : Around) (base : Heap) (h₀ : Heap) (L : Addr) (m : Str → Option Value) (rest : List (Addr × Obj)) (s : Shared) (Q : Value → Shared → Prop) (E : Value → Shared → Prop) : Prop :=
  ∀ {l : Addr} {vs : List Value} {ns : List Int} {cap : Nat} {lg : Nat} {t : Tok} (C : Cx w mean mg mb dp un cs outer A₀ base h₀ L m s.heap 18) (N : News h₀ L s.heap ((l, lst vs cap) :: rest)) (ho : ∀ p ∈ rest, p.1 ≠ l) (hi : IntsAre vs ns) (hc : CountsOk ns (2 ^ lg)) (hl : lg = 5 ∨ lg = 6) (hret : ∀ o sy tb h' tk', TabIn w ns lg sy o tb → (∀ p ∈ tb, ∀ q ∈ (l, lst vs cap) :: rest, p.1 ≠ q.1) → Fr h₀ L h' m → News h₀ L h' (tb ++ (l, lst vs cap) :: rest) → Q (.ref o.x) { s with heap := h', toks := tk' }),
   wpAny (model PySem.Challenge.rw_pq1208_01.row.prog w) (ktrTop dp un gd cn cs L a ccd cl outer) (call (.ref 320) [.ref l, .int (lg : Int) t]) Q E s
namespace Ktable_new
noncomputable def pt : Pm := pmAt fun p => table_newS p.w p.mean p.mg p.mb p.dp p.un p.gd p.cn p.cs p.a p.ccd p.cl p.outer p.A₀ p.base p.h₀ p.L p.m p.rest p.s p.Q p.E
noncomputable def a : Addr := pt.a
noncomputable def base : Heap := pt.base
noncomputable def rest : List (Addr × Obj) := pt.rest
noncomputable def s : Shared := pt.s
set_option maxRecDepth 100000 in
set_option maxHeartbeats 8000000 in
theorem walk : table_newS pt.w pt.mean pt.mg pt.mb pt.dp pt.un pt.gd pt.cn pt.cs a pt.ccd pt.cl pt.outer pt.A₀ base pt.h₀ pt.L pt.m rest s pt.Q pt.E := by
  unfold table_newS
  intro l vs ns cap lg t C N ho hi hc hl hret
  refine Cx.el C fun B F X T hk hd hu => ?_
  have hlen : vs.length ≤ 11 := by rw [hi.length]; exact hc.len
  have hlo := hc.lo
  (k_dflt (refine' call_cls ?k1 ?k2 ?k3 ?k4 ?k5 ?k6 ?_; (case k1 => k_asm); (case k2 => k_asm); (case k3 => k_asm); (case k4 => k_is); (case k5 => k_is); (case k6 => k_is); k_whole; intro x dx h' F' N' l10 l20; (have lA0 := allLt_of l10); (try k_lt l10); (try k_lt2 l20); (try k_sweep); cell_enter))
  rename_i _ Lf _ _ _ _ _ _ _
  ((try dsimp only); repeat' (first | ((with_reducible first | refine nq_next ?_ | refine nq_ret ?_ | refine ng_next ?_ | refine ng_ret ?_ | refine nq_cont ?_ | refine nq_brk ?_ | refine ng_cont ?_ | refine ng_brk ?_); (try dsimp only)) | (k_unfold; (try dsimp only)) | walk1 | (dsimp only; walk1) | (leave1; walk_say "STEP leave1"; try dsimp only)))
  refine Stop.go (spread_ (by (exact ⟨by assumption, by assumption, by assumption, by assumption, rfl, by (first | omega | ((try simp only [depth_under_make, units_under_make, depth_in1, units_in1, depth_deeper, units_deeper]); (try dsimp only [ktrTop]); omega)), by (first | omega | ((try simp only [depth_under_make, units_under_make, depth_in1, units_in1, depth_deeper, units_deeper]); (try dsimp only [ktrTop]); omega))⟩)) (rot2 (by assumption)) (by (((repeat' (first | assumption | exact List.forall_mem_nil _ | exact off_nil | refine off_snoc ?_ ?_ | refine List.forall_mem_cons.mpr ⟨?_, ?_⟩)) <;> (try dsimp only) <;> first | assumption | exact Nat.ne_of_lt (by assumption) | exact Nat.ne_of_gt (by assumption) | exact Nat.ne_of_gt (by omega) | exact Nat.ne_of_lt (by omega) | exact allLt_ne (by assumption) | exact allLt_ne (rt1 (by assumption)) | exact allLt_ne (rt2 (by assumption)) | exact allLt_ne (rt3 (by assumption)) | exact allLt_ne (rt4 (by assumption)) | exact allLt_ne (rt5 (by assumption)) | exact fun p hp => Nat.ne_of_lt (‹∀ p ∈ _, p.1 < _› p hp) | exact fun p hp => Nat.ne_of_lt (Nat.lt_trans (‹∀ p ∈ _, p.1 < _› p hp) (by omega)) | exact allLt_ne2 (by assumption) (by omega) | exact allLt_ne2 (rt1 (by assumption)) (by omega) | exact allLt_ne2 (rt2 (by assumption)) (by omega) | exact allLt_ne2 (rt3 (by assumption)) (by omega)))) hi hc (by omega) (by simp) ?_)
  intro lsy vsy sy csy h₁ k₁ asy sok osy F₁ N₁
  have q1 := neN (osy _ (.head _))
  have q2 := neN (osy _ (.tail _ (.head _)))
  have q3 := neN (osy _ (.tail _ (.tail _ (.head _))))
  have q4 : ∀ p ∈ rest, p.1 ≠ lsy := fun p hp => osy p (.tail _ (.tail _ (.tail _ hp)))
  dsimp only at q1 q2 q3
  ((try dsimp only); repeat' (first | ((with_reducible first | refine nq_next ?_ | refine nq_ret ?_ | refine ng_next ?_ | refine ng_ret ?_ | refine nq_cont ?_ | refine nq_brk ?_ | refine ng_cont ?_ | refine ng_brk ?_); (try dsimp only)) | (k_unfold; (try dsimp only)) | walk1 | (dsimp only; walk1) | (leave1; walk_say "STEP leave1"; try dsimp only)))
  rename_i lct cct _ l1a _ _ _ _ _ _ _ _ lbi _ l1c lba _ l1d _ _ _ _ _ _ _ _
  have N₂ := drop2 (drop0 (by assumption))
  refine Stop.go (plainObj_wpAny_Assign_Attribute ?_)
  refine LCg.ListComp_U (F₀ := by assumption) (by with_unfolding_all rfl) (by decide) (by rfl) (by decide) (by rfl) ?_
  ((try dsimp only); repeat' (first | ((with_reducible first | refine nq_next ?_ | refine nq_ret ?_ | refine ng_next ?_ | refine ng_ret ?_ | refine nq_cont ?_ | refine nq_brk ?_ | refine ng_cont ?_ | refine ng_brk ?_); (try dsimp only)) | (k_unfold; (try dsimp only)) | walk1 | (dsimp only; walk1) | (leave1; walk_say "STEP leave1"; try dsimp only)))
  refine LCg.CompSrc.ledger rfl (by assumption) N₂ (.tail _ (.tail _ (.tail _ (.tail _ (.head _))))) (by size_fits) (fun g => comp_lists (fun _ => .inr ⟨_, List.mem_append_right _ (.tail _ (.tail _ (.tail _ (.tail _ (.head _))))), rfl, _, rfl⟩) ?fin)
  rintro ys as ⟨rfl, ial, ind, iof⟩ lss h tk F N off
  have hal : as.length = ns.length := by rw [ial, List.size_toArray, hi.length]
  have of1 := off1_mem off
  have N₃ := mid7 N
  obtain ⟨rest2, hr2⟩ : ∃ r2, r2 = (as.map (fun a => (a, lst [] 0))) ++ rest := ⟨_, rfl⟩
  rw [← hr2] at N₃
  have rm : ∀ p ∈ rest2, (∃ b ∈ as, p.1 = b) ∨ p ∈ rest := fun p hp => by
    rw [hr2] at hp
    rcases List.mem_append.mp hp with hp | hp
    · obtain ⟨b, hb, rfl⟩ := List.mem_map.mp hp
      exact .inl ⟨b, hb, rfl⟩
    · exact .inr hp
  have r2 : ∀ q : Nat, (∀ b ∈ as, @Ne Nat q b) → (∀ p ∈ rest, p.1 ≠ q) → ∀ p ∈ rest2, p.1 ≠ q := fun q h1 h2 p hp => by
    rcases rm p hp with ⟨b, hb, e⟩ | hp
    · rw [e]; exact Ne.symm (h1 b hb)
    · exact h2 p hp
  have i1 := iof _ (.head _)
  have i2 := iof _ (.tail _ (.head _))
  have i3 := iof _ (.tail _ (.tail _ (.head _)))
  have i4 := iof _ (.tail _ (.tail _ (.tail _ (.head _))))
  have i5 := iof _ (.tail _ (.tail _ (.tail _ (.tail _ (.head _)))))
  have i6 := iof _ (.tail _ (.tail _ (.tail _ (.tail _ (.tail _ (.head _))))))
  have i7 := iof _ (.tail _ (.tail _ (.tail _ (.tail _ (.tail _ (.tail _ (.head _)))))))
  have ir : ∀ p ∈ rest, ∀ b ∈ as, p.1 ≠ b := fun p hp => iof p (.tail _ (.tail _ (.tail _ (.tail _ (.tail _ (.tail _ (.tail _ hp)))))))
  dsimp only at i1 i2 i3 i4 i5 i6 i7
  have of2 := cb_all7 of1
  first | refine el8 (of2) fun p1 p2 p3 p4 p5 p6 p7 p8 => ?_ | obtain ⟨p1, p2, p3, p4, p5, p6, p7, p8⟩ := of2
  rw [← hr2] at p8
  have j0 : ∀ p ∈ rest2, p.1 ≠ lss := p8
  have j1 := r2 lba i1 (allLt_ne l1d.2.2.2.2.2.2.2)
  have j2 := r2 lbi i2 (allLt_ne l1c.2.2.2.2.2.2)
  have j3 := r2 lct i3 (allLt_ne l1a.2.2.2.2)
  have j4 := r2 lsy i4 q4
  have j5 := r2 l i5 ho
  have j6 := r2 x i6 (allLt_ne2 l10.2 l20)
  have j7 := r2 dx i7 (allLt_ne l10.2)
  dsimp only [LCg.lst] at N₃
  ((try dsimp only); repeat' (first | ((with_reducible first | refine nq_next ?_ | refine nq_ret ?_ | refine ng_next ?_ | refine ng_ret ?_ | refine nq_cont ?_ | refine nq_brk ?_ | refine ng_cont ?_ | refine ng_brk ?_); (try dsimp only)) | (k_unfold; (try dsimp only)) | walk1 | (dsimp only; walk1) | (leave1; walk_say "STEP leave1"; try dsimp only)))
  refine Stop.go (LCg.Assign_ListComp_U (F₀ := by assumption) rfl (by with_unfolding_all rfl) (by with_unfolding_all rfl) (by decide) (by rfl) (by decide) (by rfl) (by rfl) (by rfl) ?_)
  ((try dsimp only); repeat' (first | ((with_reducible first | refine nq_next ?_ | refine nq_ret ?_ | refine ng_next ?_ | refine ng_ret ?_ | refine nq_cont ?_ | refine nq_brk ?_ | refine ng_cont ?_ | refine ng_brk ?_); (try dsimp only)) | (k_unfold; (try dsimp only)) | walk1 | (dsimp only; walk1) | (leave1; walk_say "STEP leave1"; try dsimp only)))
  refine LCg.CompSrc.ledger rfl (by assumption) (by assumption) (.tail _ (.tail _ (.tail _ (.tail _ (.tail _ (.head _)))))) (by size_fits) (fun g => comp_rest (fun i ys => ys.length = i ∧ IntsAre ys ((ns.take i).map fun c => (c.natAbs : Int))) (.inr ⟨_, .tail _ (.tail _ (.tail _ (.tail _ (.tail _ (.head _))))), rfl, _, rfl⟩) ?turn2 ?fin2 _ _ _ (Nat.add_zero _) ⟨rfl, IntsAre.nil⟩)
  case turn2 =>
    rintro i v ys I oI Cc oC D m₂ h tk E' hin hP hx1 hC hm F N off ne
    first | refine el2 hx1 fun hI0 hI => ?_ | obtain ⟨hI0, hI⟩ := hx1
    try clear hx1
    obtain ⟨c, hct, rfl, hcn, hci⟩ := are_take hi hlo hP
    ((try dsimp only); repeat' (first | ((with_reducible first | refine nq_next ?_ | refine nq_ret ?_ | refine ng_next ?_ | refine ng_ret ?_ | refine nq_cont ?_ | refine nq_brk ?_ | refine ng_cont ?_ | refine ng_brk ?_); (try dsimp only)) | (k_unfold; (try dsimp only)) | walk1 | (dsimp only; walk1) | (leave1; walk_say "STEP leave1"; try dsimp only)))
    refine Stop.go (places_ (by (exact ⟨by assumption, by assumption, by assumption, by assumption, rfl, by (first | omega | ((try simp only [depth_under_make, units_under_make, depth_in1, units_in1, depth_deeper, units_deeper]); (try dsimp only [ktrTop]); omega)), by (first | omega | ((try simp only [depth_under_make, units_under_make, depth_in1, units_in1, depth_deeper, units_deeper]); (try dsimp only [ktrTop]); omega))⟩)) (by assumption) hcn ?_)
    intro v t h₁ k₁ hv F₁ N₁
    ((try dsimp only); repeat' (first | ((with_reducible first | refine nq_next ?_ | refine nq_ret ?_ | refine ng_next ?_ | refine ng_ret ?_ | refine nq_cont ?_ | refine nq_brk ?_ | refine ng_cont ?_ | refine ng_brk ?_); (try dsimp only)) | (k_unfold; (try dsimp only)) | walk1 | (dsimp only; walk1) | (leave1; walk_say "STEP leave1"; try dsimp only)))
    refine CEnd.at (by assumption) (by assumption) ⟨by rw [List.length_append, hI0]; rfl, ?_⟩
    rw [List.take_add_one, hci, List.map_append, hv]
    exact hI.append (IntsAre.cons _ _ IntsAre.nil)
  case fin2 =>
    rintro ys hx1 ltu h tk F N off
    first | refine el2 hx1 fun hyl hys => ?_ | obtain ⟨hyl, hys⟩ := hx1
    try clear hx1
    have hsz : vs.toArray.size = ns.length := by rw [List.size_toArray, hi.length]
    rw [hsz, List.take_length, ← tl_zero ns sy] at hys
    have oft := off1_8 off
    dsimp only [LCg.lst] at N
    ((try dsimp only); repeat' (first | ((with_reducible first | refine nq_next ?_ | refine nq_ret ?_ | refine ng_next ?_ | refine ng_ret ?_ | refine nq_cont ?_ | refine nq_brk ?_ | refine ng_cont ?_ | refine ng_brk ?_); (try dsimp only)) | (k_unfold; (try dsimp only)) | walk1 | (dsimp only; walk1) | (leave1; walk_say "STEP leave1"; try dsimp only)))
    first | refine el9 (oft) fun t1 t2 t3 t4 t5 t6 t7 t8 t9 => ?_ | obtain ⟨t1, t2, t3, t4, t5, t6, t7, t8, t9⟩ := oft
    dsimp only at t1 t2 t3 t4 t5 t6 t7 t8 p1 p2 p3 p4 p5 p6 p7
    have hn11 := hc.len
    have p1s := Ne.symm p1
    have p2s := Ne.symm p2
    have p3s := Ne.symm p3
    have p4s := Ne.symm p4
    have p5s := Ne.symm p5
    have p6s := Ne.symm p6
    have p7s := Ne.symm p7
    have t1s := Ne.symm t1
    have t2s := Ne.symm t2
    have t3s := Ne.symm t3
    have t4s := Ne.symm t4
    have t5s := Ne.symm t5
    have t6s := Ne.symm t6
    have t7s := Ne.symm t7
    have t8s := Ne.symm t8
    have hA : ∀ b ∈ as, ∃ p ∈ rest2, p.1 = b := fun b hb => ⟨(b, lst [] 0), by rw [hr2]; exact List.mem_append_left _ (List.mem_map.mpr ⟨b, hb, rfl⟩), rfl⟩
    have ass : ∀ b ∈ as, b ≠ lss := fun b hb => by obtain ⟨p, hp, rfl⟩ := hA b hb; exact j0 p hp
    have ast : ∀ b ∈ as, b ≠ ltu := fun b hb => by obtain ⟨p, hp, rfl⟩ := hA b hb; exact t9 p hp
    have rr : ∀ p ∈ rest, p ∈ rest2 := fun p hp => by rw [hr2]; exact List.mem_append_right _ hp
    have N₅ := reN (by assumption) hr2
    have hvl : vsy.length = 2 ^ lg := by rw [asy.length, up_len, sok.len]
    have hz : 2 ^ lg ≤ 64 := by rcases hl with rfl | rfl <;> decide
    have TB : Tb ns lg sy := ⟨sok, by omega, by omega⟩
    have k1 := l1d.1
    have k2 := l1c.2.1
    have k3 := l1c.2.2.1
    have k4 := l1c.2.2.2.1
    have k5 := l1c.2.2.2.2.1
    have k6 := l1c.2.2.2.2.2.1
    have k7 := l1d.2.2.1
    have k8 := l1d.2.2.2.1
    have k9 := l1d.2.2.2.2.1
    have k10 := l1d.2.2.2.2.2.1
    have k11 := l1d.2.2.2.2.2.2.1
    refine' Stop.go (it_enum (σ := Tbs) (vs := vsy) (fun c => (ltu, lst c.vtu ys.length) :: (lbi, lst c.vbi c.cbi) :: (lba, lst c.vba c.cba) :: inE as c.inn) (ltu :: lbi :: lba :: (List.range as.length).map fun s => as.getD s 0) _ (fun c => []) [Str.ofString "state", Str.ofString "symbol", Str.ofString "turn", Str.ofString "bits"] (TbsI ns lg sy) ⟨ys, [], 0, [], 0, fun _ => ([], 0)⟩
        rfl ?isl ?ne1 ?ne2 (fun c => by rw [← inE_adr as c.inn]; rfl) (by decide) (by decide) ?off (by assumption) N₅ ?ps ?hi ?turn ?done)
    case isl => exact ⟨_, (N₅ _ (List.mem_append_right _ (.tail _ (.tail _ (.head _))))).1, rfl, _, rfl⟩
    case ne1 => exact (N₅ _ (List.mem_append_right _ (.tail _ (.tail _ (.head _))))).2.1
    case ne2 => exact offA t5 (by show @Ne Nat _ _; omega) (by show @Ne Nat _ _; omega) i4
    case off =>
      refine List.forall_mem_cons.mpr ⟨offA t1 (Ne.symm p2) (Ne.symm p1) (fun b hb => Ne.symm (ass b hb)), ?_⟩
      refine List.forall_mem_cons.mpr ⟨offA t4 (by show @Ne Nat _ _; omega) (by show @Ne Nat _ _; omega) i3, ?_⟩
      refine List.forall_mem_cons.mpr ⟨offA t5 (by show @Ne Nat _ _; omega) (by show @Ne Nat _ _; omega) i4, ?_⟩
      refine List.forall_mem_cons.mpr ⟨offA t6 (by show @Ne Nat _ _; omega) (by show @Ne Nat _ _; omega) i5, ?_⟩
      refine List.forall_mem_cons.mpr ⟨offA t7 (by show @Ne Nat _ _; omega) (by show @Ne Nat _ _; omega) i6, ?_⟩
      refine List.forall_mem_cons.mpr ⟨offA t8 (by show @Ne Nat _ _; omega) (by show @Ne Nat _ _; omega) i7, ?_⟩
      exact fun p hp => offA (t9 p (rr p hp)) (j2 p (rr p hp)) (j1 p (rr p hp)) (ir p hp)
    case ps => ((repeat' (first | exact List.forall_mem_nil _ | refine List.forall_mem_cons.mpr ⟨by with_unfolding_all rfl, ?_⟩)))
    case hi => exact ⟨hys, .nil, .nil, fun s hs => .nil⟩
    case turn =>
      rintro q v t' ⟨vtu, vbi, cbi, vba, cba, inn⟩ u h tk rest' hin hv hx1 hoff' hsub' F N
      first | refine el4 hx1 fun htu hbi hba hinn => ?_ | obtain ⟨htu, hbi, hba, hinn⟩ := hx1
      try clear hx1
      have hq : q < 2 ^ lg := by omega
      obtain ⟨c, hct, rfl, hci⟩ := IntsAre.at asy q v (by simpa using hv)
      obtain ⟨n0, hn0⟩ : ∃ n0, n0 = sy.getD q 0 := ⟨_, rfl⟩
      obtain rfl : c = (n0 : Int) := by
        have := up_getD sy q
        rw [List.getD_eq_getElem?_getD, hci] at this
        rw [hn0]; exact this
      have hj : n0 < as.length := by rw [hal, hn0]; exact sok.bd _ (getD_mem (by rw [sok.len]; exact hq))
      have hjn : n0 < ns.length := by omega
      have tg : (up (tl ns sy q)).getD n0 0 = (trn ns sy q : Int) := by rw [up_getD, tl_get hjn, hn0]; rfl
      have tls : (up (tl ns sy q)).length = ns.length := by rw [up_len, tl_len]
      first | refine el4 (TB.trn1 hq) fun b1 b2 b3 b4 => ?_ | obtain ⟨b1, b2, b3, b4⟩ := TB.trn1 hq
      have b5 := TB.log hq
      dsimp only at htu hbi hba hinn
      have htl : vtu.length = ns.length := by rw [htu.length, tls]
      have N₆ := exN (j := n0) N hj (hsub' _ (.head _)) (hsub' _ (.tail _ (.tail _ (.tail _ (.tail _ (.head _)))))) (hsub' _ (.tail _ (.tail _ (.tail _ (.tail _ (.tail _ (.head _))))))) 
      obtain ⟨R, hR⟩ : ∃ R, R = inX as inn n0 ++ rest' := ⟨_, rfl⟩
      have ho1 : ∀ p ∈ rest', ∀ b ∈ ltu :: lbi :: lba :: (List.range as.length).map (fun s => as.getD s 0), p.1 ≠ b := fun p hp b hb e => hoff' p hp (e ▸ hb)
      have xas : ∀ p ∈ inX as inn n0, p.1 ∈ as := fun p hp => adr_mem (by rw [← inE_adr as inn]; exact List.mem_map.mpr ⟨p, inX_sub p hp, rfl⟩)
      have hjm : as.getD n0 0 ∈ as := adr_mem (List.mem_map.mpr ⟨n0, List.mem_range.mpr hj, rfl⟩)
      have R1 : ∀ p ∈ R, p.1 ≠ ltu := fun p hp => by
        rw [hR] at hp; rcases List.mem_append.mp hp with hp | hp
        · exact ast _ (xas p hp)
        · exact ho1 p hp _ (.head _)
      have R2 : ∀ p ∈ R, p.1 ≠ lbi := fun p hp => by
        rw [hR] at hp; rcases List.mem_append.mp hp with hp | hp
        · exact Ne.symm (i2 _ (xas p hp))
        · exact ho1 p hp _ (.tail _ (.head _))
      have R3 : ∀ p ∈ R, p.1 ≠ lba := fun p hp => by
        rw [hR] at hp; rcases List.mem_append.mp hp with hp | hp
        · exact Ne.symm (i1 _ (xas p hp))
        · exact ho1 p hp _ (.tail _ (.tail _ (.head _)))
      have hga : (as.map Value.ref)[n0]? = some (.ref (as.getD n0 0)) := by
        rw [List.getElem?_map, List.getD_eq_getElem?_getD, List.getElem?_eq_getElem hj]; rfl
      have R4 : ∀ p ∈ R, p.1 ≠ as.getD n0 0 := fun p hp => by
        rw [hR] at hp; rcases List.mem_append.mp hp with hp | hp
        · exact inX_off hj ind p hp
        · exact ho1 p hp _ (.tail _ (.tail _ (.tail _ (List.mem_map.mpr ⟨n0, List.mem_range.mpr hj, rfl⟩))))
      have u1 := ass _ hjm
      have u2 := ast _ hjm
      have u3 := i1 _ hjm
      have u4 := i2 _ hjm
      have u6 := i6 _ hjm
      have u7 := i7 _ hjm
      have hin1 := hinn n0 hjn
      rw [← hR] at N₆
      obtain ⟨aj, haj⟩ : ∃ aj, aj = as.getD n0 0 := ⟨_, rfl⟩
      rw [← haj] at N₆ R4 u1 u2 u3 u4 u6 u7 hga
      have tg' : (up (tl ns sy q)).getD (n0 : Int).toNat 0 = (trn ns sy q : Int) := tg
      have hvb : vbi.length = q := by rw [hbi.length, up_len, List.length_map, List.length_range]
      have hva : vba.length = q := by rw [hba.length, up_len, List.length_map, List.length_range]
      obtain ⟨⟨iv, ic⟩, hiv⟩ : ∃ p, p = inn n0 := ⟨_, rfl⟩
      dsimp only at N₆
      rw [← hiv] at N₆ hin1
      have hivl : iv.length ≤ 64 := by
        have h1 := hin1.length
        have h2 := rk_le sy q n0
        have h3 : sy.count n0 ≤ sy.length := List.count_le_length
        rw [up_len, stq_len n0 (by rw [sok.len]; omega)] at h1
        rw [sok.len] at h3
        dsimp only at h1
        omega
      have u1s := Ne.symm u1
      have u2s := Ne.symm u2
      have u3s := Ne.symm u3
      have u4s := Ne.symm u4
      have u6s := Ne.symm u6
      have u7s := Ne.symm u7
      clear N
      dsimp only at N₆ hin1
      clear p3 p4 p5 p3s p4s p5s t4 t5 t6 t4s t5s t6s q1 q2 q3 k2 k3 k4 k7 k8 k9 l1a l1c l1d
      ((try dsimp only); repeat' (first | ((with_reducible first | refine nq_next ?_ | refine nq_ret ?_ | refine ng_next ?_ | refine ng_ret ?_ | refine nq_cont ?_ | refine nq_brk ?_ | refine ng_cont ?_ | refine ng_brk ?_); (try dsimp only)) | (k_unfold; (try dsimp only)) | walk1 | (dsimp only; walk1) | (leave1; walk_say "STEP leave1"; try dsimp only)))
      simp only [tg'] at *
      refine Stop.go (high_bit_ (by (exact ⟨by assumption, by assumption, by assumption, by assumption, rfl, by (first | omega | ((try simp only [depth_under_make, units_under_make, depth_in1, units_in1, depth_deeper, units_deeper]); (try dsimp only [ktrTop]); omega)), by (first | omega | ((try simp only [depth_under_make, units_under_make, depth_in1, units_in1, depth_deeper, units_deeper]); (try dsimp only [ktrTop]); omega))⟩)) (by assumption) (by omega) (by omega) ?_)
      intro hb thb h₁ k₁ hhb F₁ N₁
      rw [Int.toNat_natCast] at hhb
      ((try dsimp only); repeat' (first | ((with_reducible first | refine nq_next ?_ | refine nq_ret ?_ | refine ng_next ?_ | refine ng_ret ?_ | refine nq_cont ?_ | refine nq_brk ?_ | refine ng_cont ?_ | refine ng_brk ?_); (try dsimp only)) | (k_unfold; (try dsimp only)) | walk1 | (dsimp only; walk1) | (leave1; walk_say "STEP leave1"; try dsimp only)))
      refine Stop.go (ref_item (v := .ref aj) (by assumption) (.tail _ (.tail _ (.tail _ (.tail _ (.head _))))) (by omega) (by omega) hga ?_)
      ((try dsimp only); repeat' (first | ((with_reducible first | refine nq_next ?_ | refine nq_ret ?_ | refine ng_next ?_ | refine ng_ret ?_ | refine nq_cont ?_ | refine nq_brk ?_ | refine ng_cont ?_ | refine ng_brk ?_); (try dsimp only)) | (k_unfold; (try dsimp only)) | walk1 | (dsimp only; walk1) | (leave1; walk_say "STEP leave1"; try dsimp only)))
      subst hR
      subst haj
      have hbq : (lg : Int) - hb = (bitF ns sy lg q : Int) := by unfold bitF; omega
      refine' FEnd.at ⟨vtu.set (n0 : Int).toNat (.int ((trn ns sy q : Int) + 1) _), (vbi.toArray.push (.int ((lg : Int) - hb) _)).toList, _, (vba.toArray.push (.int _ _)).toList, _, upd inn n0 ((iv.toArray.push (.int (q : Int) _)).toList, _)⟩ (by assumption) (fiN (by assumption)) (by ((repeat' (first | exact List.forall_mem_nil _ | refine List.forall_mem_cons.mpr ⟨by with_unfolding_all rfl, ?_⟩)))) (by (((repeat (first | (with_reducible exact fun _ _ _ => rfl) | ((with_reducible refine same_lay ?nz30 ?_); (case nz30 => rfl)) | ((with_reducible refine same_kst ?nz30 ?_); (case nz30 => rfl)))); done))) ⟨?_, ?_, ?_, ?_⟩
      · exact tu_are htu hn0 (by rw [sok.len]; exact hq) hjn
      · rw [up_range_succ]; exact push_are' hbi hbq
      · rw [up_range_succ]
        refine push_are' hba ?_
        have hB := (TB.base hq).1
        rw [hbq]
        unfold basF
        simp only [Int.toNat_natCast, Int.one_mul, two_pow_cast]
        generalize 2 ^ bitF ns sy lg q = P at *
        rw [← Int.natCast_mul]
        generalize trn ns sy q * P = Y at *
        omega
      · intro r hr
        show IntsAre (upd inn n0 _ r).1 _
        rw [stq_succ, ← hn0]
        unfold upd
        by_cases e : r = n0
        · subst e
          rw [if_pos rfl, if_pos rfl]
          unfold up at hin1 ⊢
          rw [List.map_append]
          exact push_are hin1
        · rw [if_neg e, if_neg (Ne.symm e)]
          exact hinn r hr
    case done =>
      rintro ⟨vtu, vbi, cbi, vba, cba, inn⟩ u h tk hx1 F N
      first | refine el4 hx1 fun htu hbi hba hinn => ?_ | obtain ⟨htu, hbi, hba, hinn⟩ := hx1
      try clear hx1
      dsimp only at htu hbi hba hinn N
      rw [hvl] at htu hbi hba hinn
      have N₆ := tbN N
      clear N
      have e1 : (1 : Int) * 2 ^ (lg : Int).toNat = ((2 ^ lg : Nat) : Int) := by rw [Int.one_mul, Int.toNat_natCast, two_pow_cast]
      simp only [e1] at N₆
      ((try dsimp only); repeat' (first | ((with_reducible first | refine nq_next ?_ | refine nq_ret ?_ | refine ng_next ?_ | refine ng_ret ?_ | refine nq_cont ?_ | refine nq_brk ?_ | refine ng_cont ?_ | refine ng_brk ?_); (try dsimp only)) | (k_unfold; (try dsimp only)) | walk1 | (dsimp only; walk1) | (leave1; walk_say "STEP leave1"; try dsimp only)))
      have hinn' : ∀ (s : Nat) (a : Addr), as[s]? = some a → ∃ vs c, (a, lst vs c) ∈ inE as inn ∧ IntsAre vs (up (sts sy s)) := fun r a e => by
        obtain ⟨hr, e2⟩ := List.getElem?_eq_some_iff.mp e
        have e3 : as.getD r 0 = a := by rw [List.getD_eq_getElem?_getD, e]; rfl
        refine ⟨(inn r).1, (inn r).2, e3 ▸ inE_at hr, ?_⟩
        have := hinn r (by omega)
        show IntsAre _ (up (stq sy sy.length r))
        rw [sok.len]; exact this
      obtain ⟨o, hox, TI⟩ := tab_mk (by assumption) TB asy hbi hba hal hinn'
      subst hox
      refine hret o sy _ _ _ TI (offTb ?o1 ?o2 ?o3 ?o4 ?o5 ?o6 ?o7) (by assumption) (by assumption)
      case o1 => exact List.forall_mem_cons.mpr ⟨Nat.ne_of_lt (Nat.lt_trans l10.1 l20), allLt_ne2 l10.2 l20⟩
      case o2 => exact List.forall_mem_cons.mpr ⟨Nat.ne_of_lt l10.1, allLt_ne l10.2⟩
      case o3 => exact List.forall_mem_cons.mpr ⟨q1, q4⟩
      case o4 => exact List.forall_mem_cons.mpr ⟨Nat.ne_of_lt k4, allLt_ne l1c.2.2.2.2.2.2⟩
      case o5 => exact List.forall_mem_cons.mpr ⟨Nat.ne_of_lt k9, allLt_ne l1d.2.2.2.2.2.2.2⟩
      case o6 => exact List.forall_mem_cons.mpr ⟨p5, fun p hp => j0 p (rr p hp)⟩
      case o7 => exact List.forall_mem_cons.mpr ⟨i5, ir⟩
end Ktable_new
theorem table_new {w : World} {mean : ExcName → Option Value} {mg : Str → Option Value} {mb : Str → Option Value} {dp : Nat} {un : Nat} {gd : Option (List Code)} {cn : Str} {cs : Scope} {a : Addr} {ccd : Value} {cl : List (Str × Addr)} {outer : List Env} {A₀ : Around} {base : Heap} {h₀ : Heap} {L : Addr} {m : Str → Option Value} {rest : List (Addr × Obj)} {s : Shared} {Q : Value → Shared → Prop} {E : Value → Shared → Prop} : table_newS w mean mg mb dp un gd cn cs a ccd cl outer A₀ base h₀ L m rest s Q E := pm_all (P := fun p => table_newS p.w p.mean p.mg p.mb p.dp p.un p.gd p.cn p.cs p.a p.ccd p.cl p.outer p.A₀ p.base p.h₀ p.L p.m p.rest p.s p.Q p.E) Ktable_new.walk { pmD with w := w, mean := mean, mg := mg, mb := mb, dp := dp, un := un, gd := gd, cn := cn, cs := cs, a := a, ccd := ccd, cl := cl, outer := outer, A₀ := A₀, base := base, h₀ := h₀, L := L, m := m, rest := rest, s := s, Q := Q, E := E }
end
section -- E10
theorem walk_off_E10 : True := by
  w_top off
  exact trivial
def gathered_S (w : World) (mean : ExcName → Option Value) (mg : Str → Option Value) (mb : Str → Option Value) (dp : Nat) (un : Nat) (gd : Option (List Code)) (cn : Str) (cs : Scope) (a : Addr) (ccd : Value) (cl : List (Str × Addr)) (outer : List Env) (A₀ : Around) (base : Heap) (h₀ : Heap) (L : Addr) (m : Str → Option Value) (news : List (Addr × Obj)) (s : Shared) (Q : Value → Shared → Prop) (E : Value → Shared → Prop) : Prop :=
  ∀ {b : Array UInt8} {lowI cntI : Int} {low cnt : Nat} {t1 t2 t3 t4 : Tok} (C : Cx w mean mg mb dp un cs outer A₀ base h₀ L m s.heap 1) (N : News h₀ L s.heap news) (hz : b.size ≤ 200) (hl : low + cnt ≤ 8 * b.size) (hc : cnt ≤ 20) (e1 : lowI = low) (e2 : cntI = cnt) (hret : ∀ v t h' tk', v = bNat b / 2 ^ low % 2 ^ cnt → Fr h₀ L h' m → News h₀ L h' news → Q (.int v t) { s with heap := h', toks := tk' }),
   wpAny (model PySem.Challenge.rw_pq1208_01.row.prog w) (ktrTop dp un gd cn cs L a ccd cl outer) (call (.ref 99) [.bytes b t1, .int lowI t2, .int cntI t3, .int (b.size : Int) t4]) Q E s
namespace Kgathered_
noncomputable def pt : Pm := pmAt fun p => gathered_S p.w p.mean p.mg p.mb p.dp p.un p.gd p.cn p.cs p.a p.ccd p.cl p.outer p.A₀ p.base p.h₀ p.L p.m p.news p.s p.Q p.E
set_option maxRecDepth 100000 in
set_option maxHeartbeats 8000000 in
theorem walk : gathered_S pt.w pt.mean pt.mg pt.mb pt.dp pt.un pt.gd pt.cn pt.cs pt.a pt.ccd pt.cl pt.outer pt.A₀ pt.base pt.h₀ pt.L pt.m pt.news pt.s pt.Q pt.E := by
  unfold gathered_S
  intro b lowI cntI low cnt t1 t2 t3 t4 C N hz hl hc e1 e2 hret
  subst e1 e2
  refine Cx.el C fun B F X T hk hd hu => ?_
  refine wpAny_call ?_
  k_dflt cell_enter
  ((try dsimp only); repeat' (first | ((with_reducible first | refine nq_next ?_ | refine nq_ret ?_ | refine ng_next ?_ | refine ng_ret ?_ | refine nq_cont ?_ | refine nq_brk ?_ | refine ng_cont ?_ | refine ng_brk ?_); (try dsimp only)) | (k_unfold; (try dsimp only)) | walk1 | (dsimp only; walk1) | (leave1; walk_say "STEP leave1"; try dsimp only)))
  refine Stop.go ?_
  refine' while_inv (σ := Gs) (fun _ => []) _ (fun c => [(Str.ofString "value", .int c.val c.tv), (Str.ofString "got", .int c.got c.tg), (Str.ofString "place", .int c.place c.tp), (Str.ofString "inside", .int c.ins c.ti)]) [] (GsI b low cnt) (fun c => (b.size - c.place).toNat)
    ⟨0, _, 0, _, (low : Int).fdiv (2 ^ Int.toNat 3), _, Builtin.bitAnd (low : Int) 7, _⟩ (by assumption) (by assumption) ?ps ?hi ?turn
  case ps => ((repeat' (first | exact List.forall_mem_nil _ | refine List.forall_mem_cons.mpr ⟨by with_unfolding_all rfl, ?_⟩)))
  case hi => exact gs_start hl
  case turn =>
    rintro ⟨val, tv, got, tg, place, tp, ins, ti⟩ u h tk hI F N
    have hI' := hI
    first | refine el9 (hI') fun g0 g1 p0 p1 i0 i1 heq hor hval => ?_ | obtain ⟨g0, g1, p0, p1, i0, i1, heq, hor, hval⟩ := hI'
    dsimp only [List.nil_append] at *
    ((try dsimp only); repeat' (first | ((with_reducible first | refine nq_next ?_ | refine nq_ret ?_ | refine ng_next ?_ | refine ng_ret ?_ | refine nq_cont ?_ | refine nq_brk ?_ | refine ng_cont ?_ | refine ng_brk ?_); (try dsimp only)) | (k_unfold; (try dsimp only)) | walk1 | (dsimp only; walk1) | (leave1; walk_say "STEP leave1"; try dsimp only)))
    · refine Stop.go (by_item (by omega) p0 (by omega) ?_)
      intro y hy y0 y1 t' k'
      have y2 : (y.fdiv (2 ^ ins.toNat)).natAbs < 2 ^ 64 := gs_abs y0 y1
      ((try dsimp only); repeat' (first | ((with_reducible first | refine nq_next ?_ | refine nq_ret ?_ | refine ng_next ?_ | refine ng_ret ?_ | refine nq_cont ?_ | refine nq_brk ?_ | refine ng_cont ?_ | refine ng_brk ?_); (try dsimp only)) | (k_unfold; (try dsimp only)) | walk1 | (dsimp only; walk1) | (leave1; walk_say "STEP leave1"; try dsimp only)))
      refine FEnd.at ⟨_, _, got + (8 - ins), _, place + 1, _, 0, _⟩ (by assumption) (by assumption) (by ((repeat' (first | exact List.forall_mem_nil _ | refine List.forall_mem_cons.mpr ⟨by with_unfolding_all rfl, ?_⟩)))) (by (((repeat (first | (with_reducible exact fun _ _ _ => rfl) | ((with_reducible refine same_lay ?nz31 ?_); (case nz31 => rfl)) | ((with_reducible refine same_kst ?nz31 ?_); (case nz31 => rfl)))); done))) ⟨gs_step hI (by assumption) hc (by omega) hy, ?_⟩
      exact (Int.toNat_lt_toNat (by omega)).mpr (by omega)
    · exact hret _ _ _ _ (gs_end hI (by show (cnt : Int) ≤ got; omega)) (by assumption) (drop0 (by assumption))
end Kgathered_
theorem gathered_ {w : World} {mean : ExcName → Option Value} {mg : Str → Option Value} {mb : Str → Option Value} {dp : Nat} {un : Nat} {gd : Option (List Code)} {cn : Str} {cs : Scope} {a : Addr} {ccd : Value} {cl : List (Str × Addr)} {outer : List Env} {A₀ : Around} {base : Heap} {h₀ : Heap} {L : Addr} {m : Str → Option Value} {news : List (Addr × Obj)} {s : Shared} {Q : Value → Shared → Prop} {E : Value → Shared → Prop} : gathered_S w mean mg mb dp un gd cn cs a ccd cl outer A₀ base h₀ L m news s Q E := pm_all (P := fun p => gathered_S p.w p.mean p.mg p.mb p.dp p.un p.gd p.cn p.cs p.a p.ccd p.cl p.outer p.A₀ p.base p.h₀ p.L p.m p.news p.s p.Q p.E) Kgathered_.walk { pmD with w := w, mean := mean, mg := mg, mb := mb, dp := dp, un := un, gd := gd, cn := cn, cs := cs, a := a, ccd := ccd, cl := cl, outer := outer, A₀ := A₀, base := base, h₀ := h₀, L := L, m := m, news := news, s := s, Q := Q, E := E }
end
section -- E11
theorem walk_off_E11 : True := by
  w_top off
  exact trivial
def br_newS (w : World) (mean : ExcName → Option Value) (mg : Str → Option Value) (mb : Str → Option Value) (dp : Nat) (un : Nat) (gd : Option (List Code)) (cn : Str) (cs : Scope) (a : Addr) (ccd : Value) (cl : List (Str × Addr)) (outer : List Env) (A₀ : Around) (base : Heap) (h₀ : Heap) (L : Addr) (m : Str → Option Value) (news : List (Addr × Obj)) (s : Shared) (Q : Value → Shared → Prop) (E : Value → Shared → Prop) : Prop :=
  ∀ {b : Array UInt8} {tb : Tok} {W : Int} {n : Nat} (C : Cx w mean mg mb dp un cs outer A₀ base h₀ L m s.heap 2) (N : News h₀ L s.heap news) (hb : Coded b W n) (hn : n ≤ 1000) (hret : ∀ (o : RDo) (c : RDs) h' tk', o.Ok news → c.pos = n → AllLt o.dx news → Fr h₀ L h' m → News h₀ L h' (rdE w b o c ++ news) → Q (.ref o.x) { s with heap := h', toks := tk' }),
   wpAny (model PySem.Challenge.rw_pq1208_01.row.prog w) (ktrTop dp un gd cn cs L a ccd cl outer) (call (.ref 214) [.bytes b tb]) Q E s
namespace Kbr_new
noncomputable def pt : Pm := pmAt fun p => br_newS p.w p.mean p.mg p.mb p.dp p.un p.gd p.cn p.cs p.a p.ccd p.cl p.outer p.A₀ p.base p.h₀ p.L p.m p.news p.s p.Q p.E
noncomputable def s : Shared := pt.s
set_option maxRecDepth 100000 in
set_option maxHeartbeats 8000000 in
theorem walk : br_newS pt.w pt.mean pt.mg pt.mb pt.dp pt.un pt.gd pt.cn pt.cs pt.a pt.ccd pt.cl pt.outer pt.A₀ pt.base pt.h₀ pt.L pt.m pt.news s pt.Q pt.E := by
  unfold br_newS
  intro b tb W n C N hb hn hret
  refine Cx.el C fun B F X T hk hd hu => ?_
  have hs := hb.s
  have hs1 : 1 ≤ b.size := by omega
  have hs2 : b.size ≤ 200 := by omega
  ((k_dflt (refine' call_cls ?k1z32 ?k2z32 ?k3z32 ?k4z32 ?k5z32 ?k6z32 ?_; (case k1z32 => k_asm); (case k2z32 => k_asm); (case k3z32 => k_asm); (case k4z32 => k_is); (case k5z32 => k_is); (case k6z32 => k_is); k_whole; intro x' d' h' F' N' l1 l2; (have lA := allLt_of l1); (try k_lt l1); (try k_lt2 l2); (try k_sweep); cell_enter)))
  ((try dsimp only); repeat' (first | ((with_reducible first | refine nq_next ?_ | refine nq_ret ?_ | refine ng_next ?_ | refine ng_ret ?_ | refine nq_cont ?_ | refine nq_brk ?_ | refine ng_cont ?_ | refine ng_brk ?_); (try dsimp only)) | (k_unfold; (try dsimp only)) | walk1 | (dsimp only; walk1) | (leave1; walk_say "STEP leave1"; try dsimp only)))
  refine Stop.go (by_last (by omega) hs1 ?_)
  intro y hy y0 y1 t' k'
  have hL := hb.last hy
  have hy1 := hL.pos
  clear hy
  dsimp only
  ((try dsimp only); repeat' (first | ((with_reducible first | refine nq_next ?_ | refine nq_ret ?_ | refine ng_next ?_ | refine ng_ret ?_ | refine nq_cont ?_ | refine nq_brk ?_ | refine ng_cont ?_ | refine ng_brk ?_); (try dsimp only)) | (k_unfold; (try dsimp only)) | walk1 | (dsimp only; walk1) | (leave1; walk_say "STEP leave1"; try dsimp only)))
  refine Stop.go (by_last (by omega) hs1 ?_)
  intro z hz z0 z1 t'' k''
  have hM := hb.last hz
  clear hz
  dsimp only
  ((try dsimp only); repeat' (first | ((with_reducible first | refine nq_next ?_ | refine nq_ret ?_ | refine ng_next ?_ | refine ng_ret ?_ | refine nq_cont ?_ | refine nq_brk ?_ | refine ng_cont ?_ | refine ng_brk ?_); (try dsimp only)) | (k_unfold; (try dsimp only)) | walk1 | (dsimp only; walk1) | (leave1; walk_say "STEP leave1"; try dsimp only)))
  refine hret ⟨_, _, _, _, _⟩ ⟨_, _⟩ _ _ ⟨by assumption, by (((repeat' (first | assumption | exact List.forall_mem_nil _ | exact off_nil | refine off_snoc ?_ ?_ | refine List.forall_mem_cons.mpr ⟨?_, ?_⟩)) <;> (try dsimp only) <;> first | assumption | exact Nat.ne_of_lt (by assumption) | exact Nat.ne_of_gt (by assumption) | exact Nat.ne_of_gt (by omega) | exact Nat.ne_of_lt (by omega) | exact allLt_ne (by assumption) | exact allLt_ne (rt1 (by assumption)) | exact allLt_ne (rt2 (by assumption)) | exact allLt_ne (rt3 (by assumption)) | exact allLt_ne (rt4 (by assumption)) | exact allLt_ne (rt5 (by assumption)) | exact fun p hp => Nat.ne_of_lt (‹∀ p ∈ _, p.1 < _› p hp) | exact fun p hp => Nat.ne_of_lt (Nat.lt_trans (‹∀ p ∈ _, p.1 < _› p hp) (by omega)) | exact allLt_ne2 (by assumption) (by omega) | exact allLt_ne2 (rt1 (by assumption)) (by omega) | exact allLt_ne2 (rt2 (by assumption)) (by omega) | exact allLt_ne2 (rt3 (by assumption)) (by omega))), by (((repeat' (first | assumption | exact List.forall_mem_nil _ | exact off_nil | refine off_snoc ?_ ?_ | refine List.forall_mem_cons.mpr ⟨?_, ?_⟩)) <;> (try dsimp only) <;> first | assumption | exact Nat.ne_of_lt (by assumption) | exact Nat.ne_of_gt (by assumption) | exact Nat.ne_of_gt (by omega) | exact Nat.ne_of_lt (by omega) | exact allLt_ne (by assumption) | exact allLt_ne (rt1 (by assumption)) | exact allLt_ne (rt2 (by assumption)) | exact allLt_ne (rt3 (by assumption)) | exact allLt_ne (rt4 (by assumption)) | exact allLt_ne (rt5 (by assumption)) | exact fun p hp => Nat.ne_of_lt (‹∀ p ∈ _, p.1 < _› p hp) | exact fun p hp => Nat.ne_of_lt (Nat.lt_trans (‹∀ p ∈ _, p.1 < _› p hp) (by omega)) | exact allLt_ne2 (by assumption) (by omega) | exact allLt_ne2 (rt1 (by assumption)) (by omega) | exact allLt_ne2 (rt2 (by assumption)) (by omega) | exact allLt_ne2 (rt3 (by assumption)) (by omega)))⟩ ?_ (by assumption) (by assumption) (by assumption)
  have hMb := hM.bits
  show 8 * ((b.size : Int) - 1) + _ - 1 = n
  omega
end Kbr_new
theorem br_new {w : World} {mean : ExcName → Option Value} {mg : Str → Option Value} {mb : Str → Option Value} {dp : Nat} {un : Nat} {gd : Option (List Code)} {cn : Str} {cs : Scope} {a : Addr} {ccd : Value} {cl : List (Str × Addr)} {outer : List Env} {A₀ : Around} {base : Heap} {h₀ : Heap} {L : Addr} {m : Str → Option Value} {news : List (Addr × Obj)} {s : Shared} {Q : Value → Shared → Prop} {E : Value → Shared → Prop} : br_newS w mean mg mb dp un gd cn cs a ccd cl outer A₀ base h₀ L m news s Q E := pm_all (P := fun p => br_newS p.w p.mean p.mg p.mb p.dp p.un p.gd p.cn p.cs p.a p.ccd p.cl p.outer p.A₀ p.base p.h₀ p.L p.m p.news p.s p.Q p.E) Kbr_new.walk { pmD with w := w, mean := mean, mg := mg, mb := mb, dp := dp, un := un, gd := gd, cn := cn, cs := cs, a := a, ccd := ccd, cl := cl, outer := outer, A₀ := A₀, base := base, h₀ := h₀, L := L, m := m, news := news, s := s, Q := Q, E := E }
section
variable {w : World} {mean : ExcName → Option Value} {mg mb : Str → Option Value} {dp un : Nat} {gd : Option (List Code)} {cn : Str} {cs : Scope} {a : Addr} {ccd : Value} {cl : List (Str × Addr)} {outer : List Env} {A₀ : Around} {base h₀ : Heap} {L : Addr} {m : Str → Option Value} {rest news : List (Addr × Obj)} {s : Shared} {Q E : Value → Shared → Prop}
set_option maxRecDepth 100000 in
set_option maxHeartbeats 8000000 in
theorem br_left {b : Array UInt8} {o : RDo} {c : RDs}
   (C : Cx w mean mg mb dp un cs outer A₀ base h₀ L m s.heap 1) (N : News h₀ L s.heap (rdE w b o c ++ rest)) (ho : o.Ok rest)
   (hret : ∀ t h' tk', Fr h₀ L h' m → News h₀ L h' (rdE w b o c ++ rest) → Q (.int c.pos t) { s with heap := h', toks := tk' }) :
   wpAny (model PySem.Challenge.rw_pq1208_01.row.prog w) (ktrTop dp un gd cn cs L a ccd cl outer) (call (.ref 190) [.ref o.x]) Q E s := by
  refine Cx.el C fun B F X T hk hd hu => ?_
  first | refine el3 (ho) fun o1 o2 o3 => ?_ | obtain ⟨o1, o2, o3⟩ := ho
  dsimp only [List.cons_append, List.nil_append, de] at *
  refine wpAny_call ?_
  k_dflt cell_enter
  ((try dsimp only); repeat' (first | ((with_reducible first | refine nq_next ?_ | refine nq_ret ?_ | refine ng_next ?_ | refine ng_ret ?_ | refine nq_cont ?_ | refine nq_brk ?_ | refine ng_cont ?_ | refine ng_brk ?_); (try dsimp only)) | (k_unfold; (try dsimp only)) | walk1 | (dsimp only; walk1) | (leave1; walk_say "STEP leave1"; try dsimp only)))
  exact hret _ _ _ (by assumption) (by assumption)
set_option maxRecDepth 100000 in
set_option maxHeartbeats 8000000 in
theorem br_skip {b : Array UInt8} {o : RDo} {c : RDs} {n : Int} {t : Tok}
   (C : Cx w mean mg mb dp un cs outer A₀ base h₀ L m s.heap 2) (N : News h₀ L s.heap (rdE w b o c ++ rest)) (ho : o.Ok rest) (hn : 0 ≤ n)
   (hret : ∀ t h' tk', Fr h₀ L h' m → News h₀ L h' (rdE w b o ⟨c.pos - n, t⟩ ++ rest) → Q .none { s with heap := h', toks := tk' }) :
   wpAny (model PySem.Challenge.rw_pq1208_01.row.prog w) (ktrTop dp un gd cn cs L a ccd cl outer) (call (.ref 204) [.ref o.x, .int n t]) Q E s := by
  refine Cx.el C fun B F X T hk hd hu => ?_
  first | refine el3 (ho) fun o1 o2 o3 => ?_ | obtain ⟨o1, o2, o3⟩ := ho
  dsimp only [List.cons_append, List.nil_append, de] at *
  refine wpAny_call ?_
  k_dflt cell_enter
  ((try dsimp only); repeat' (first | ((with_reducible first | refine nq_next ?_ | refine nq_ret ?_ | refine ng_next ?_ | refine ng_ret ?_ | refine nq_cont ?_ | refine nq_brk ?_ | refine ng_cont ?_ | refine ng_brk ?_); (try dsimp only)) | (k_unfold; (try dsimp only)) | walk1 | (dsimp only; walk1) | (leave1; walk_say "STEP leave1"; try dsimp only)))
  refine Stop.go (need_count_ (by (exact ⟨by assumption, by assumption, by assumption, by assumption, rfl, by (first | omega | ((try simp only [depth_under_make, units_under_make, depth_in1, units_in1, depth_deeper, units_deeper]); (try dsimp only [ktrTop]); omega)), by (first | omega | ((try simp only [depth_under_make, units_under_make, depth_in1, units_in1, depth_deeper, units_deeper]); (try dsimp only [ktrTop]); omega))⟩)) (by assumption) hn ?_)
  intro h₁ k₁ F₁ N₁
  ((try dsimp only); repeat' (first | ((with_reducible first | refine nq_next ?_ | refine nq_ret ?_ | refine ng_next ?_ | refine ng_ret ?_ | refine nq_cont ?_ | refine nq_brk ?_ | refine ng_cont ?_ | refine ng_brk ?_); (try dsimp only)) | (k_unfold; (try dsimp only)) | walk1 | (dsimp only; walk1) | (leave1; walk_say "STEP leave1"; try dsimp only)))
  exact hret _ _ _ (by assumption) (by assumption)
theorem min_max0 {p n : Int} (h0 : 0 ≤ n) (h : n ≤ p) : (if (if p > 0 then p else 0) < n then (if p > 0 then p else 0) else n) = n := by
  have e : (if p > 0 then p else 0) = p := by split <;> omega
  rw [e, if_neg (Int.not_lt.mpr h)]
end
def br_peekS (w : World) (mean : ExcName → Option Value) (mg : Str → Option Value) (mb : Str → Option Value) (dp : Nat) (un : Nat) (gd : Option (List Code)) (cn : Str) (cs : Scope) (a : Addr) (ccd : Value) (cl : List (Str × Addr)) (outer : List Env) (A₀ : Around) (base : Heap) (h₀ : Heap) (L : Addr) (m : Str → Option Value) (rest : List (Addr × Obj)) (s : Shared) (Q : Value → Shared → Prop) (E : Value → Shared → Prop) : Prop :=
  ∀ {b : Array UInt8} {o : RDo} {c : RDs} {nI : Int} {n : Nat} {t : Tok} (C : Cx w mean mg mb dp un cs outer A₀ base h₀ L m s.heap 2) (N : News h₀ L s.heap (rdE w b o c ++ rest)) (ho : o.Ok rest) (hn : n ≤ 20) (hp : (n : Int) ≤ c.pos) (hp2 : c.pos ≤ 8 * b.size) (hz : b.size ≤ 200) (e1 : nI = n) (hret : ∀ v t h' tk', v = bNat b / 2 ^ (c.pos.toNat - n) % 2 ^ n → Fr h₀ L h' m → News h₀ L h' (rdE w b o c ++ rest) → Q (.int v t) { s with heap := h', toks := tk' }),
   wpAny (model PySem.Challenge.rw_pq1208_01.row.prog w) (ktrTop dp un gd cn cs L a ccd cl outer) (call (.ref 197) [.ref o.x, .int nI t]) Q E s
namespace Kbr_peek
noncomputable def pt : Pm := pmAt fun p => br_peekS p.w p.mean p.mg p.mb p.dp p.un p.gd p.cn p.cs p.a p.ccd p.cl p.outer p.A₀ p.base p.h₀ p.L p.m p.rest p.s p.Q p.E
set_option maxRecDepth 100000 in
set_option maxHeartbeats 8000000 in
theorem walk : br_peekS pt.w pt.mean pt.mg pt.mb pt.dp pt.un pt.gd pt.cn pt.cs pt.a pt.ccd pt.cl pt.outer pt.A₀ pt.base pt.h₀ pt.L pt.m pt.rest pt.s pt.Q pt.E := by
  unfold br_peekS
  intro b o c nI n t C N ho hn hp hp2 hz e1 hret
  refine Cx.el C fun B F X T hk hd hu => ?_
  first | refine el3 (ho) fun o1 o2 o3 => ?_ | obtain ⟨o1, o2, o3⟩ := ho
  dsimp only [List.cons_append, List.nil_append, de] at *
  refine wpAny_call ?_
  k_dflt cell_enter
  ((try dsimp only); repeat' (first | ((with_reducible first | refine nq_next ?_ | refine nq_ret ?_ | refine ng_next ?_ | refine ng_ret ?_ | refine nq_cont ?_ | refine nq_brk ?_ | refine ng_cont ?_ | refine ng_brk ?_); (try dsimp only)) | (k_unfold; (try dsimp only)) | walk1 | (dsimp only; walk1) | (leave1; walk_say "STEP leave1"; try dsimp only)))
  have hn0 : 0 ≤ nI := e1 ▸ Int.natCast_nonneg n
  have hmm := min_max0 hn0 (e1 ▸ hp)
  refine Stop.go (need_count_ (by (exact ⟨by assumption, by assumption, by assumption, by assumption, rfl, by (first | omega | ((try simp only [depth_under_make, units_under_make, depth_in1, units_in1, depth_deeper, units_deeper]); (try dsimp only [ktrTop]); omega)), by (first | omega | ((try simp only [depth_under_make, units_under_make, depth_in1, units_in1, depth_deeper, units_deeper]); (try dsimp only [ktrTop]); omega))⟩)) (by assumption) hn0 ?_)
  intro h₁ k₁ F₁ N₁
  ((try dsimp only); repeat' (first | ((with_reducible first | refine nq_next ?_ | refine nq_ret ?_ | refine ng_next ?_ | refine ng_ret ?_ | refine nq_cont ?_ | refine nq_brk ?_ | refine ng_cont ?_ | refine ng_brk ?_); (try dsimp only)) | (k_unfold; (try dsimp only)) | walk1 | (dsimp only; walk1) | (leave1; walk_say "STEP leave1"; try dsimp only)))
  all_goals have hh : (if (if c.pos > 0 then c.pos else 0) < nI then (if c.pos > 0 then c.pos else 0) else nI) = nI := hmm
  all_goals generalize (if (if c.pos > 0 then c.pos else 0) < nI then (if c.pos > 0 then c.pos else 0) else nI) = here at *
  · have hnp : n ≤ c.pos.toNat := (Int.le_toNat (Int.le_trans (Int.natCast_nonneg n) hp)).mpr hp
    refine Stop.go (gathered_ (low := c.pos.toNat - n) (cnt := n) (by (exact ⟨by assumption, by assumption, by assumption, by assumption, rfl, by (first | omega | ((try simp only [depth_under_make, units_under_make, depth_in1, units_in1, depth_deeper, units_deeper]); (try dsimp only [ktrTop]); omega)), by (first | omega | ((try simp only [depth_under_make, units_under_make, depth_in1, units_in1, depth_deeper, units_deeper]); (try dsimp only [ktrTop]); omega))⟩)) (by assumption) hz (by rw [Nat.sub_add_cancel hnp]; exact Int.toNat_le.mpr hp2) hn (by rw [hh, e1, Int.ofNat_sub hnp, Int.toNat_of_nonneg (Int.le_trans (Int.natCast_nonneg n) hp)]) (hh.trans e1) ?_)
    intro v t₂ h₂ k₂ hv F₂ N₂
    first | refine el2 (mod20 (bNat b / 2 ^ (c.pos.toNat - n)) hn) fun v0 v1 => ?_ | obtain ⟨v0, v1⟩ := mod20 (bNat b / 2 ^ (c.pos.toNat - n)) hn
    rw [← hv] at v0 v1
    ((try dsimp only); repeat' (first | ((with_reducible first | refine nq_next ?_ | refine nq_ret ?_ | refine ng_next ?_ | refine ng_ret ?_ | refine nq_cont ?_ | refine nq_brk ?_ | refine ng_cont ?_ | refine ng_brk ?_); (try dsimp only)) | (k_unfold; (try dsimp only)) | walk1 | (dsimp only; walk1) | (leave1; walk_say "STEP leave1"; try dsimp only)))
    refine hret _ _ _ _ ?_ (by assumption) (by assumption)
    rw [show (nI - here).toNat = 0 by rw [hh, Int.sub_self]; rfl, Int.pow_zero, Int.mul_one]; exact hv
  · refine hret _ _ _ _ ?_ (by assumption) (by assumption)
    rw [Int.zero_mul, show n = 0 by omega]
    exact (Int.emod_one _).symm
end Kbr_peek
theorem br_peek {w : World} {mean : ExcName → Option Value} {mg : Str → Option Value} {mb : Str → Option Value} {dp : Nat} {un : Nat} {gd : Option (List Code)} {cn : Str} {cs : Scope} {a : Addr} {ccd : Value} {cl : List (Str × Addr)} {outer : List Env} {A₀ : Around} {base : Heap} {h₀ : Heap} {L : Addr} {m : Str → Option Value} {rest : List (Addr × Obj)} {s : Shared} {Q : Value → Shared → Prop} {E : Value → Shared → Prop} : br_peekS w mean mg mb dp un gd cn cs a ccd cl outer A₀ base h₀ L m rest s Q E := pm_all (P := fun p => br_peekS p.w p.mean p.mg p.mb p.dp p.un p.gd p.cn p.cs p.a p.ccd p.cl p.outer p.A₀ p.base p.h₀ p.L p.m p.rest p.s p.Q p.E) Kbr_peek.walk { pmD with w := w, mean := mean, mg := mg, mb := mb, dp := dp, un := un, gd := gd, cn := cn, cs := cs, a := a, ccd := ccd, cl := cl, outer := outer, A₀ := A₀, base := base, h₀ := h₀, L := L, m := m, rest := rest, s := s, Q := Q, E := E }
section
variable {w : World} {mean : ExcName → Option Value} {mg mb : Str → Option Value} {dp un : Nat} {gd : Option (List Code)} {cn : Str} {cs : Scope} {a : Addr} {ccd : Value} {cl : List (Str × Addr)} {outer : List Env} {A₀ : Around} {base h₀ : Heap} {L : Addr} {m : Str → Option Value} {rest news : List (Addr × Obj)} {s : Shared} {Q E : Value → Shared → Prop}
set_option maxRecDepth 100000 in
set_option maxHeartbeats 8000000 in
theorem br_bits {b : Array UInt8} {o : RDo} {c : RDs} {nI : Int} {n : Nat} {t : Tok}
   (C : Cx w mean mg mb dp un cs outer A₀ base h₀ L m s.heap 3) (N : News h₀ L s.heap (rdE w b o c ++ rest)) (ho : o.Ok rest) (hn : n ≤ 20) (hp : (n : Int) ≤ c.pos) (hp2 : c.pos ≤ 8 * b.size) (hz : b.size ≤ 200) (e1 : nI = n)
   (hret : ∀ v t t2 h' tk', v = bNat b / 2 ^ (c.pos.toNat - n) % 2 ^ n → Fr h₀ L h' m → News h₀ L h' (rdE w b o ⟨c.pos - nI, t2⟩ ++ rest) → Q (.int v t) { s with heap := h', toks := tk' }) :
   wpAny (model PySem.Challenge.rw_pq1208_01.row.prog w) (ktrTop dp un gd cn cs L a ccd cl outer) (call (.ref 211) [.ref o.x, .int nI t]) Q E s := by
  refine Cx.el C fun B F X T hk hd hu => ?_
  have ho' := ho
  first | refine el3 (ho) fun o1 o2 o3 => ?_ | obtain ⟨o1, o2, o3⟩ := ho
  dsimp only [List.cons_append, List.nil_append, de] at *
  refine wpAny_call ?_
  k_dflt cell_enter
  ((try dsimp only); repeat' (first | ((with_reducible first | refine nq_next ?_ | refine nq_ret ?_ | refine ng_next ?_ | refine ng_ret ?_ | refine nq_cont ?_ | refine nq_brk ?_ | refine ng_cont ?_ | refine ng_brk ?_); (try dsimp only)) | (k_unfold; (try dsimp only)) | walk1 | (dsimp only; walk1) | (leave1; walk_say "STEP leave1"; try dsimp only)))
  refine Stop.go (need_count_ (by (exact ⟨by assumption, by assumption, by assumption, by assumption, rfl, by (first | omega | ((try simp only [depth_under_make, units_under_make, depth_in1, units_in1, depth_deeper, units_deeper]); (try dsimp only [ktrTop]); omega)), by (first | omega | ((try simp only [depth_under_make, units_under_make, depth_in1, units_in1, depth_deeper, units_deeper]); (try dsimp only [ktrTop]); omega))⟩)) (by assumption) (by omega) ?_)
  intro h₁ k₁ F₁ N₁
  ((try dsimp only); repeat' (first | ((with_reducible first | refine nq_next ?_ | refine nq_ret ?_ | refine ng_next ?_ | refine ng_ret ?_ | refine nq_cont ?_ | refine nq_brk ?_ | refine ng_cont ?_ | refine ng_brk ?_); (try dsimp only)) | (k_unfold; (try dsimp only)) | walk1 | (dsimp only; walk1) | (leave1; walk_say "STEP leave1"; try dsimp only)))
  refine Stop.go (br_peek (o := o) (c := c) (by (exact ⟨by assumption, by assumption, by assumption, by assumption, rfl, by (first | omega | ((try simp only [depth_under_make, units_under_make, depth_in1, units_in1, depth_deeper, units_deeper]); (try dsimp only [ktrTop]); omega)), by (first | omega | ((try simp only [depth_under_make, units_under_make, depth_in1, units_in1, depth_deeper, units_deeper]); (try dsimp only [ktrTop]); omega))⟩)) (by assumption) ho' hn hp hp2 hz e1 ?_)
  intro v t₂ h₂ k₂ hv F₂ N₂
  dsimp only [List.cons_append, List.nil_append, de] at *
  ((try dsimp only); repeat' (first | ((with_reducible first | refine nq_next ?_ | refine nq_ret ?_ | refine ng_next ?_ | refine ng_ret ?_ | refine nq_cont ?_ | refine nq_brk ?_ | refine ng_cont ?_ | refine ng_brk ?_); (try dsimp only)) | (k_unfold; (try dsimp only)) | walk1 | (dsimp only; walk1) | (leave1; walk_say "STEP leave1"; try dsimp only)))
  refine Stop.go (br_skip (o := o) (c := c) (by (exact ⟨by assumption, by assumption, by assumption, by assumption, rfl, by (first | omega | ((try simp only [depth_under_make, units_under_make, depth_in1, units_in1, depth_deeper, units_deeper]); (try dsimp only [ktrTop]); omega)), by (first | omega | ((try simp only [depth_under_make, units_under_make, depth_in1, units_in1, depth_deeper, units_deeper]); (try dsimp only [ktrTop]); omega))⟩)) (by assumption) ho' (by omega) ?_)
  intro t₃ h₃ k₃ F₃ N₃
  dsimp only [List.cons_append, List.nil_append, de] at *
  ((try dsimp only); repeat' (first | ((with_reducible first | refine nq_next ?_ | refine nq_ret ?_ | refine ng_next ?_ | refine ng_ret ?_ | refine nq_cont ?_ | refine nq_brk ?_ | refine ng_cont ?_ | refine ng_brk ?_); (try dsimp only)) | (k_unfold; (try dsimp only)) | walk1 | (dsimp only; walk1) | (leave1; walk_say "STEP leave1"; try dsimp only)))
  exact hret _ _ _ _ _ hv (by assumption) (by assumption)
end
end
section -- E2
theorem walk_off_E2 : True := by
  w_top off
  exact trivial
section
variable {w : World} {mean : ExcName → Option Value} {mg mb : Str → Option Value} {dp un : Nat} {gd : Option (List Code)} {cn : Str} {cs : Scope} {a : Addr} {ccd : Value} {cl : List (Str × Addr)} {outer : List Env} {A₀ : Around} {base h₀ : Heap} {L : Addr} {m : Str → Option Value} {rest news : List (Addr × Obj)} {s : Shared} {Q E : Value → Shared → Prop}
theorem ipow_le {n size : Int} {N Z k : Nat} (hn : n = N) (hz : size = Z) : (n * 2 ^ ((k : Int) + 1).toNat ≤ size) ↔ N * 2 ^ (k + 1) ≤ Z := by
  subst hn hz
  rw [show ((k : Int) + 1).toNat = k + 1 by omega, two_cast, ← Int.natCast_mul, Int.ofNat_le]
theorem ipow_lt {n size : Int} {N Z k : Nat} (hn : n = N) (hz : size = Z) : (n * 2 ^ (k : Int).toNat < size) ↔ N * 2 ^ k < Z := by
  subst hn hz
  rw [Int.toNat_natCast, two_cast, ← Int.natCast_mul, Int.ofNat_lt]
set_option maxRecDepth 100000 in
set_option maxHeartbeats 8000000 in
theorem floor_ {n size : Int} {t1 t2} {n' z : Nat} (C : Cx w mean mg mb dp un cs outer A₀ base h₀ L m s.heap 1) (N : News h₀ L s.heap news) (hn' : n = n') (hz' : size = z) (hn : 1 ≤ n') (hs : n' ≤ z) (hs2 : z ≤ 64)
    (hret : ∀ t h' tk', Fr h₀ L h' m → News h₀ L h' news → Q (.int (fl n' z : Nat) t) { s with heap := h', toks := tk' }) :
   wpAny (model PySem.Challenge.rw_pq1208_01.row.prog w) (ktrTop dp un gd cn cs L a ccd cl outer) (call (.ref 462) [.int n t1, .int size t2]) Q E s := by
  refine Cx.el C fun B F X T hk hd hu => ?_
  refine wpAny_call ?_
  k_dflt cell_enter
  ((try dsimp only); repeat' (first | ((with_reducible first | refine nq_next ?_ | refine nq_ret ?_ | refine ng_next ?_ | refine ng_ret ?_ | refine nq_cont ?_ | refine nq_brk ?_ | refine ng_cont ?_ | refine ng_brk ?_); (try dsimp only)) | (k_unfold; (try dsimp only)) | walk1 | (dsimp only; walk1) | (leave1; walk_say "STEP leave1"; try dsimp only)))
  refine Stop.go ?_
  have h3 : fl n' z ≤ 6 := fl_small hn hs hs2
  refine' while_inv (σ := Nat × Tok) (fun _ => []) _ (fun c => [(Str.ofString "bits", .int (c.1 : Int) c.2)]) [] (fun c => n' * 2 ^ c.1 ≤ z) (fun c => fl n' z - c.1) (0, _) (by assumption) (by assumption) ?hk ?hi ?turn
  case hk => ((repeat' (first | exact List.forall_mem_nil _ | refine List.forall_mem_cons.mpr ⟨by with_unfolding_all rfl, ?_⟩)))
  case hi => show n' * 2 ^ 0 ≤ z; omega
  case turn =>
    rintro ⟨k, t⟩ u h tk h2 F N
    dsimp only [List.nil_append] at *
    have h4 : k ≤ fl n' z := le_fl hn h2
    ((try dsimp only); repeat' (first | ((with_reducible first | refine nq_next ?_ | refine nq_ret ?_ | refine ng_next ?_ | refine ng_ret ?_ | refine nq_cont ?_ | refine nq_brk ?_ | refine ng_cont ?_ | refine ng_brk ?_); (try dsimp only)) | (k_unfold; (try dsimp only)) | walk1 | (dsimp only; walk1) | (leave1; walk_say "STEP leave1"; try dsimp only)))
    · have h5 := (ipow_le (k := k) hn' hz').mp (by assumption)
      have h6 := le_fl hn h5
      refine FEnd.intro (k + 1, _) (by assumption) (by assumption) (by ((simp only [List.cons_append, List.nil_append, List.append_nil]; first | exact fun _ h => h | k_sub))) (by ((repeat' (first | exact List.forall_mem_nil _ | refine List.forall_mem_cons.mpr ⟨by with_unfolding_all rfl, ?_⟩)))) (by (((repeat (first | (with_reducible exact fun _ _ _ => rfl) | ((with_reducible refine same_lay ?nz33 ?_); (case nz33 => rfl)) | ((with_reducible refine same_kst ?nz33 ?_); (case nz33 => rfl)))); done))) ⟨h5, ?_⟩
      show fl n' z - (k + 1) < fl n' z - k
      omega
    · have h5 : ¬ _ := fun e => absurd ((ipow_le (k := k) hn' hz').mpr e) (by assumption)
      have h6 := fl_uniq hn hs h2 (by omega)
      subst h6
      exact hret _ _ _ (by assumption) (by assumption)
set_option maxRecDepth 100000 in
set_option maxHeartbeats 8000000 in
theorem ceil_ {n size : Int} {t1 t2} {n' z : Nat} (C : Cx w mean mg mb dp un cs outer A₀ base h₀ L m s.heap 1) (N : News h₀ L s.heap news) (hn' : n = n') (hz' : size = z) (hn : 1 ≤ n') (hs : n' ≤ z) (hs2 : z ≤ 64)
    (hret : ∀ t h' tk', Fr h₀ L h' m → News h₀ L h' news → Q (.int (ce n' z : Nat) t) { s with heap := h', toks := tk' }) :
   wpAny (model PySem.Challenge.rw_pq1208_01.row.prog w) (ktrTop dp un gd cn cs L a ccd cl outer) (call (.ref 469) [.int n t1, .int size t2]) Q E s := by
  refine Cx.el C fun B F X T hk hd hu => ?_
  refine wpAny_call ?_
  k_dflt cell_enter
  ((try dsimp only); repeat' (first | ((with_reducible first | refine nq_next ?_ | refine nq_ret ?_ | refine ng_next ?_ | refine ng_ret ?_ | refine nq_cont ?_ | refine nq_brk ?_ | refine ng_cont ?_ | refine ng_brk ?_); (try dsimp only)) | (k_unfold; (try dsimp only)) | walk1 | (dsimp only; walk1) | (leave1; walk_say "STEP leave1"; try dsimp only)))
  refine Stop.go ?_
  have h3 : fl n' z ≤ 6 := fl_small hn hs hs2
  refine' while_inv (σ := Nat × Tok) (fun _ => []) _ (fun c => [(Str.ofString "bits", .int (c.1 : Int) c.2)]) [] (fun c => c.1 ≤ ce n' z) (fun c => ce n' z - c.1) (0, _) (by assumption) (by assumption) ?hk ?hi ?turn
  case hk => ((repeat' (first | exact List.forall_mem_nil _ | refine List.forall_mem_cons.mpr ⟨by with_unfolding_all rfl, ?_⟩)))
  case hi => exact Nat.zero_le _
  case turn =>
    rintro ⟨k, t⟩ u h tk h2 F N
    dsimp only [List.nil_append] at *
    have h4 := @ce_fl n' z
    ((try dsimp only); repeat' (first | ((with_reducible first | refine nq_next ?_ | refine nq_ret ?_ | refine ng_next ?_ | refine ng_ret ?_ | refine nq_cont ?_ | refine nq_brk ?_ | refine ng_cont ?_ | refine ng_brk ?_); (try dsimp only)) | (k_unfold; (try dsimp only)) | walk1 | (dsimp only; walk1) | (leave1; walk_say "STEP leave1"; try dsimp only)))
    · have h5 := (ipow_lt (k := k) hn' hz').mp (by assumption)
      have h6 : k < ce n' z := by
        rcases Nat.lt_or_eq_of_le h2 with h | h
        · exact h
        · have := @le_ce n' z hn; rw [← h] at this; omega
      refine FEnd.intro (k + 1, _) (by assumption) (by assumption) (by ((simp only [List.cons_append, List.nil_append, List.append_nil]; first | exact fun _ h => h | k_sub))) (by ((repeat' (first | exact List.forall_mem_nil _ | refine List.forall_mem_cons.mpr ⟨by with_unfolding_all rfl, ?_⟩)))) (by (((repeat (first | (with_reducible exact fun _ _ _ => rfl) | ((with_reducible refine same_lay ?nz34 ?_); (case nz34 => rfl)) | ((with_reducible refine same_kst ?nz34 ?_); (case nz34 => rfl)))); done))) ⟨h6, ?_⟩
      show ce n' z - (k + 1) < ce n' z - k
      omega
    · have h5 : ¬ _ := fun e => absurd ((ipow_lt (k := k) hn' hz').mpr e) (by assumption)
      have h6 : k = ce n' z := by
        rcases Nat.lt_or_eq_of_le h2 with h | h
        · exact absurd (ce_least hn hs h) h5
        · exact h
      subst h6
      exact hret _ _ _ (by assumption) (by assumption)
end
end
section -- HX
local macro_rules | `(tactic| walk_at "subscriptTail Name Slice ref ref") => `(tactic| refine stop_of ?_)
local macro_rules | `(tactic| walk_at "subscriptTail Subscript Slice ref ref") => `(tactic| refine stop_of ?_)
local macro_rules | `(tactic| walk_at "subscriptTail") => `(tactic| ((with_reducible show wpAny _ _ (subscriptTail _ _ (Value.ref _) (Value.int _ _)) _ _ _); refine stop_of ?_))
local macro_rules | `(tactic| walk_at "exec For Name Subscript cons nil") => `(tactic| (k_here; (rename Fr _ _ _ _ => lF'); (with_unfolding_all refine' For_invVF lF' ?k1 ?k2 ?_; (case k1 => exact rfl); (case k2 => exact rfl); k_whole)))
section -- E17
theorem walk_off_E17 : True := by
  w_top off
  exact trivial
section
variable {w : World} {mean : ExcName → Option Value} {mg mb : Str → Option Value} {dp un : Nat} {gd : Option (List Code)} {cn : Str} {cs : Scope} {a : Addr} {ccd : Value} {cl : List (Str × Addr)} {outer : List Env} {A₀ : Around} {base h₀ : Heap} {L : Addr} {m : Str → Option Value} {rest news : List (Addr × Obj)} {s : Shared} {Q E : Value → Shared → Prop}
structure Rw (ns : List Int) (row : List Nat) : Prop where
  ne : row ≠ []
  len : row.length ≤ 12
  many : ∀ s ∈ row, 1 ≤ (ns.getD s 0).natAbs
theorem row_at {vr : List Value} {row : List Nat} (h : IntsAre vr (up row)) {i : Nat} {v : Value} (e : vr[i]? = some v) : ∃ t, v = .int (row.getD i 0 : Int) t ∧ i < row.length ∧ row.getD i 0 ∈ row := by
  obtain ⟨c, t, rfl, hc⟩ := IntsAre.at h i v e
  have hl : i < row.length := by
    have := (List.getElem?_eq_some_iff.mp e).1
    rw [h.length, up_len] at this; exact this
  have := up_getD row i
  rw [List.getD_eq_getElem?_getD, hc] at this
  exact ⟨t, by rw [← this]; rfl, hl, getD_mem hl⟩
theorem row_last {row : List Nat} : (up row).getD (-1 + ((up row).length : Int)).toNat 0 = ((row.getD (row.length - 1) 0 : Nat) : Int) := by
  rw [up_getD, up_len, tn3]
theorem drop_at {row : List Nat} {i : Nat} (h : i < row.length) : row.drop i = row.getD i 0 :: row.drop (i + 1) := by
  rw [List.drop_eq_getElem_cons h, List.getD_eq_getElem?_getD, List.getElem?_eq_getElem h]; rfl
theorem first_enc {ns : List Int} {lg : Nat} {sy row : List Nat} (h : row ≠ []) : (((sts sy (row.getD (row.length - 1) 0)).getD 0 0 : Nat) : Int) = ((enc ns lg sy (row.drop (row.length - 1))).st : Int) := by
  have hl : 0 < row.length := List.length_pos_iff.mpr h
  rw [drop_at (by omega), List.drop_eq_nil_of_le (by omega)]
  rfl
theorem rev_at {row : List Nat} {i : Nat} (h : i < row.length - 1) : (row.take (row.length - 1)).reverse.getD i 0 = row.getD (row.length - 2 - i) 0 := by
  simp only [List.getD_eq_getElem?_getD]
  have e : (row.take (row.length - 1)).length = row.length - 1 := by rw [List.length_take]; exact Nat.min_eq_left (Nat.sub_le _ _)
  rw [List.getElem?_reverse (by rw [e]; exact h), e, Nat.sub_sub row.length 1 1, List.getElem?_take_of_lt (i := row.length - (1 + 1) - i) (ns3 h)]
theorem enc_step {ns : List Int} {lg : Nat} {sy row : List Nat} {i : Nat} (h : i < row.length - 1) : enc ns lg sy (row.drop (row.length - 1 - (i + 1))) =
    ⟨ahS ns lg sy (row.getD (row.length - 2 - i) 0) (enc ns lg sy (row.drop (row.length - 1 - i))).st, (enc ns lg sy (row.drop (row.length - 1 - i))).W + ahV ns lg (row.getD (row.length - 2 - i) 0) (enc ns lg sy (row.drop (row.length - 1 - i))).st * 2 ^ (enc ns lg sy (row.drop (row.length - 1 - i))).n,
      (enc ns lg sy (row.drop (row.length - 1 - i))).n + ahB ns lg (row.getD (row.length - 2 - i) 0) (enc ns lg sy (row.drop (row.length - 1 - i))).st⟩ := by
  rw [show row.length - 1 - (i + 1) = row.length - 2 - i from (ns0 _ _).symm, drop_at (i := row.length - 2 - i) (ns2 h), ns1 h]
  generalize hr : row.drop (row.length - 1 - i) = r
  cases r with
  | nil =>
    have := congrArg List.length hr
    rw [List.length_drop] at this
    exact absurd (Nat.sub_eq_zero_iff_le.mp this) (Nat.not_le_of_lt (ns4 (Nat.lt_of_lt_of_le (Nat.zero_lt_of_lt h) (Nat.sub_le _ _)) i))
  | cons t r => exact enc_cons ..
structure Bf where
  st : Nat
  ts : Tok
  fo : Nat
  tf : Tok
structure BfI (ns : List Int) (lg : Nat) (sy row : List Nat) (i : Nat) (c : Bf) : Prop where
  st : c.st = (enc ns lg sy (row.drop (row.length - 1 - i))).st
  fo : c.fo = lg + (enc ns lg sy (row.drop (row.length - 1 - i))).n
end
def bits_for_S (w : World) (mean : ExcName → Option Value) (mg : Str → Option Value) (mb : Str → Option Value) (dp : Nat) (un : Nat) (gd : Option (List Code)) (cn : Str) (cs : Scope) (a : Addr) (ccd : Value) (cl : List (Str × Addr)) (outer : List Env) (A₀ : Around) (base : Heap) (h₀ : Heap) (L : Addr) (m : Str → Option Value) (news : List (Addr × Obj)) (s : Shared) (Q : Value → Shared → Prop) (E : Value → Shared → Prop) : Prop :=
  ∀ {ns : List Int} {lg : Nat} {sy row : List Nat} {o : TBo} {lr : Addr} {vr : List Value} {cr : Nat} (C : Cx w mean mg mb dp un cs outer A₀ base h₀ L m s.heap 14) (N : News h₀ L s.heap news) (T : TabIn w ns lg sy o news) (hn : ns.length ≤ 11) (hm : (lr, lst vr cr) ∈ news) (hi : IntsAre vr (up row)) (R : Rw ns row) (hret : ∀ v t h' tk', v = ((lg + (enc ns lg sy row).n : Nat) : Int) → Fr h₀ L h' m → News h₀ L h' news → Q (.int v t) { s with heap := h', toks := tk' }),
   wpAny (model PySem.Challenge.rw_pq1208_01.row.prog w) (ktrTop dp un gd cn cs L a ccd cl outer) (call (.ref 427) [.ref o.x, .ref lr]) Q E s
namespace Kbits_for_
noncomputable def pt : Pm := pmAt fun p => bits_for_S p.w p.mean p.mg p.mb p.dp p.un p.gd p.cn p.cs p.a p.ccd p.cl p.outer p.A₀ p.base p.h₀ p.L p.m p.news p.s p.Q p.E
noncomputable def s : Shared := pt.s
set_option maxRecDepth 100000 in
set_option maxHeartbeats 8000000 in
theorem walk : bits_for_S pt.w pt.mean pt.mg pt.mb pt.dp pt.un pt.gd pt.cn pt.cs pt.a pt.ccd pt.cl pt.outer pt.A₀ pt.base pt.h₀ pt.L pt.m pt.news s pt.Q pt.E := by
  unfold bits_for_S
  intro ns lg sy row o lr vr cr C N T hn hm hi R hret
  refine Cx.el C fun B F X Tp hk hd hu => ?_
  have hvl : vr.length = row.length := by rw [hi.length, up_len]
  have hrl := R.len
  have hr1 : 1 ≤ row.length := List.length_pos_iff.mpr R.ne
  have N₁ := News.put N (News.put N (News.put N N T.dx) T.x) hm
  clear N
  refine wpAny_call ?_
  k_dflt ((refine' code_defC ?k1z35 ?k2z35 ?k3z35 ?k4z35 ?k5z35 ?kAz35 ?kFz35 ?kKz35 ?k6z35 ?k7z35 ?k8z35 ?k9z35 ?kBz35 ?kDz35 ?_ ?c2z35 ?c3z35 ?c4z35; (case kAz35 => exact rfl); (case kFz35 => exact rfl); (case kKz35 => first | assumption | exact rfl); (case k1z35 => k_asm); (case k2z35 => k_asm); (case k3z35 => k_asm); (case k4z35 => k_asm); (case k5z35 => k_asm); (case k6z35 => k_is); (case k7z35 => k_is); (case k8z35 => ktr_room); (case k9z35 => exact BindsTo.of_eq rfl); (case kBz35 => exact rfl); (case kDz35 => decide +kernel); (case c2z35 => exact rfl); (case c3z35 => exact rfl); (case c4z35 => exact rfl); k_whole; intro g' L' h' tk' cells' FG' F' N' Y' B' X' T' l1; (try k_lt l1); k_cells Y'; (try simp only [List.cons_append, List.nil_append] at N'); (try dsimp only); (try k_lift B'); (try k_fold)))
  ((try dsimp only); repeat' (first | ((with_reducible first | refine nq_next ?_ | refine nq_ret ?_ | refine ng_next ?_ | refine ng_ret ?_ | refine nq_cont ?_ | refine nq_brk ?_ | refine ng_cont ?_ | refine ng_brk ?_); (try dsimp only)) | (k_unfold; (try dsimp only)) | walk1 | (dsimp only; walk1) | (leave1; walk_say "STEP leave1"; try dsimp only)))
  refine Stop.go (LCt.ListComp_T (F₀ := by assumption) (by with_unfolding_all rfl) (by decide) (by rfl) (by decide) (by rfl) ?_)
  ((try dsimp only); repeat' (first | ((with_reducible first | refine nq_next ?_ | refine nq_ret ?_ | refine ng_next ?_ | refine ng_ret ?_ | refine nq_cont ?_ | refine nq_brk ?_ | refine ng_cont ?_ | refine ng_brk ?_); (try dsimp only)) | (k_unfold; (try dsimp only)) | walk1 | (dsimp only; walk1) | (leave1; walk_say "STEP leave1"; try dsimp only)))
  refine LCt.CompSrcT.ledger rfl (by assumption) (by assumption) (.tail _ (.head _)) (by size_fits) (fun g => comp_restT (fun i ys => ys = []) (.inr ⟨_, .tail _ (.head _), rfl, _, rfl⟩) ?turn ?fin _ _ _ (Nat.add_zero _) rfl)
  case turn =>
    rintro i v ys I oI Cc oC D m₂ h tk E' hin hP rfl hC hm F N off ne
    obtain ⟨t, rfl, hil, hmem⟩ := row_at hi (by simpa using hP)
    ((try dsimp only); repeat' (first | ((with_reducible first | refine nq_next ?_ | refine nq_ret ?_ | refine ng_next ?_ | refine ng_ret ?_ | refine nq_cont ?_ | refine nq_brk ?_ | refine ng_cont ?_ | refine ng_brk ?_); (try dsimp only)) | (k_unfold; (try dsimp only)) | walk1 | (dsimp only; walk1) | (leave1; walk_say "STEP leave1"; try dsimp only)))
    refine Stop.go (has_ (by (exact ⟨by assumption, by assumption, by assumption, by assumption, rfl, by (first | omega | ((try simp only [depth_under_make, units_under_make, depth_in1, units_in1, depth_deeper, units_deeper]); (try dsimp only [ktrTop]); omega)), by (first | omega | ((try simp only [depth_under_make, units_under_make, depth_in1, units_in1, depth_deeper, units_deeper]); (try dsimp only [ktrTop]); omega))⟩)) (by assumption) (T.mono (by intro p hp; simp only [List.mem_cons, hp, or_true])) (R.many _ hmem) hn ?_)
    intro h₁ k₁ F₁ N₁
    ((try dsimp only); repeat' (first | ((with_reducible first | refine nq_next ?_ | refine nq_ret ?_ | refine ng_next ?_ | refine ng_ret ?_ | refine nq_cont ?_ | refine nq_brk ?_ | refine ng_cont ?_ | refine ng_brk ?_); (try dsimp only)) | (k_unfold; (try dsimp only)) | walk1 | (dsimp only; walk1) | (leave1; walk_say "STEP leave1"; try dsimp only)))
    exact CEnd.at (by assumption) (by assumption) rfl
  case fin =>
    rintro ys rfl D h tk F N off
    have oD := off1_mem off
    ((try dsimp only); repeat' (first | ((with_reducible first | refine nq_next ?_ | refine nq_ret ?_ | refine ng_next ?_ | refine ng_ret ?_ | refine nq_cont ?_ | refine nq_brk ?_ | refine ng_cont ?_ | refine ng_brk ?_); (try dsimp only)) | (k_unfold; (try dsimp only)) | walk1 | (dsimp only; walk1) | (leave1; walk_say "STEP leave1"; try dsimp only)))
    refine len_led (vs := vr) (cap := cr) (by assumption) (.tail _ (.tail _ (.tail _ (.head _)))) (by omega) ?_
    intro k tk1 tk2 hk1
    rw [hvl] at hk1
    ((try dsimp only); repeat' (first | ((with_reducible first | refine nq_next ?_ | refine nq_ret ?_ | refine ng_next ?_ | refine ng_ret ?_ | refine nq_cont ?_ | refine nq_brk ?_ | refine ng_cont ?_ | refine ng_brk ?_); (try dsimp only)) | (k_unfold; (try dsimp only)) | walk1 | (dsimp only; walk1) | (leave1; walk_say "STEP leave1"; try dsimp only)))
    rw [row_last]
    refine Stop.go (first_state_ (by (exact ⟨by assumption, by assumption, by assumption, by assumption, rfl, by (first | omega | ((try simp only [depth_under_make, units_under_make, depth_in1, units_in1, depth_deeper, units_deeper]); (try dsimp only [ktrTop]); omega)), by (first | omega | ((try simp only [depth_under_make, units_under_make, depth_in1, units_in1, depth_deeper, units_deeper]); (try dsimp only [ktrTop]); omega))⟩)) (by assumption) (T.mono (by intro p hp; simp only [List.mem_cons, hp, or_true])) (R.many _ (getD_mem (by omega))) hn ?_)
    intro v t₁ h₁ k₁ hv F₁ N₁
    rw [first_enc (ns := ns) (lg := lg) R.ne] at hv
    ((try dsimp only); repeat' (first | ((with_reducible first | refine nq_next ?_ | refine nq_ret ?_ | refine ng_next ?_ | refine ng_ret ?_ | refine nq_cont ?_ | refine nq_brk ?_ | refine ng_cont ?_ | refine ng_brk ?_); (try dsimp only)) | (k_unfold; (try dsimp only)) | walk1 | (dsimp only; walk1) | (leave1; walk_say "STEP leave1"; try dsimp only)))
    refine Stop.go ?_
    k_dflt (refine' sl_last (row := row) ?F ?N (.tail _ (.tail _ (.tail _ (.tail _ (.head _))))) hi (by omega) ?_ ?s ?t; (case F => k_asm); (case N => k_asm); (case s => with_unfolding_all rfl); (case t => kmk_pure); k_whole)
    intro D1 w1 h₂ F₂ N₂ o2 a2
    ((try dsimp only); repeat' (first | ((with_reducible first | refine nq_next ?_ | refine nq_ret ?_ | refine ng_next ?_ | refine ng_ret ?_ | refine nq_cont ?_ | refine nq_brk ?_ | refine ng_cont ?_ | refine ng_brk ?_); (try dsimp only)) | (k_unfold; (try dsimp only)) | walk1 | (dsimp only; walk1) | (leave1; walk_say "STEP leave1"; try dsimp only)))
    refine Stop.go ?_
    have hw1 : w1.length ≤ 1000 := by rw [a2.length, up_len, List.length_take]; exact Nat.le_trans (Nat.min_le_right _ _) (Nat.le_trans hrl (by decide))
    k_dflt (refine' sl_rev (row := row.take (row.length - 1)) ?F ?N (.head _) a2 hw1 ?_ ?s ?t; (case F => k_asm); (case N => k_asm); (case s => with_unfolding_all rfl); (case t => kmk_pure); k_whole)
    intro D2 w2 h₃ F₃ N₃ o3 a3
    ((try dsimp only); repeat' (first | ((with_reducible first | refine nq_next ?_ | refine nq_ret ?_ | refine ng_next ?_ | refine ng_ret ?_ | refine nq_cont ?_ | refine nq_brk ?_ | refine ng_cont ?_ | refine ng_brk ?_); (try dsimp only)) | (k_unfold; (try dsimp only)) | walk1 | (dsimp only; walk1) | (leave1; walk_say "STEP leave1"; try dsimp only)))
    refine Stop.go ?_
    have hw2 : w2.length = row.length - 1 := by rw [a3.length, up_len, List.length_reverse, List.length_take]; exact Nat.min_eq_left (Nat.sub_le _ _)
    subst hv
    refine' it_list (σ := Bf) (vs := w2) (fun _ => []) [] _ (fun c => [(Str.ofString "state", .int (c.st : Int) c.ts), (Str.ofString "found", .int (c.fo : Int) c.tf)]) [Str.ofString "symbol", Str.ofString "value", Str.ofString "count"] (BfI ns lg sy row) ⟨_, _, lg, _⟩
      rfl ?isl ?ne1 (by simp) (fun _ => rfl) (by decide) (by simp) (by assumption) N₃ ?ps ?hi ?turn ?done
    case isl => exact ⟨_, (N₃ _ (.head _)).1, rfl, _, rfl⟩
    case ne1 => exact (N₃ _ (.head _)).2.1
    case ps => ((repeat' (first | exact List.forall_mem_nil _ | refine List.forall_mem_cons.mpr ⟨by with_unfolding_all rfl, ?_⟩)))
    case hi => exact ⟨rfl, by show lg = lg + (enc ns lg sy (row.drop (row.length - 1 - 0))).n; rw [Nat.sub_zero, drop_at (by omega), List.drop_eq_nil_of_le (by omega)]; rfl⟩
    case turn =>
      rintro i v ⟨st, ts, fo, tf⟩ u h tk rest' hin hv hx1 hoff' hsub' F N
      first | refine el2 hx1 fun hst hfo => ?_ | obtain ⟨hst, hfo⟩ := hx1
      try clear hx1
      dsimp only [List.cons_append, List.nil_append] at *
      obtain ⟨t, rfl, hil, hmem⟩ := row_at a3 hv
      rw [List.length_reverse, List.length_take] at hil
      have hi2 : i < row.length - 1 := Nat.lt_of_lt_of_le hil (Nat.min_le_left _ _)
      rw [rev_at hi2] at *
      have hmany := R.many _ (getD_mem (sy := row) (q := row.length - 2 - i) (ns2 hi2))
      have hE := enc_ok T.tb (row := row.drop (row.length - 1 - i)) (by rw [drop_at (ns4 hr1 i)]; simp) (fun s hs => R.many s (List.mem_of_mem_drop hs))
      have hE2 := enc_step (ns := ns) (lg := lg) (sy := sy) (row := row) (i := i) hi2
      have hst2 : st < 2 ^ lg := by have := hE.st; rw [← hst] at this; exact this
      have T' := T.mono (fun p hp => hsub' p (.tail _ (.tail _ (.tail _ (.tail _ (.tail _ (.tail _ (.tail _ (.tail _ (.tail _ hp))))))))))
      have N₆ := News.put N (News.put N (News.put N N (hsub' _ (.tail _ (.tail _ (.tail _ (.tail _ (.tail _ (.tail _ (.tail _ (.tail _ (.head _)))))))))))
        (hsub' _ (.tail _ (.tail _ (.tail _ (.tail _ (.tail _ (.tail _ (.tail _ (.head _)))))))))) (hsub' _ (.tail _ (.tail _ (.tail _ (.tail _ (.tail _ (.head _)))))))
      clear N
      ((try dsimp only); repeat' (first | ((with_reducible first | refine nq_next ?_ | refine nq_ret ?_ | refine ng_next ?_ | refine ng_ret ?_ | refine nq_cont ?_ | refine nq_brk ?_ | refine ng_cont ?_ | refine ng_brk ?_); (try dsimp only)) | (k_unfold; (try dsimp only)) | walk1 | (dsimp only; walk1) | (leave1; walk_say "STEP leave1"; try dsimp only)))
      refine Stop.go (ahead_ (by (exact ⟨by assumption, by assumption, by assumption, by assumption, rfl, by (first | omega | ((try simp only [depth_under_make, units_under_make, depth_in1, units_in1, depth_deeper, units_deeper]); (try dsimp only [ktrTop]); omega)), by (first | omega | ((try simp only [depth_under_make, units_under_make, depth_in1, units_in1, depth_deeper, units_deeper]); (try dsimp only [ktrTop]); omega))⟩)) (by assumption) (T'.mono (by intro p hp; simp only [List.mem_cons, hp, or_true])) hmany hn hst2 ?_)
      intro Dt t1 t2 t3 h₄ k₄ ot F₄ N₄
      ((try dsimp only); repeat' (first | ((with_reducible first | refine nq_next ?_ | refine nq_ret ?_ | refine ng_next ?_ | refine ng_ret ?_ | refine nq_cont ?_ | refine nq_brk ?_ | refine ng_cont ?_ | refine ng_brk ?_); (try dsimp only)) | (k_unfold; (try dsimp only)) | walk1 | (dsimp only; walk1) | (leave1; walk_say "STEP leave1"; try dsimp only)))
      refine FEnd.at ⟨ahS ns lg sy (row.getD (row.length - 2 - i) 0) st, _, fo + ahB ns lg (row.getD (row.length - 2 - i) 0) st, _⟩ (by assumption) (drop0 (drop0 (drop0 (drop0 (by assumption))))) (by ((repeat' (first | exact List.forall_mem_nil _ | refine List.forall_mem_cons.mpr ⟨by with_unfolding_all rfl, ?_⟩)))) (by (((repeat (first | (with_reducible exact fun _ _ _ => rfl) | ((with_reducible refine same_lay ?nz36 ?_); (case nz36 => rfl)) | ((with_reducible refine same_kst ?nz36 ?_); (case nz36 => rfl)))); done))) ⟨?_, ?_⟩
      · show _ = (enc ns lg sy (row.drop (row.length - 1 - (i + 1)))).st
        rw [hE2, hst]
      · show fo + _ = lg + (enc ns lg sy (row.drop (row.length - 1 - (i + 1)))).n
        rw [hE2, hst, hfo]
        exact Nat.add_assoc _ _ _
    case done =>
      rintro ⟨st, ts, fo, tf⟩ u h tk hx1 F N
      first | refine el2 hx1 fun hst hfo => ?_ | obtain ⟨hst, hfo⟩ := hx1
      try clear hx1
      dsimp only [List.cons_append, List.nil_append] at *
      rw [hw2, Nat.sub_self, List.drop_zero] at hfo
      ((try dsimp only); repeat' (first | ((with_reducible first | refine nq_next ?_ | refine nq_ret ?_ | refine ng_next ?_ | refine ng_ret ?_ | refine nq_cont ?_ | refine nq_brk ?_ | refine ng_cont ?_ | refine ng_brk ?_); (try dsimp only)) | (k_unfold; (try dsimp only)) | walk1 | (dsimp only; walk1) | (leave1; walk_say "STEP leave1"; try dsimp only)))
      exact hret _ _ _ _ (by rw [hfo]) (by assumption) (drop0 (drop0 (drop0 (drop0 (drop0 (drop0 (drop0 (drop0 (drop0 (by assumption))))))))))
end Kbits_for_
theorem bits_for_ {w : World} {mean : ExcName → Option Value} {mg : Str → Option Value} {mb : Str → Option Value} {dp : Nat} {un : Nat} {gd : Option (List Code)} {cn : Str} {cs : Scope} {a : Addr} {ccd : Value} {cl : List (Str × Addr)} {outer : List Env} {A₀ : Around} {base : Heap} {h₀ : Heap} {L : Addr} {m : Str → Option Value} {news : List (Addr × Obj)} {s : Shared} {Q : Value → Shared → Prop} {E : Value → Shared → Prop} : bits_for_S w mean mg mb dp un gd cn cs a ccd cl outer A₀ base h₀ L m news s Q E := pm_all (P := fun p => bits_for_S p.w p.mean p.mg p.mb p.dp p.un p.gd p.cn p.cs p.a p.ccd p.cl p.outer p.A₀ p.base p.h₀ p.L p.m p.news p.s p.Q p.E) Kbits_for_.walk { pmD with w := w, mean := mean, mg := mg, mb := mb, dp := dp, un := un, gd := gd, cn := cn, cs := cs, a := a, ccd := ccd, cl := cl, outer := outer, A₀ := A₀, base := base, h₀ := h₀, L := L, m := m, news := news, s := s, Q := Q, E := E }
end
section -- E19
theorem walk_off_E19 : True := by
  w_top off
  exact trivial
section
variable {w : World} {mean : ExcName → Option Value} {mg mb : Str → Option Value} {dp un : Nat} {gd : Option (List Code)} {cn : Str} {cs : Scope} {a : Addr} {ccd : Value} {cl : List (Str × Addr)} {outer : List Env} {A₀ : Around} {base h₀ : Heap} {L : Addr} {m : Str → Option Value} {rest news : List (Addr × Obj)} {s : Shared} {Q E : Value → Shared → Prop}
theorem rot22 {h₀ h : Heap} {L : Addr} {a b c d : Addr × Obj} {r : List (Addr × Obj)} (N : News h₀ L h (a :: b :: c :: d :: r)) : News h₀ L h (c :: d :: a :: b :: r) := cb_drop N (by (((repeat' (first | exact List.forall_mem_nil _ | refine subC (by ((repeat (first | assumption | exact List.Mem.head _ | exact List.mem_append_left _ (by assumption) | refine List.Mem.tail _ ?_ | refine List.mem_append_right _ ?_)))) ?_ | refine subA ?_ ?_)) <;> (intro p hp; ((repeat (first | assumption | exact List.Mem.head _ | exact List.mem_append_left _ (by assumption) | refine List.Mem.tail _ ?_ | refine List.mem_append_right _ ?_)))))))
structure FWo where
  x : Addr
  dx : Addr
  k1 : Tok
  k2 : Tok
structure FWo.Ok (o : FWo) (rest : List (Addr × Obj)) : Prop where
  h1 : @LT.lt Nat _ o.dx o.x
  r1 : ∀ p ∈ rest, p.1 ≠ o.dx
  r2 : ∀ p ∈ rest, p.1 ≠ o.x
abbrev fwE (w : World) (o : FWo) (tx : Addr) (st : Int) (ts : Tok) : List (Addr × Obj) :=
  [(o.x, instObj 418 o.dx), (o.dx, dictOf [de w "table" o.k1 (.ref tx), de w "state" o.k2 (.int st ts)] 2)]
set_option maxRecDepth 100000 in
set_option maxHeartbeats 8000000 in
theorem fw_new {tx : Addr}
   (C : Cx w mean mg mb dp un cs outer A₀ base h₀ L m s.heap 2) (N : News h₀ L s.heap news)
   (hret : ∀ (o : FWo) ts h' tk', o.Ok news → AllLt o.dx news → Fr h₀ L h' m → News h₀ L h' (fwE w o tx 0 ts ++ news) → Q (.ref o.x) { s with heap := h', toks := tk' }) :
   wpAny (model PySem.Challenge.rw_pq1208_01.row.prog w) (ktrTop dp un gd cn cs L a ccd cl outer) (call (.ref 418) [.ref tx]) Q E s := by
  refine Cx.el C fun B F X T hk hd hu => ?_
  ((k_dflt (refine' call_cls ?k1z37 ?k2z37 ?k3z37 ?k4z37 ?k5z37 ?k6z37 ?_; (case k1z37 => k_asm); (case k2z37 => k_asm); (case k3z37 => k_asm); (case k4z37 => k_is); (case k5z37 => k_is); (case k6z37 => k_is); k_whole; intro x' d' h' F' N' l1 l2; (have lA := allLt_of l1); (try k_lt l1); (try k_lt2 l2); (try k_sweep); cell_enter)))
  ((try dsimp only); repeat' (first | ((with_reducible first | refine nq_next ?_ | refine nq_ret ?_ | refine ng_next ?_ | refine ng_ret ?_ | refine nq_cont ?_ | refine nq_brk ?_ | refine ng_cont ?_ | refine ng_brk ?_); (try dsimp only)) | (k_unfold; (try dsimp only)) | walk1 | (dsimp only; walk1) | (leave1; walk_say "STEP leave1"; try dsimp only)))
  refine hret ⟨_, _, _, _⟩ _ _ _ ⟨by assumption, by (((repeat' (first | assumption | exact List.forall_mem_nil _ | exact off_nil | refine off_snoc ?_ ?_ | refine List.forall_mem_cons.mpr ⟨?_, ?_⟩)) <;> (try dsimp only) <;> first | assumption | exact Nat.ne_of_lt (by assumption) | exact Nat.ne_of_gt (by assumption) | exact Nat.ne_of_gt (by omega) | exact Nat.ne_of_lt (by omega) | exact allLt_ne (by assumption) | exact allLt_ne (rt1 (by assumption)) | exact allLt_ne (rt2 (by assumption)) | exact allLt_ne (rt3 (by assumption)) | exact allLt_ne (rt4 (by assumption)) | exact allLt_ne (rt5 (by assumption)) | exact fun p hp => Nat.ne_of_lt (‹∀ p ∈ _, p.1 < _› p hp) | exact fun p hp => Nat.ne_of_lt (Nat.lt_trans (‹∀ p ∈ _, p.1 < _› p hp) (by omega)) | exact allLt_ne2 (by assumption) (by omega) | exact allLt_ne2 (rt1 (by assumption)) (by omega) | exact allLt_ne2 (rt2 (by assumption)) (by omega) | exact allLt_ne2 (rt3 (by assumption)) (by omega))), by (((repeat' (first | assumption | exact List.forall_mem_nil _ | exact off_nil | refine off_snoc ?_ ?_ | refine List.forall_mem_cons.mpr ⟨?_, ?_⟩)) <;> (try dsimp only) <;> first | assumption | exact Nat.ne_of_lt (by assumption) | exact Nat.ne_of_gt (by assumption) | exact Nat.ne_of_gt (by omega) | exact Nat.ne_of_lt (by omega) | exact allLt_ne (by assumption) | exact allLt_ne (rt1 (by assumption)) | exact allLt_ne (rt2 (by assumption)) | exact allLt_ne (rt3 (by assumption)) | exact allLt_ne (rt4 (by assumption)) | exact allLt_ne (rt5 (by assumption)) | exact fun p hp => Nat.ne_of_lt (‹∀ p ∈ _, p.1 < _› p hp) | exact fun p hp => Nat.ne_of_lt (Nat.lt_trans (‹∀ p ∈ _, p.1 < _› p hp) (by omega)) | exact allLt_ne2 (by assumption) (by omega) | exact allLt_ne2 (rt1 (by assumption)) (by omega) | exact allLt_ne2 (rt2 (by assumption)) (by omega) | exact allLt_ne2 (rt3 (by assumption)) (by omega)))⟩ (by assumption) (by assumption) (drop0 (by assumption))
set_option maxRecDepth 100000 in
set_option maxHeartbeats 8000000 in
theorem fw_check {ns : List Int} {lg : Nat} {sy : List Nat} {o : TBo} {f : FWo} {st : Int} {ts : Tok} {r : Nat} {t : Tok}
   (C : Cx w mean mg mb dp un cs outer A₀ base h₀ L m s.heap 13) (N : News h₀ L s.heap (fwE w f o.x st ts ++ news)) (T : TabIn w ns lg sy o news) (hr : 1 ≤ (ns.getD r 0).natAbs) (hn : ns.length ≤ 11)
   (hret : ∀ h' tk', Fr h₀ L h' m → News h₀ L h' (fwE w f o.x st ts ++ news) → Q .none { s with heap := h', toks := tk' }) :
   wpAny (model PySem.Challenge.rw_pq1208_01.row.prog w) (ktrTop dp un gd cn cs L a ccd cl outer) (call (.ref 394) [.ref f.x, .int (r : Int) t]) Q E s := by
  refine Cx.el C fun B F X Tp hk hd hu => ?_
  have h1 : ∀ p ∈ news, p ∈ fwE w f o.x st ts ++ news := fun p hp => List.mem_append_right _ hp
  have N₁ := News.put N (News.put N N (h1 _ T.dx)) (h1 _ T.x)
  dsimp only [List.cons_append, List.nil_append, de] at *
  clear N
  refine wpAny_call ?_
  k_dflt cell_enter
  ((try dsimp only); repeat' (first | ((with_reducible first | refine nq_next ?_ | refine nq_ret ?_ | refine ng_next ?_ | refine ng_ret ?_ | refine nq_cont ?_ | refine nq_brk ?_ | refine ng_cont ?_ | refine ng_brk ?_); (try dsimp only)) | (k_unfold; (try dsimp only)) | walk1 | (dsimp only; walk1) | (leave1; walk_say "STEP leave1"; try dsimp only)))
  refine Stop.go (has_ (by (exact ⟨by assumption, by assumption, by assumption, by assumption, rfl, by (first | omega | ((try simp only [depth_under_make, units_under_make, depth_in1, units_in1, depth_deeper, units_deeper]); (try dsimp only [ktrTop]); omega)), by (first | omega | ((try simp only [depth_under_make, units_under_make, depth_in1, units_in1, depth_deeper, units_deeper]); (try dsimp only [ktrTop]); omega))⟩)) (by assumption) (T.mono (by intro p hp; simp only [List.mem_cons, hp, or_true])) hr hn ?_)
  intro h₁ k₁ F₁ N₂
  ((try dsimp only); repeat' (first | ((with_reducible first | refine nq_next ?_ | refine nq_ret ?_ | refine ng_next ?_ | refine ng_ret ?_ | refine nq_cont ?_ | refine nq_brk ?_ | refine ng_cont ?_ | refine ng_brk ?_); (try dsimp only)) | (k_unfold; (try dsimp only)) | walk1 | (dsimp only; walk1) | (leave1; walk_say "STEP leave1"; try dsimp only)))
  exact hret _ _ (by assumption) (drop0 (drop0 (by assumption)))
set_option maxRecDepth 100000 in
set_option maxHeartbeats 8000000 in
theorem fw_start {ns : List Int} {lg : Nat} {sy : List Nat} {o : TBo} {f : FWo} {st : Int} {ts : Tok} {r : Nat} {t : Tok}
   (C : Cx w mean mg mb dp un cs outer A₀ base h₀ L m s.heap 15) (N : News h₀ L s.heap (fwE w f o.x st ts ++ news)) (T : TabIn w ns lg sy o news) (hf : f.Ok news) (hr : 1 ≤ (ns.getD r 0).natAbs) (hn : ns.length ≤ 11)
   (hret : ∀ v t h' tk', v = ((sts sy r).getD 0 0 : Int) → Fr h₀ L h' m → News h₀ L h' (fwE w f o.x v t ++ news) → Q .none { s with heap := h', toks := tk' }) :
   wpAny (model PySem.Challenge.rw_pq1208_01.row.prog w) (ktrTop dp un gd cn cs L a ccd cl outer) (call (.ref 401) [.ref f.x, .int (r : Int) t]) Q E s := by
  refine Cx.el C fun B F X Tp hk hd hu => ?_
  first | refine el3 (hf) fun hf1 hf2 hf3 => ?_ | obtain ⟨hf1, hf2, hf3⟩ := hf
  have g1 := neN (hf2 _ T.x)
  have g2 := neN (hf2 _ T.dx)
  have g3 := neN (hf3 _ T.x)
  have g4 := neN (hf3 _ T.dx)
  dsimp only at g1 g2 g3 g4
  have h1 : ∀ p ∈ news, p ∈ fwE w f o.x st ts ++ news := fun p hp => List.mem_append_right _ hp
  have N₁ := News.put N (News.put N N (h1 _ T.dx)) (h1 _ T.x)
  dsimp only [List.cons_append, List.nil_append, de] at *
  clear N
  refine wpAny_call ?_
  k_dflt cell_enter
  ((try dsimp only); repeat' (first | ((with_reducible first | refine nq_next ?_ | refine nq_ret ?_ | refine ng_next ?_ | refine ng_ret ?_ | refine nq_cont ?_ | refine nq_brk ?_ | refine ng_cont ?_ | refine ng_brk ?_); (try dsimp only)) | (k_unfold; (try dsimp only)) | walk1 | (dsimp only; walk1) | (leave1; walk_say "STEP leave1"; try dsimp only)))
  refine Stop.go (fw_check (o := o) (f := f) (by (exact ⟨by assumption, by assumption, by assumption, by assumption, rfl, by (first | omega | ((try simp only [depth_under_make, units_under_make, depth_in1, units_in1, depth_deeper, units_deeper]); (try dsimp only [ktrTop]); omega)), by (first | omega | ((try simp only [depth_under_make, units_under_make, depth_in1, units_in1, depth_deeper, units_deeper]); (try dsimp only [ktrTop]); omega))⟩)) (rot22 (by assumption)) (T.mono (by intro p hp; simp only [List.mem_cons, hp, or_true])) hr hn ?_)
  intro h₁ k₁ F₁ N₂
  dsimp only [List.cons_append, List.nil_append, de] at *
  ((try dsimp only); repeat' (first | ((with_reducible first | refine nq_next ?_ | refine nq_ret ?_ | refine ng_next ?_ | refine ng_ret ?_ | refine nq_cont ?_ | refine nq_brk ?_ | refine ng_cont ?_ | refine ng_brk ?_); (try dsimp only)) | (k_unfold; (try dsimp only)) | walk1 | (dsimp only; walk1) | (leave1; walk_say "STEP leave1"; try dsimp only)))
  refine Stop.go (first_state_ (by (exact ⟨by assumption, by assumption, by assumption, by assumption, rfl, by (first | omega | ((try simp only [depth_under_make, units_under_make, depth_in1, units_in1, depth_deeper, units_deeper]); (try dsimp only [ktrTop]); omega)), by (first | omega | ((try simp only [depth_under_make, units_under_make, depth_in1, units_in1, depth_deeper, units_deeper]); (try dsimp only [ktrTop]); omega))⟩)) (by assumption) (T.mono (by intro p hp; simp only [List.mem_cons, hp, or_true])) hr hn ?_)
  intro v t₂ h₂ k₂ hv F₂ N₃
  ((try dsimp only); repeat' (first | ((with_reducible first | refine nq_next ?_ | refine nq_ret ?_ | refine ng_next ?_ | refine ng_ret ?_ | refine nq_cont ?_ | refine nq_brk ?_ | refine ng_cont ?_ | refine ng_brk ?_); (try dsimp only)) | (k_unfold; (try dsimp only)) | walk1 | (dsimp only; walk1) | (leave1; walk_say "STEP leave1"; try dsimp only)))
  exact hret _ _ _ _ hv (by assumption) (drop2 (drop2 (by assumption)))
end
end
section -- E20
theorem walk_off_E20 : True := by
  w_top off
  exact trivial
section
variable {w : World} {mean : ExcName → Option Value} {mg mb : Str → Option Value} {dp un : Nat} {gd : Option (List Code)} {cn : Str} {cs : Scope} {a : Addr} {ccd : Value} {cl : List (Str × Addr)} {outer : List Env} {A₀ : Around} {base h₀ : Heap} {L : Addr} {m : Str → Option Value} {rest news : List (Addr × Obj)} {s : Shared} {Q E : Value → Shared → Prop}
theorem bw_nes {w : World} {p : BWo} {c : LWs} {d : Addr} {rest : List (Addr × Obj)} (h : ∀ q ∈ bwE w p c ++ rest, q.1 ≠ d) : (@Ne Nat p.o.D d) ∧ (@Ne Nat p.o.x d) ∧ (@Ne Nat p.o.dx d) ∧ (@Ne Nat p.x d) ∧ (@Ne Nat p.dx d) ∧ ∀ q ∈ rest, q.1 ≠ d :=
  ⟨h _ (.head _), h _ (.tail _ (.head _)), h _ (.tail _ (.tail _ (.head _))), h _ (.tail _ (.tail _ (.tail _ (.head _)))), h _ (.tail _ (.tail _ (.tail _ (.tail _ (.head _))))), fun q hq => h q (List.mem_append_right _ hq)⟩
theorem bw_off {p : BWo} {q : Addr × Obj} {rest : List (Addr × Obj)} (h : p.Ok rest) (hq : q ∈ rest) : (@Ne Nat q.1 p.dx) ∧ (@Ne Nat q.1 p.x) ∧ (@Ne Nat q.1 p.o.dx) ∧ (@Ne Nat q.1 p.o.x) ∧ (@Ne Nat q.1 p.o.D) := ⟨h.r1 q hq, h.r2 q hq, h.r3 q hq, h.r4 q hq, h.r5 q hq⟩
theorem nes5 {a b c d e x : Nat} (h : a ≠ x ∧ b ≠ x ∧ c ≠ x ∧ d ≠ x ∧ e ≠ x) : x ≠ a ∧ x ≠ b ∧ x ≠ c ∧ x ≠ d ∧ x ≠ e := ⟨Ne.symm h.1, Ne.symm h.2.1, Ne.symm h.2.2.1, Ne.symm h.2.2.2.1, Ne.symm h.2.2.2.2⟩
theorem pmw1 {h₀ h : Heap} {L : Addr} {a b f g p1 p2 p3 p4 p5 : Addr × Obj} {r : List (Addr × Obj)} (N : News h₀ L h (a :: b :: f :: g :: p1 :: p2 :: p3 :: p4 :: p5 :: r)) : News h₀ L h (f :: g :: a :: b :: p1 :: p2 :: p3 :: p4 :: p5 :: r) := cb_drop N (by (((repeat' (first | exact List.forall_mem_nil _ | refine subC (by ((repeat (first | assumption | exact List.Mem.head _ | exact List.mem_append_left _ (by assumption) | refine List.Mem.tail _ ?_ | refine List.mem_append_right _ ?_)))) ?_ | refine subA ?_ ?_)) <;> (intro p hp; ((repeat (first | assumption | exact List.Mem.head _ | exact List.mem_append_left _ (by assumption) | refine List.Mem.tail _ ?_ | refine List.mem_append_right _ ?_)))))))
theorem pmw2 {h₀ h : Heap} {L : Addr} {t a b f g p1 p2 p3 p4 p5 : Addr × Obj} {r : List (Addr × Obj)} (N : News h₀ L h (t :: f :: g :: a :: b :: p1 :: p2 :: p3 :: p4 :: p5 :: r)) : News h₀ L h (p1 :: p2 :: p3 :: p4 :: p5 :: t :: f :: g :: a :: b :: r) := cb_drop N (by (((repeat' (first | exact List.forall_mem_nil _ | refine subC (by ((repeat (first | assumption | exact List.Mem.head _ | exact List.mem_append_left _ (by assumption) | refine List.Mem.tail _ ?_ | refine List.mem_append_right _ ?_)))) ?_ | refine subA ?_ ?_)) <;> (intro p hp; ((repeat (first | assumption | exact List.Mem.head _ | exact List.mem_append_left _ (by assumption) | refine List.Mem.tail _ ?_ | refine List.mem_append_right _ ?_)))))))
theorem pmw3 {h₀ h : Heap} {L : Addr} {t a b f g p1 p2 p3 p4 p5 : Addr × Obj} {r : List (Addr × Obj)} (N : News h₀ L h (p1 :: p2 :: p3 :: p4 :: p5 :: t :: f :: g :: a :: b :: r)) : News h₀ L h (f :: g :: p1 :: p2 :: p3 :: p4 :: p5 :: r) := cb_drop N (by (((repeat' (first | exact List.forall_mem_nil _ | refine subC (by ((repeat (first | assumption | exact List.Mem.head _ | exact List.mem_append_left _ (by assumption) | refine List.Mem.tail _ ?_ | refine List.mem_append_right _ ?_)))) ?_ | refine subA ?_ ?_)) <;> (intro p hp; ((repeat (first | assumption | exact List.Mem.head _ | exact List.mem_append_left _ (by assumption) | refine List.Mem.tail _ ?_ | refine List.mem_append_right _ ?_)))))))
theorem pmw4 {h₀ h : Heap} {L : Addr} {a b f g p1 p2 p3 p4 p5 : Addr × Obj} {r : List (Addr × Obj)} (N : News h₀ L h (a :: b :: f :: g :: p1 :: p2 :: p3 :: p4 :: p5 :: r)) : News h₀ L h (p1 :: p2 :: p3 :: p4 :: p5 :: f :: g :: a :: b :: r) := cb_drop N (by (((repeat' (first | exact List.forall_mem_nil _ | refine subC (by ((repeat (first | assumption | exact List.Mem.head _ | exact List.mem_append_left _ (by assumption) | refine List.Mem.tail _ ?_ | refine List.mem_append_right _ ?_)))) ?_ | refine subA ?_ ?_)) <;> (intro p hp; ((repeat (first | assumption | exact List.Mem.head _ | exact List.mem_append_left _ (by assumption) | refine List.Mem.tail _ ?_ | refine List.mem_append_right _ ?_)))))))
theorem pmw5 {h₀ h : Heap} {L : Addr} {a b f g p1 p2 p3 p4 p5 : Addr × Obj} {r : List (Addr × Obj)} (N : News h₀ L h (p1 :: p2 :: p3 :: p4 :: p5 :: f :: g :: a :: b :: r)) : News h₀ L h (f :: g :: p1 :: p2 :: p3 :: p4 :: p5 :: r) := cb_drop N (by (((repeat' (first | exact List.forall_mem_nil _ | refine subC (by ((repeat (first | assumption | exact List.Mem.head _ | exact List.mem_append_left _ (by assumption) | refine List.Mem.tail _ ?_ | refine List.mem_append_right _ ?_)))) ?_ | refine subA ?_ ?_)) <;> (intro p hp; ((repeat (first | assumption | exact List.Mem.head _ | exact List.mem_append_left _ (by assumption) | refine List.Mem.tail _ ?_ | refine List.mem_append_right _ ?_)))))))
theorem tup_nes {x : Addr} {a b f g p1 p2 p3 p4 p5 : Addr × Obj} {r : List (Addr × Obj)} (h : ∀ p ∈ f :: g :: a :: b :: p1 :: p2 :: p3 :: p4 :: p5 :: r, p.1 ≠ x) : (@Ne Nat g.1 x) ∧ (@Ne Nat x g.1) ∧ (@Ne Nat x p1.1) ∧ (@Ne Nat x p2.1) ∧ (@Ne Nat x p3.1) ∧ (@Ne Nat x p4.1) ∧ (@Ne Nat x p5.1) := by
  have h2 := h g (by simp)
  refine ⟨h2, Ne.symm h2, ?_, ?_, ?_, ?_, ?_⟩ <;> exact Ne.symm (h _ (by simp))
end
def fw_stepS (w : World) (mean : ExcName → Option Value) (mg : Str → Option Value) (mb : Str → Option Value) (dp : Nat) (un : Nat) (gd : Option (List Code)) (cn : Str) (cs : Scope) (a : Addr) (ccd : Value) (cl : List (Str × Addr)) (outer : List Env) (A₀ : Around) (base : Heap) (h₀ : Heap) (L : Addr) (m : Str → Option Value) (rest : List (Addr × Obj)) (s : Shared) : Prop :=
  ∀ {Q : Value → Shared → Prop} {ns : List Int} {lg : Nat} {sy : List Nat} {o : TBo} {f : FWo} {st : Nat} {ts : Tok} {r : Nat} {t : Tok} {p : BWo} {c : LWs} {W : Int} {n : Nat} (C : Cx w mean mg mb dp un cs outer A₀ base h₀ L m s.heap 15) (N : News h₀ L s.heap (fwE w f o.x (st : Int) ts ++ (bwE w p c ++ rest))) (T : TabIn w ns lg sy o rest) (hf : f.Ok (bwE w p c ++ rest)) (hp : p.Ok rest) (hc : c.Ok W n) (hn1 : n ≤ 900) (hr : 1 ≤ (ns.getD r 0).natAbs) (hn : ns.length ≤ 11) (hst : st < 2 ^ lg) (hret : ∀ c' t h' tk', c'.Ok (W + ahV ns lg r st * 2 ^ n) (n + ahB ns lg r st) → Fr h₀ L h' m → News h₀ L h' (fwE w f o.x (ahS ns lg sy r st : Int) t ++ (bwE w p c' ++ rest)) → Q .none { s with heap := h', toks := tk' }),
   wpG (model PySem.Challenge.rw_pq1208_01.row.prog w) (ktrTop dp un gd cn cs L a ccd cl outer) (call (.ref 408) [.ref f.x, .ref p.x, .int (r : Int) t]) Q s
namespace Kfw_step
noncomputable def pt : Pm := pmAt fun p => fw_stepS p.w p.mean p.mg p.mb p.dp p.un p.gd p.cn p.cs p.a p.ccd p.cl p.outer p.A₀ p.base p.h₀ p.L p.m p.rest p.s
noncomputable def w : World := pt.w
noncomputable def rest : List (Addr × Obj) := pt.rest
set_option maxRecDepth 100000 in
set_option maxHeartbeats 8000000 in
theorem walk : fw_stepS w pt.mean pt.mg pt.mb pt.dp pt.un pt.gd pt.cn pt.cs pt.a pt.ccd pt.cl pt.outer pt.A₀ pt.base pt.h₀ pt.L pt.m rest pt.s := by
  unfold fw_stepS
  intro Q ns lg sy o f st ts r t p c W n C N T hf hp hc hn1 hr hn hst hret
  refine Cx.el C fun B F X Tp hk hd hu => ?_
  have A := T.tb.ah hr hst
  have hb6 := A.b6
  have hvb := A.v
  first | refine el6 (bw_nes hf.r1) fun a1 a2 a3 a4 a5 a6 => ?_ | obtain ⟨a1, a2, a3, a4, a5, a6⟩ := bw_nes hf.r1
  first | refine el6 (bw_nes hf.r2) fun b1 b2 b3 b4 b5 b6 => ?_ | obtain ⟨b1, b2, b3, b4, b5, b6⟩ := bw_nes hf.r2
  first | refine el5 (nes5 ⟨a1, a2, a3, a4, a5⟩) fun a1s a2s a3s a4s a5s => ?_ | obtain ⟨a1s, a2s, a3s, a4s, a5s⟩ := nes5 ⟨a1, a2, a3, a4, a5⟩
  first | refine el5 (nes5 ⟨b1, b2, b3, b4, b5⟩) fun b1s b2s b3s b4s b5s => ?_ | obtain ⟨b1s, b2s, b3s, b4s, b5s⟩ := nes5 ⟨b1, b2, b3, b4, b5⟩
  first | refine el5 (bw_off hp T.x) fun c1 c2 c3 c4 c5 => ?_ | obtain ⟨c1, c2, c3, c4, c5⟩ := bw_off hp T.x
  first | refine el5 (bw_off hp T.dx) fun d1 d2 d3 d4 d5 => ?_ | obtain ⟨d1, d2, d3, d4, d5⟩ := bw_off hp T.dx
  have e1 := neN (a6 _ T.x)
  have e2 := neN (a6 _ T.dx)
  have e3 := neN (b6 _ T.x)
  have e4 := neN (b6 _ T.dx)
  have hfx := hf.h1
  have hp' := hp
  first | refine el9 (hp) fun o1 o2 o3 o4 o5 o6 o7 o8 o9 => ?_ | obtain ⟨o1, o2, o3, o4, o5, o6, o7, o8, o9⟩ := hp
  dsimp only at c1 c2 c3 c4 c5 d1 d2 d3 d4 d5 e1 e2 e3 e4
  have h1 : ∀ q ∈ rest, q ∈ fwE w f o.x (st : Int) ts ++ (bwE w p c ++ rest) := fun p hp => List.mem_append_right _ (List.mem_append_right _ hp)
  have N₁ := News.put N (News.put N N (h1 _ T.dx)) (h1 _ T.x)
  clear N
  dsimp only [List.cons_append, List.nil_append, de] at *
  ((refine wpG_call ?_; k_dflt ((refine' codeG_def ?k1z40 ?k2z40 ?k3z40 ?k4z40 ?k5z40 ?kAz40 ?kFz40 ?kKz40 ?k6z40 ?k7z40 ?k8z40 ?k9z40 ?kBz40 ?_ ?c2z40 ?c3z40 ?c4z40 ?c5z40; (case kAz40 => exact rfl); (case kFz40 => exact rfl); (case kKz40 => first | assumption | exact rfl); (case k1z40 => k_asm); (case k2z40 => k_asm); (case k3z40 => k_asm); (case k4z40 => k_asm); (case k5z40 => k_asm); (case k6z40 => k_is); (case k7z40 => k_is); (case k8z40 => ktr_room); (case k9z40 => exact BindsTo.of_eq rfl); (case c5z40 => decide); (case kBz40 => exact locs rfl); (case c2z40 => exact rfl); (case c3z40 => exact rfl); (case c4z40 => exact rfl); k_whole; intro g' L' h' FG' F' N' B' X' T'; (try dsimp only); (try k_lift B'); (try k_fold)))))
  (((try dsimp only); (repeat (with_reducible first | refine nq_next ?_ | refine nq_ret ?_ | refine ng_next ?_ | refine ng_ret ?_ | refine nq_cont ?_ | refine nq_brk ?_ | refine ng_cont ?_ | refine ng_brk ?_)); (with_reducible refine execsG_any ?_); ((try dsimp only); repeat' (first | ((with_reducible first | refine nq_next ?_ | refine nq_ret ?_ | refine ng_next ?_ | refine ng_ret ?_ | refine nq_cont ?_ | refine nq_brk ?_ | refine ng_cont ?_ | refine ng_brk ?_); (try dsimp only)) | (k_unfold; (try dsimp only)) | walk1 | (dsimp only; walk1) | (leave1; walk_say "STEP leave1"; try dsimp only)))))
  refine Stop.go (fw_check (o := o) (f := f) (by (exact ⟨by assumption, by assumption, by assumption, by assumption, rfl, by (first | omega | ((try simp only [depth_under_make, units_under_make, depth_in1, units_in1, depth_deeper, units_deeper]); (try dsimp only [ktrTop]); omega)), by (first | omega | ((try simp only [depth_under_make, units_under_make, depth_in1, units_in1, depth_deeper, units_deeper]); (try dsimp only [ktrTop]); omega))⟩)) (pmw1 (by assumption)) (T.mono (by intro p hp; simp only [List.mem_cons, hp, or_true])) hr hn ?_)
  intro h₁ k₁ F₁ N₂
  dsimp only [List.cons_append, List.nil_append, de] at *
  ((try dsimp only); repeat' (first | ((with_reducible first | refine nq_next ?_ | refine nq_ret ?_ | refine ng_next ?_ | refine ng_ret ?_ | refine nq_cont ?_ | refine nq_brk ?_ | refine ng_cont ?_ | refine ng_brk ?_); (try dsimp only)) | (k_unfold; (try dsimp only)) | walk1 | (dsimp only; walk1) | (leave1; walk_say "STEP leave1"; try dsimp only)))
  (((try dsimp only); (repeat (with_reducible first | refine nq_next ?_ | refine nq_ret ?_ | refine ng_next ?_ | refine ng_ret ?_ | refine nq_cont ?_ | refine nq_brk ?_ | refine ng_cont ?_ | refine ng_brk ?_)); (with_reducible refine execsG_any ?_); ((try dsimp only); repeat' (first | ((with_reducible first | refine nq_next ?_ | refine nq_ret ?_ | refine ng_next ?_ | refine ng_ret ?_ | refine nq_cont ?_ | refine nq_brk ?_ | refine ng_cont ?_ | refine ng_brk ?_); (try dsimp only)) | (k_unfold; (try dsimp only)) | walk1 | (dsimp only; walk1) | (leave1; walk_say "STEP leave1"; try dsimp only)))))
  refine Stop.go (ahead_ (by (exact ⟨by assumption, by assumption, by assumption, by assumption, rfl, by (first | omega | ((try simp only [depth_under_make, units_under_make, depth_in1, units_in1, depth_deeper, units_deeper]); (try dsimp only [ktrTop]); omega)), by (first | omega | ((try simp only [depth_under_make, units_under_make, depth_in1, units_in1, depth_deeper, units_deeper]); (try dsimp only [ktrTop]); omega))⟩)) (by assumption) (T.mono (by intro p hp; simp only [List.mem_cons, hp, or_true])) hr hn hst ?_)
  intro Dt t1 t2 t3 h₂ k₂ ot F₂ N₃
  dsimp only [List.cons_append, List.nil_append, de] at *
  ((try dsimp only); repeat' (first | ((with_reducible first | refine nq_next ?_ | refine nq_ret ?_ | refine ng_next ?_ | refine ng_ret ?_ | refine nq_cont ?_ | refine nq_brk ?_ | refine ng_cont ?_ | refine ng_brk ?_); (try dsimp only)) | (k_unfold; (try dsimp only)) | walk1 | (dsimp only; walk1) | (leave1; walk_say "STEP leave1"; try dsimp only)))
  first | refine el7 (tup_nes ot) fun u1 u2 u3 u4 u5 u6 u7 => ?_ | obtain ⟨u1, u2, u3, u4, u5, u6, u7⟩ := tup_nes ot
  dsimp only at u1 u2 u3 u4 u5 u6 u7
  (((try dsimp only); (repeat (with_reducible first | refine nq_next ?_ | refine nq_ret ?_ | refine ng_next ?_ | refine ng_ret ?_ | refine nq_cont ?_ | refine nq_brk ?_ | refine ng_cont ?_ | refine ng_brk ?_)); with_reducible refine execsG_cons ?_))
  refine G_Expr ?_
  refine G_MethodCall ?_
  ((try dsimp only); repeat' (first | ((with_reducible first | refine nq_next ?_ | refine nq_ret ?_ | refine ng_next ?_ | refine ng_ret ?_ | refine nq_cont ?_ | refine nq_brk ?_ | refine ng_cont ?_ | refine ng_brk ?_); (try dsimp only)) | (k_unfold; (try dsimp only)) | walk1 | (dsimp only; walk1) | (leave1; walk_say "STEP leave1"; try dsimp only)))
  ((k_dflt (first | (refine' gc_K0' ?k1z38 ?k3z38 ?k2z38 ?_; (case k1z38 => k_asm); (case k3z38 => k_asm); (case k2z38 => k_is)) | (refine' gc_K ?k1z38 ?k2z38 ?_; (case k1z38 => k_asm); (case k2z38 => k_is)))))
  ((try dsimp only); repeat' (first | ((with_reducible first | refine nq_next ?_ | refine nq_ret ?_ | refine ng_next ?_ | refine ng_ret ?_ | refine nq_cont ?_ | refine nq_brk ?_ | refine ng_cont ?_ | refine ng_brk ?_); (try dsimp only)) | (k_unfold; (try dsimp only)) | walk1 | (dsimp only; walk1) | (leave1; walk_say "STEP leave1"; try dsimp only)))
  refine bw_bits (p := p) (c := c) (W := W) (n := n) (k := (ahB ns lg r st : Int)) (by (exact ⟨by assumption, by assumption, by assumption, by assumption, rfl, by (first | omega | ((try simp only [depth_under_make, units_under_make, depth_in1, units_in1, depth_deeper, units_deeper]); (try dsimp only [ktrTop]); omega)), by (first | omega | ((try simp only [depth_under_make, units_under_make, depth_in1, units_in1, depth_deeper, units_deeper]); (try dsimp only [ktrTop]); omega))⟩)) (pmw2 (by assumption)) ⟨o1, o2, o3, o4, by (((repeat' (first | assumption | exact List.forall_mem_nil _ | exact off_nil | refine off_snoc ?_ ?_ | refine List.forall_mem_cons.mpr ⟨?_, ?_⟩)) <;> (try dsimp only) <;> first | assumption | exact Nat.ne_of_lt (by assumption) | exact Nat.ne_of_gt (by assumption) | exact Nat.ne_of_gt (by omega) | exact Nat.ne_of_lt (by omega) | exact allLt_ne (by assumption) | exact allLt_ne (rt1 (by assumption)) | exact allLt_ne (rt2 (by assumption)) | exact allLt_ne (rt3 (by assumption)) | exact allLt_ne (rt4 (by assumption)) | exact allLt_ne (rt5 (by assumption)) | exact fun p hp => Nat.ne_of_lt (‹∀ p ∈ _, p.1 < _› p hp) | exact fun p hp => Nat.ne_of_lt (Nat.lt_trans (‹∀ p ∈ _, p.1 < _› p hp) (by omega)) | exact allLt_ne2 (by assumption) (by omega) | exact allLt_ne2 (rt1 (by assumption)) (by omega) | exact allLt_ne2 (rt2 (by assumption)) (by omega) | exact allLt_ne2 (rt3 (by assumption)) (by omega))), by (((repeat' (first | assumption | exact List.forall_mem_nil _ | exact off_nil | refine off_snoc ?_ ?_ | refine List.forall_mem_cons.mpr ⟨?_, ?_⟩)) <;> (try dsimp only) <;> first | assumption | exact Nat.ne_of_lt (by assumption) | exact Nat.ne_of_gt (by assumption) | exact Nat.ne_of_gt (by omega) | exact Nat.ne_of_lt (by omega) | exact allLt_ne (by assumption) | exact allLt_ne (rt1 (by assumption)) | exact allLt_ne (rt2 (by assumption)) | exact allLt_ne (rt3 (by assumption)) | exact allLt_ne (rt4 (by assumption)) | exact allLt_ne (rt5 (by assumption)) | exact fun p hp => Nat.ne_of_lt (‹∀ p ∈ _, p.1 < _› p hp) | exact fun p hp => Nat.ne_of_lt (Nat.lt_trans (‹∀ p ∈ _, p.1 < _› p hp) (by omega)) | exact allLt_ne2 (by assumption) (by omega) | exact allLt_ne2 (rt1 (by assumption)) (by omega) | exact allLt_ne2 (rt2 (by assumption)) (by omega) | exact allLt_ne2 (rt3 (by assumption)) (by omega))), by (((repeat' (first | assumption | exact List.forall_mem_nil _ | exact off_nil | refine off_snoc ?_ ?_ | refine List.forall_mem_cons.mpr ⟨?_, ?_⟩)) <;> (try dsimp only) <;> first | assumption | exact Nat.ne_of_lt (by assumption) | exact Nat.ne_of_gt (by assumption) | exact Nat.ne_of_gt (by omega) | exact Nat.ne_of_lt (by omega) | exact allLt_ne (by assumption) | exact allLt_ne (rt1 (by assumption)) | exact allLt_ne (rt2 (by assumption)) | exact allLt_ne (rt3 (by assumption)) | exact allLt_ne (rt4 (by assumption)) | exact allLt_ne (rt5 (by assumption)) | exact fun p hp => Nat.ne_of_lt (‹∀ p ∈ _, p.1 < _› p hp) | exact fun p hp => Nat.ne_of_lt (Nat.lt_trans (‹∀ p ∈ _, p.1 < _› p hp) (by omega)) | exact allLt_ne2 (by assumption) (by omega) | exact allLt_ne2 (rt1 (by assumption)) (by omega) | exact allLt_ne2 (rt2 (by assumption)) (by omega) | exact allLt_ne2 (rt3 (by assumption)) (by omega))), by (((repeat' (first | assumption | exact List.forall_mem_nil _ | exact off_nil | refine off_snoc ?_ ?_ | refine List.forall_mem_cons.mpr ⟨?_, ?_⟩)) <;> (try dsimp only) <;> first | assumption | exact Nat.ne_of_lt (by assumption) | exact Nat.ne_of_gt (by assumption) | exact Nat.ne_of_gt (by omega) | exact Nat.ne_of_lt (by omega) | exact allLt_ne (by assumption) | exact allLt_ne (rt1 (by assumption)) | exact allLt_ne (rt2 (by assumption)) | exact allLt_ne (rt3 (by assumption)) | exact allLt_ne (rt4 (by assumption)) | exact allLt_ne (rt5 (by assumption)) | exact fun p hp => Nat.ne_of_lt (‹∀ p ∈ _, p.1 < _› p hp) | exact fun p hp => Nat.ne_of_lt (Nat.lt_trans (‹∀ p ∈ _, p.1 < _› p hp) (by omega)) | exact allLt_ne2 (by assumption) (by omega) | exact allLt_ne2 (rt1 (by assumption)) (by omega) | exact allLt_ne2 (rt2 (by assumption)) (by omega) | exact allLt_ne2 (rt3 (by assumption)) (by omega))), by (((repeat' (first | assumption | exact List.forall_mem_nil _ | exact off_nil | refine off_snoc ?_ ?_ | refine List.forall_mem_cons.mpr ⟨?_, ?_⟩)) <;> (try dsimp only) <;> first | assumption | exact Nat.ne_of_lt (by assumption) | exact Nat.ne_of_gt (by assumption) | exact Nat.ne_of_gt (by omega) | exact Nat.ne_of_lt (by omega) | exact allLt_ne (by assumption) | exact allLt_ne (rt1 (by assumption)) | exact allLt_ne (rt2 (by assumption)) | exact allLt_ne (rt3 (by assumption)) | exact allLt_ne (rt4 (by assumption)) | exact allLt_ne (rt5 (by assumption)) | exact fun p hp => Nat.ne_of_lt (‹∀ p ∈ _, p.1 < _› p hp) | exact fun p hp => Nat.ne_of_lt (Nat.lt_trans (‹∀ p ∈ _, p.1 < _› p hp) (by omega)) | exact allLt_ne2 (by assumption) (by omega) | exact allLt_ne2 (rt1 (by assumption)) (by omega) | exact allLt_ne2 (rt2 (by assumption)) (by omega) | exact allLt_ne2 (rt3 (by assumption)) (by omega)))⟩ hc (by omega) (by omega) (by omega) (by omega) (by rw [Int.toNat_natCast, two_pow_cast]; exact Int.ofNat_lt.mpr hvb) ?_
  intro c' h₄ tk₄ hc' F₄ N₄
  rw [Int.toNat_natCast] at hc'
  dsimp only [List.cons_append, List.nil_append, de] at *
  (((try dsimp only); (repeat (with_reducible first | refine nq_next ?_ | refine nq_ret ?_ | refine ng_next ?_ | refine ng_ret ?_ | refine nq_cont ?_ | refine nq_brk ?_ | refine ng_cont ?_ | refine ng_brk ?_)); (with_reducible refine execsG_any ?_); ((try dsimp only); repeat' (first | ((with_reducible first | refine nq_next ?_ | refine nq_ret ?_ | refine ng_next ?_ | refine ng_ret ?_ | refine nq_cont ?_ | refine nq_brk ?_ | refine ng_cont ?_ | refine ng_brk ?_); (try dsimp only)) | (k_unfold; (try dsimp only)) | walk1 | (dsimp only; walk1) | (leave1; walk_say "STEP leave1"; try dsimp only)))))
  (((try dsimp only); (repeat (with_reducible first | refine nq_next ?_ | refine nq_ret ?_ | refine ng_next ?_ | refine ng_ret ?_ | refine nq_cont ?_ | refine nq_brk ?_ | refine ng_cont ?_ | refine ng_brk ?_)); (with_reducible refine execsG_nil ?_); (try dsimp only); (repeat (with_reducible first | refine nq_next ?_ | refine nq_ret ?_ | refine ng_next ?_ | refine ng_ret ?_ | refine nq_cont ?_ | refine nq_brk ?_ | refine ng_cont ?_ | refine ng_brk ?_)); (try dsimp only); ((try dsimp only); repeat' (first | ((with_reducible first | refine nq_next ?_ | refine nq_ret ?_ | refine ng_next ?_ | refine ng_ret ?_ | refine nq_cont ?_ | refine nq_brk ?_ | refine ng_cont ?_ | refine ng_brk ?_); (try dsimp only)) | (k_unfold; (try dsimp only)) | walk1 | (dsimp only; walk1) | (leave1; walk_say "STEP leave1"; try dsimp only)))))
  exact hret c' _ _ _ hc' (by assumption) (pmw3 (by assumption))
end Kfw_step
theorem fw_step {w : World} {mean : ExcName → Option Value} {mg : Str → Option Value} {mb : Str → Option Value} {dp : Nat} {un : Nat} {gd : Option (List Code)} {cn : Str} {cs : Scope} {a : Addr} {ccd : Value} {cl : List (Str × Addr)} {outer : List Env} {A₀ : Around} {base : Heap} {h₀ : Heap} {L : Addr} {m : Str → Option Value} {rest : List (Addr × Obj)} {s : Shared} : fw_stepS w mean mg mb dp un gd cn cs a ccd cl outer A₀ base h₀ L m rest s := pm_all (P := fun p => fw_stepS p.w p.mean p.mg p.mb p.dp p.un p.gd p.cn p.cs p.a p.ccd p.cl p.outer p.A₀ p.base p.h₀ p.L p.m p.rest p.s) Kfw_step.walk { pmD with w := w, mean := mean, mg := mg, mb := mb, dp := dp, un := un, gd := gd, cn := cn, cs := cs, a := a, ccd := ccd, cl := cl, outer := outer, A₀ := A₀, base := base, h₀ := h₀, L := L, m := m, rest := rest, s := s }
section
variable {w : World} {mean : ExcName → Option Value} {mg mb : Str → Option Value} {dp un : Nat} {gd : Option (List Code)} {cn : Str} {cs : Scope} {a : Addr} {ccd : Value} {cl : List (Str × Addr)} {outer : List Env} {A₀ : Around} {base h₀ : Heap} {L : Addr} {m : Str → Option Value} {rest news : List (Addr × Obj)} {s : Shared} {Q E : Value → Shared → Prop}
set_option maxRecDepth 100000 in
set_option maxHeartbeats 8000000 in
theorem fw_end {Q : Value → Shared → Prop} {ns : List Int} {lg : Nat} {sy : List Nat} {o : TBo} {f : FWo} {st : Nat} {ts : Tok} {p : BWo} {c : LWs} {W : Int} {n : Nat}
   (C : Cx w mean mg mb dp un cs outer A₀ base h₀ L m s.heap 5) (N : News h₀ L s.heap (fwE w f o.x (st : Int) ts ++ (bwE w p c ++ rest))) (T : TabIn w ns lg sy o rest) (hf : f.Ok (bwE w p c ++ rest)) (hp : p.Ok rest) (hc : c.Ok W n) (hn1 : n ≤ 900) (hst : st < 2 ^ lg)
   (hret : ∀ c' h' tk', c'.Ok (W + st * 2 ^ n) (n + lg) → Fr h₀ L h' m → News h₀ L h' (fwE w f o.x (st : Int) ts ++ (bwE w p c' ++ rest)) → Q .none { s with heap := h', toks := tk' }) :
   wpG (model PySem.Challenge.rw_pq1208_01.row.prog w) (ktrTop dp un gd cn cs L a ccd cl outer) (call (.ref 415) [.ref f.x, .ref p.x]) Q s := by
  refine Cx.el C fun B F X Tp hk hd hu => ?_
  have hl6 := T.tb.l6
  first | refine el6 (bw_nes hf.r1) fun a1 a2 a3 a4 a5 a6 => ?_ | obtain ⟨a1, a2, a3, a4, a5, a6⟩ := bw_nes hf.r1
  first | refine el6 (bw_nes hf.r2) fun b1 b2 b3 b4 b5 b6 => ?_ | obtain ⟨b1, b2, b3, b4, b5, b6⟩ := bw_nes hf.r2
  first | refine el5 (nes5 ⟨a1, a2, a3, a4, a5⟩) fun a1s a2s a3s a4s a5s => ?_ | obtain ⟨a1s, a2s, a3s, a4s, a5s⟩ := nes5 ⟨a1, a2, a3, a4, a5⟩
  first | refine el5 (nes5 ⟨b1, b2, b3, b4, b5⟩) fun b1s b2s b3s b4s b5s => ?_ | obtain ⟨b1s, b2s, b3s, b4s, b5s⟩ := nes5 ⟨b1, b2, b3, b4, b5⟩
  first | refine el5 (bw_off hp T.x) fun c1 c2 c3 c4 c5 => ?_ | obtain ⟨c1, c2, c3, c4, c5⟩ := bw_off hp T.x
  first | refine el5 (bw_off hp T.dx) fun d1 d2 d3 d4 d5 => ?_ | obtain ⟨d1, d2, d3, d4, d5⟩ := bw_off hp T.dx
  first | refine el9 (hp) fun o1 o2 o3 o4 o5 o6 o7 o8 o9 => ?_ | obtain ⟨o1, o2, o3, o4, o5, o6, o7, o8, o9⟩ := hp
  dsimp only at c1 c2 c3 c4 c5 d1 d2 d3 d4 d5
  have h1 : ∀ q ∈ rest, q ∈ fwE w f o.x (st : Int) ts ++ (bwE w p c ++ rest) := fun p hp => List.mem_append_right _ (List.mem_append_right _ hp)
  have N₁ := News.put N (News.put N N (h1 _ T.dx)) (h1 _ T.x)
  clear N
  dsimp only [List.cons_append, List.nil_append, de] at *
  ((refine wpG_call ?_; k_dflt ((refine' codeG_def ?k1z41 ?k2z41 ?k3z41 ?k4z41 ?k5z41 ?kAz41 ?kFz41 ?kKz41 ?k6z41 ?k7z41 ?k8z41 ?k9z41 ?kBz41 ?_ ?c2z41 ?c3z41 ?c4z41 ?c5z41; (case kAz41 => exact rfl); (case kFz41 => exact rfl); (case kKz41 => first | assumption | exact rfl); (case k1z41 => k_asm); (case k2z41 => k_asm); (case k3z41 => k_asm); (case k4z41 => k_asm); (case k5z41 => k_asm); (case k6z41 => k_is); (case k7z41 => k_is); (case k8z41 => ktr_room); (case k9z41 => exact BindsTo.of_eq rfl); (case c5z41 => decide); (case kBz41 => exact locs rfl); (case c2z41 => exact rfl); (case c3z41 => exact rfl); (case c4z41 => exact rfl); k_whole; intro g' L' h' FG' F' N' B' X' T'; (try dsimp only); (try k_lift B'); (try k_fold)))))
  (((try dsimp only); (repeat (with_reducible first | refine nq_next ?_ | refine nq_ret ?_ | refine ng_next ?_ | refine ng_ret ?_ | refine nq_cont ?_ | refine nq_brk ?_ | refine ng_cont ?_ | refine ng_brk ?_)); with_reducible refine execsG_cons ?_))
  refine G_Expr ?_
  refine G_MethodCall ?_
  ((try dsimp only); repeat' (first | ((with_reducible first | refine nq_next ?_ | refine nq_ret ?_ | refine ng_next ?_ | refine ng_ret ?_ | refine nq_cont ?_ | refine nq_brk ?_ | refine ng_cont ?_ | refine ng_brk ?_); (try dsimp only)) | (k_unfold; (try dsimp only)) | walk1 | (dsimp only; walk1) | (leave1; walk_say "STEP leave1"; try dsimp only)))
  ((k_dflt (first | (refine' gc_K0' ?k1z39 ?k3z39 ?k2z39 ?_; (case k1z39 => k_asm); (case k3z39 => k_asm); (case k2z39 => k_is)) | (refine' gc_K ?k1z39 ?k2z39 ?_; (case k1z39 => k_asm); (case k2z39 => k_is)))))
  ((try dsimp only); repeat' (first | ((with_reducible first | refine nq_next ?_ | refine nq_ret ?_ | refine ng_next ?_ | refine ng_ret ?_ | refine nq_cont ?_ | refine nq_brk ?_ | refine ng_cont ?_ | refine ng_brk ?_); (try dsimp only)) | (k_unfold; (try dsimp only)) | walk1 | (dsimp only; walk1) | (leave1; walk_say "STEP leave1"; try dsimp only)))
  refine bw_bits (p := p) (c := c) (W := W) (n := n) (k := (lg : Int)) (by (exact ⟨by assumption, by assumption, by assumption, by assumption, rfl, by (first | omega | ((try simp only [depth_under_make, units_under_make, depth_in1, units_in1, depth_deeper, units_deeper]); (try dsimp only [ktrTop]); omega)), by (first | omega | ((try simp only [depth_under_make, units_under_make, depth_in1, units_in1, depth_deeper, units_deeper]); (try dsimp only [ktrTop]); omega))⟩)) (pmw4 (by assumption)) ⟨o1, o2, o3, o4, by (((repeat' (first | assumption | exact List.forall_mem_nil _ | exact off_nil | refine off_snoc ?_ ?_ | refine List.forall_mem_cons.mpr ⟨?_, ?_⟩)) <;> (try dsimp only) <;> first | assumption | exact Nat.ne_of_lt (by assumption) | exact Nat.ne_of_gt (by assumption) | exact Nat.ne_of_gt (by omega) | exact Nat.ne_of_lt (by omega) | exact allLt_ne (by assumption) | exact allLt_ne (rt1 (by assumption)) | exact allLt_ne (rt2 (by assumption)) | exact allLt_ne (rt3 (by assumption)) | exact allLt_ne (rt4 (by assumption)) | exact allLt_ne (rt5 (by assumption)) | exact fun p hp => Nat.ne_of_lt (‹∀ p ∈ _, p.1 < _› p hp) | exact fun p hp => Nat.ne_of_lt (Nat.lt_trans (‹∀ p ∈ _, p.1 < _› p hp) (by omega)) | exact allLt_ne2 (by assumption) (by omega) | exact allLt_ne2 (rt1 (by assumption)) (by omega) | exact allLt_ne2 (rt2 (by assumption)) (by omega) | exact allLt_ne2 (rt3 (by assumption)) (by omega))), by (((repeat' (first | assumption | exact List.forall_mem_nil _ | exact off_nil | refine off_snoc ?_ ?_ | refine List.forall_mem_cons.mpr ⟨?_, ?_⟩)) <;> (try dsimp only) <;> first | assumption | exact Nat.ne_of_lt (by assumption) | exact Nat.ne_of_gt (by assumption) | exact Nat.ne_of_gt (by omega) | exact Nat.ne_of_lt (by omega) | exact allLt_ne (by assumption) | exact allLt_ne (rt1 (by assumption)) | exact allLt_ne (rt2 (by assumption)) | exact allLt_ne (rt3 (by assumption)) | exact allLt_ne (rt4 (by assumption)) | exact allLt_ne (rt5 (by assumption)) | exact fun p hp => Nat.ne_of_lt (‹∀ p ∈ _, p.1 < _› p hp) | exact fun p hp => Nat.ne_of_lt (Nat.lt_trans (‹∀ p ∈ _, p.1 < _› p hp) (by omega)) | exact allLt_ne2 (by assumption) (by omega) | exact allLt_ne2 (rt1 (by assumption)) (by omega) | exact allLt_ne2 (rt2 (by assumption)) (by omega) | exact allLt_ne2 (rt3 (by assumption)) (by omega))), by (((repeat' (first | assumption | exact List.forall_mem_nil _ | exact off_nil | refine off_snoc ?_ ?_ | refine List.forall_mem_cons.mpr ⟨?_, ?_⟩)) <;> (try dsimp only) <;> first | assumption | exact Nat.ne_of_lt (by assumption) | exact Nat.ne_of_gt (by assumption) | exact Nat.ne_of_gt (by omega) | exact Nat.ne_of_lt (by omega) | exact allLt_ne (by assumption) | exact allLt_ne (rt1 (by assumption)) | exact allLt_ne (rt2 (by assumption)) | exact allLt_ne (rt3 (by assumption)) | exact allLt_ne (rt4 (by assumption)) | exact allLt_ne (rt5 (by assumption)) | exact fun p hp => Nat.ne_of_lt (‹∀ p ∈ _, p.1 < _› p hp) | exact fun p hp => Nat.ne_of_lt (Nat.lt_trans (‹∀ p ∈ _, p.1 < _› p hp) (by omega)) | exact allLt_ne2 (by assumption) (by omega) | exact allLt_ne2 (rt1 (by assumption)) (by omega) | exact allLt_ne2 (rt2 (by assumption)) (by omega) | exact allLt_ne2 (rt3 (by assumption)) (by omega))), by (((repeat' (first | assumption | exact List.forall_mem_nil _ | exact off_nil | refine off_snoc ?_ ?_ | refine List.forall_mem_cons.mpr ⟨?_, ?_⟩)) <;> (try dsimp only) <;> first | assumption | exact Nat.ne_of_lt (by assumption) | exact Nat.ne_of_gt (by assumption) | exact Nat.ne_of_gt (by omega) | exact Nat.ne_of_lt (by omega) | exact allLt_ne (by assumption) | exact allLt_ne (rt1 (by assumption)) | exact allLt_ne (rt2 (by assumption)) | exact allLt_ne (rt3 (by assumption)) | exact allLt_ne (rt4 (by assumption)) | exact allLt_ne (rt5 (by assumption)) | exact fun p hp => Nat.ne_of_lt (‹∀ p ∈ _, p.1 < _› p hp) | exact fun p hp => Nat.ne_of_lt (Nat.lt_trans (‹∀ p ∈ _, p.1 < _› p hp) (by omega)) | exact allLt_ne2 (by assumption) (by omega) | exact allLt_ne2 (rt1 (by assumption)) (by omega) | exact allLt_ne2 (rt2 (by assumption)) (by omega) | exact allLt_ne2 (rt3 (by assumption)) (by omega))), by (((repeat' (first | assumption | exact List.forall_mem_nil _ | exact off_nil | refine off_snoc ?_ ?_ | refine List.forall_mem_cons.mpr ⟨?_, ?_⟩)) <;> (try dsimp only) <;> first | assumption | exact Nat.ne_of_lt (by assumption) | exact Nat.ne_of_gt (by assumption) | exact Nat.ne_of_gt (by omega) | exact Nat.ne_of_lt (by omega) | exact allLt_ne (by assumption) | exact allLt_ne (rt1 (by assumption)) | exact allLt_ne (rt2 (by assumption)) | exact allLt_ne (rt3 (by assumption)) | exact allLt_ne (rt4 (by assumption)) | exact allLt_ne (rt5 (by assumption)) | exact fun p hp => Nat.ne_of_lt (‹∀ p ∈ _, p.1 < _› p hp) | exact fun p hp => Nat.ne_of_lt (Nat.lt_trans (‹∀ p ∈ _, p.1 < _› p hp) (by omega)) | exact allLt_ne2 (by assumption) (by omega) | exact allLt_ne2 (rt1 (by assumption)) (by omega) | exact allLt_ne2 (rt2 (by assumption)) (by omega) | exact allLt_ne2 (rt3 (by assumption)) (by omega)))⟩ hc (by omega) (by omega) (by omega) (by omega) (by rw [Int.toNat_natCast, two_pow_cast]; exact Int.ofNat_lt.mpr hst) ?_
  intro c' h₄ tk₄ hc' F₄ N₄
  rw [Int.toNat_natCast] at hc'
  dsimp only [List.cons_append, List.nil_append, de] at *
  (((try dsimp only); (repeat (with_reducible first | refine nq_next ?_ | refine nq_ret ?_ | refine ng_next ?_ | refine ng_ret ?_ | refine nq_cont ?_ | refine nq_brk ?_ | refine ng_cont ?_ | refine ng_brk ?_)); (with_reducible refine execsG_nil ?_); (try dsimp only); (repeat (with_reducible first | refine nq_next ?_ | refine nq_ret ?_ | refine ng_next ?_ | refine ng_ret ?_ | refine nq_cont ?_ | refine nq_brk ?_ | refine ng_cont ?_ | refine ng_brk ?_)); (try dsimp only); ((try dsimp only); repeat' (first | ((with_reducible first | refine nq_next ?_ | refine nq_ret ?_ | refine ng_next ?_ | refine ng_ret ?_ | refine nq_cont ?_ | refine nq_brk ?_ | refine ng_cont ?_ | refine ng_brk ?_); (try dsimp only)) | (k_unfold; (try dsimp only)) | walk1 | (dsimp only; walk1) | (leave1; walk_say "STEP leave1"; try dsimp only)))))
  exact hret c' _ _ hc' (by assumption) (pmw5 (by assumption))
end
end
section -- E22
theorem walk_off_E22 : True := by
  w_top off
  exact trivial
section
variable {w : World} {mean : ExcName → Option Value} {mg mb : Str → Option Value} {dp un : Nat} {gd : Option (List Code)} {cn : Str} {cs : Scope} {a : Addr} {ccd : Value} {cl : List (Str × Addr)} {outer : List Env} {A₀ : Around} {base h₀ : Heap} {L : Addr} {m : Str → Option Value} {rest news : List (Addr × Obj)} {s : Shared} {Q E : Value → Shared → Prop}
theorem pmk1 {h₀ h : Heap} {L : Addr} {t f g p1 p2 p3 p4 p5 l : Addr × Obj} {r : List (Addr × Obj)} (N : News h₀ L h (t :: f :: g :: p1 :: p2 :: p3 :: p4 :: p5 :: l :: r)) : News h₀ L h (l :: f :: g :: p1 :: p2 :: p3 :: p4 :: p5 :: r) := cb_drop N (by (((repeat' (first | exact List.forall_mem_nil _ | refine subC (by ((repeat (first | assumption | exact List.Mem.head _ | exact List.mem_append_left _ (by assumption) | refine List.Mem.tail _ ?_ | refine List.mem_append_right _ ?_)))) ?_ | refine subA ?_ ?_)) <;> (intro p hp; ((repeat (first | assumption | exact List.Mem.head _ | exact List.mem_append_left _ (by assumption) | refine List.Mem.tail _ ?_ | refine List.mem_append_right _ ?_)))))))
theorem pmk2 {h₀ h : Heap} {L : Addr} {f g p1 p2 p3 p4 p5 l : Addr × Obj} {r : List (Addr × Obj)} (N : News h₀ L h (l :: f :: g :: p1 :: p2 :: p3 :: p4 :: p5 :: r)) : News h₀ L h (f :: g :: p1 :: p2 :: p3 :: p4 :: p5 :: l :: r) := cb_drop N (by (((repeat' (first | exact List.forall_mem_nil _ | refine subC (by ((repeat (first | assumption | exact List.Mem.head _ | exact List.mem_append_left _ (by assumption) | refine List.Mem.tail _ ?_ | refine List.mem_append_right _ ?_)))) ?_ | refine subA ?_ ?_)) <;> (intro p hp; ((repeat (first | assumption | exact List.Mem.head _ | exact List.mem_append_left _ (by assumption) | refine List.Mem.tail _ ?_ | refine List.mem_append_right _ ?_)))))))
theorem pmk3 {h₀ h : Heap} {L : Addr} {f g p1 p2 p3 p4 p5 l : Addr × Obj} {r : List (Addr × Obj)} (N : News h₀ L h (f :: g :: p1 :: p2 :: p3 :: p4 :: p5 :: l :: r)) : News h₀ L h (l :: f :: g :: p1 :: p2 :: p3 :: p4 :: p5 :: r) := cb_drop N (by (((repeat' (first | exact List.forall_mem_nil _ | refine subC (by ((repeat (first | assumption | exact List.Mem.head _ | exact List.mem_append_left _ (by assumption) | refine List.Mem.tail _ ?_ | refine List.mem_append_right _ ?_)))) ?_ | refine subA ?_ ?_)) <;> (intro p hp; ((repeat (first | assumption | exact List.Mem.head _ | exact List.mem_append_left _ (by assumption) | refine List.Mem.tail _ ?_ | refine List.mem_append_right _ ?_)))))))
theorem pmk4 {h₀ h : Heap} {L : Addr} {f g p1 p2 p3 p4 p5 l d1 d2 : Addr × Obj} {r : List (Addr × Obj)} (N : News h₀ L h (d2 :: d1 :: l :: f :: g :: p1 :: p2 :: p3 :: p4 :: p5 :: r)) : News h₀ L h ([f, g, p1, p2, p3, p4, p5] ++ (d2 :: d1 :: l :: r)) := cb_drop N (by (((repeat' (first | exact List.forall_mem_nil _ | refine subC (by ((repeat (first | assumption | exact List.Mem.head _ | exact List.mem_append_left _ (by assumption) | refine List.Mem.tail _ ?_ | refine List.mem_append_right _ ?_)))) ?_ | refine subA ?_ ?_)) <;> (intro p hp; ((repeat (first | assumption | exact List.Mem.head _ | exact List.mem_append_left _ (by assumption) | refine List.Mem.tail _ ?_ | refine List.mem_append_right _ ?_)))))))
theorem pmk5 {h₀ h : Heap} {L : Addr} {f g p1 p2 p3 p4 p5 : Addr × Obj} {r : List (Addr × Obj)} (N : News h₀ L h (f :: g :: p1 :: p2 :: p3 :: p4 :: p5 :: r)) : News h₀ L h (p1 :: p2 :: p3 :: p4 :: p5 :: f :: g :: r) := cb_drop N (by (((repeat' (first | exact List.forall_mem_nil _ | refine subC (by ((repeat (first | assumption | exact List.Mem.head _ | exact List.mem_append_left _ (by assumption) | refine List.Mem.tail _ ?_ | refine List.mem_append_right _ ?_)))) ?_ | refine subA ?_ ?_)) <;> (intro p hp; ((repeat (first | assumption | exact List.Mem.head _ | exact List.mem_append_left _ (by assumption) | refine List.Mem.tail _ ?_ | refine List.mem_append_right _ ?_)))))))
theorem pmk6 {h₀ h : Heap} {L : Addr} {f g p1 p2 p3 p4 p5 a b c : Addr × Obj} {r : List (Addr × Obj)} (N : News h₀ L h (p1 :: p2 :: p3 :: p4 :: p5 :: f :: g :: a :: b :: c :: r)) : News h₀ L h r := cb_drop N (by (((repeat' (first | exact List.forall_mem_nil _ | refine subC (by ((repeat (first | assumption | exact List.Mem.head _ | exact List.mem_append_left _ (by assumption) | refine List.Mem.tail _ ?_ | refine List.mem_append_right _ ?_)))) ?_ | refine subA ?_ ?_)) <;> (intro p hp; ((repeat (first | assumption | exact List.Mem.head _ | exact List.mem_append_left _ (by assumption) | refine List.Mem.tail _ ?_ | refine List.mem_append_right _ ?_)))))))
structure Pk where
  st : Nat
  ts : Tok
  c : LWs
structure PkI (ns : List Int) (lg : Nat) (sy row : List Nat) (i : Nat) (c : Pk) : Prop where
  st : c.st = (enc ns lg sy (row.drop (row.length - 1 - i))).st
  c : c.c.Ok ((enc ns lg sy (row.drop (row.length - 1 - i))).W : Int) (enc ns lg sy (row.drop (row.length - 1 - i))).n
theorem not7 {x a b c d e f g : Addr} (h1 : a ≠ x) (h2 : b ≠ x) (h3 : c ≠ x) (h4 : d ≠ x) (h5 : e ≠ x) (h6 : f ≠ x) (h7 : g ≠ x) : x ∉ [a, b, c, d, e, f, g] := fun h => by
  simp only [List.mem_cons, List.not_mem_nil, or_false] at h
  rcases h with h | h | h | h | h | h | h
  · exact h1 h.symm
  · exact h2 h.symm
  · exact h3 h.symm
  · exact h4 h.symm
  · exact h5 h.symm
  · exact h6 h.symm
  · exact h7 h.symm
theorem off7 {a b c d e f g : Addr} {r : List (Addr × Obj)} (h : ∀ p ∈ r, p.1 ∉ [a, b, c, d, e, f, g]) : (∀ p ∈ r, p.1 ≠ a) ∧ (∀ p ∈ r, p.1 ≠ b) ∧ (∀ p ∈ r, p.1 ≠ c) ∧ (∀ p ∈ r, p.1 ≠ d) ∧ (∀ p ∈ r, p.1 ≠ e) ∧ (∀ p ∈ r, p.1 ≠ f) ∧ (∀ p ∈ r, p.1 ≠ g) := by
  refine ⟨?_, ?_, ?_, ?_, ?_, ?_, ?_⟩ <;> (intro p hp e; exact h p hp (by simp [e]))
end
def pack_S (w : World) (mean : ExcName → Option Value) (mg : Str → Option Value) (mb : Str → Option Value) (dp : Nat) (un : Nat) (gd : Option (List Code)) (cn : Str) (cs : Scope) (a : Addr) (ccd : Value) (cl : List (Str × Addr)) (outer : List Env) (A₀ : Around) (base : Heap) (h₀ : Heap) (L : Addr) (m : Str → Option Value) (news : List (Addr × Obj)) (s : Shared) : Prop :=
  ∀ {Q : Value → Shared → Prop} {ns : List Int} {lg : Nat} {sy row : List Nat} {o : TBo} {lr : Addr} {vr : List Value} {cr : Nat} (C : Cx w mean mg mb dp un cs outer A₀ base h₀ L m s.heap 17) (N : News h₀ L s.heap news) (T : TabIn w ns lg sy o news) (hn : ns.length ≤ 11) (hm : (lr, lst vr cr) ∈ news) (hi : IntsAre vr (up row)) (R : Rw ns row) (hret : ∀ b t h' tk', Coded b (((enc ns lg sy row).W : Int) + (enc ns lg sy row).st * 2 ^ (enc ns lg sy row).n) ((enc ns lg sy row).n + lg) → Fr h₀ L h' m → News h₀ L h' news → Q (.bytes b t) { s with heap := h', toks := tk' }),
   wpG (model PySem.Challenge.rw_pq1208_01.row.prog w) (ktrTop dp un gd cn cs L a ccd cl outer) (call (.ref 434) [.ref lr, .ref o.x]) Q s
namespace Kpack_
noncomputable def pt : Pm := pmAt fun p => pack_S p.w p.mean p.mg p.mb p.dp p.un p.gd p.cn p.cs p.a p.ccd p.cl p.outer p.A₀ p.base p.h₀ p.L p.m p.news p.s
noncomputable def w : World := pt.w
noncomputable def news : List (Addr × Obj) := pt.news
noncomputable def s : Shared := pt.s
set_option maxRecDepth 100000 in
set_option maxHeartbeats 8000000 in
theorem walk : pack_S w pt.mean pt.mg pt.mb pt.dp pt.un pt.gd pt.cn pt.cs pt.a pt.ccd pt.cl pt.outer pt.A₀ pt.base pt.h₀ pt.L pt.m news s := by
  unfold pack_S
  intro Q ns lg sy row o lr vr cr C N T hn hm hi R hret
  refine Cx.el C fun B F X Tp hk hd hu => ?_
  have E0 := enc_ok T.tb R.ne R.many
  have hl6 := T.tb.l6
  have hrl := R.len
  have hr1 : 1 ≤ row.length := List.length_pos_iff.mpr R.ne
  have hvl : vr.length = row.length := by rw [hi.length, up_len]
  have hn0 := E0.n
  have N₁ := News.put N N hm
  clear N
  ((refine wpG_call ?_; k_dflt ((refine' codeG_def ?k1z47 ?k2z47 ?k3z47 ?k4z47 ?k5z47 ?kAz47 ?kFz47 ?kKz47 ?k6z47 ?k7z47 ?k8z47 ?k9z47 ?kBz47 ?_ ?c2z47 ?c3z47 ?c4z47 ?c5z47; (case kAz47 => exact rfl); (case kFz47 => exact rfl); (case kKz47 => first | assumption | exact rfl); (case k1z47 => k_asm); (case k2z47 => k_asm); (case k3z47 => k_asm); (case k4z47 => k_asm); (case k5z47 => k_asm); (case k6z47 => k_is); (case k7z47 => k_is); (case k8z47 => ktr_room); (case k9z47 => exact BindsTo.of_eq rfl); (case c5z47 => decide); (case kBz47 => exact locs rfl); (case c2z47 => exact rfl); (case c3z47 => exact rfl); (case c4z47 => exact rfl); k_whole; intro g' L' h' FG' F' N' B' X' T'; (try dsimp only); (try k_lift B'); (try k_fold)))))
  (((try dsimp only); (repeat (with_reducible first | refine nq_next ?_ | refine nq_ret ?_ | refine ng_next ?_ | refine ng_ret ?_ | refine nq_cont ?_ | refine nq_brk ?_ | refine ng_cont ?_ | refine ng_brk ?_)); with_reducible refine execsG_cons ?_))
  refine G_Assign_Tuple_swapped ?_
  refine G_Tuple ?_
  refine G_spliced_more ?_
  refine G_Call ?_
  ((try dsimp only); repeat' (first | ((with_reducible first | refine nq_next ?_ | refine nq_ret ?_ | refine ng_next ?_ | refine ng_ret ?_ | refine nq_cont ?_ | refine nq_brk ?_ | refine ng_cont ?_ | refine ng_brk ?_); (try dsimp only)) | (k_unfold; (try dsimp only)) | walk1 | (dsimp only; walk1) | (leave1; walk_say "STEP leave1"; try dsimp only)))
  ((k_dflt (first | (refine' gc_K0' ?k1z42 ?k3z42 ?k2z42 ?_; (case k1z42 => k_asm); (case k3z42 => k_asm); (case k2z42 => k_is)) | (refine' gc_K ?k1z42 ?k2z42 ?_; (case k1z42 => k_asm); (case k2z42 => k_is)))))
  refine bw_new (by (exact ⟨by assumption, by assumption, by assumption, by assumption, rfl, by (first | omega | ((try simp only [depth_under_make, units_under_make, depth_in1, units_in1, depth_deeper, units_deeper]); (try dsimp only [ktrTop]); omega)), by (first | omega | ((try simp only [depth_under_make, units_under_make, depth_in1, units_in1, depth_deeper, units_deeper]); (try dsimp only [ktrTop]); omega))⟩)) (by assumption) ?_
  intro p c h₁ tk₁ hp hc hl F₁ N₂
  dsimp only [List.cons_append, List.nil_append, de] at *
  ((try dsimp only); repeat' (first | ((with_reducible first | refine nq_next ?_ | refine nq_ret ?_ | refine ng_next ?_ | refine ng_ret ?_ | refine nq_cont ?_ | refine nq_brk ?_ | refine ng_cont ?_ | refine ng_brk ?_); (try dsimp only)) | (k_unfold; (try dsimp only)) | walk1 | (dsimp only; walk1) | (leave1; walk_say "STEP leave1"; try dsimp only)))
  refine Stop.go (fw_new (by (exact ⟨by assumption, by assumption, by assumption, by assumption, rfl, by (first | omega | ((try simp only [depth_under_make, units_under_make, depth_in1, units_in1, depth_deeper, units_deeper]); (try dsimp only [ktrTop]); omega)), by (first | omega | ((try simp only [depth_under_make, units_under_make, depth_in1, units_in1, depth_deeper, units_deeper]); (try dsimp only [ktrTop]); omega))⟩)) (by assumption) ?_)
  intro f ts h₂ k₂ hf hl2 F₂ N₃
  dsimp only [List.cons_append, List.nil_append, de] at *
  ((try dsimp only); repeat' (first | ((with_reducible first | refine nq_next ?_ | refine nq_ret ?_ | refine ng_next ?_ | refine ng_ret ?_ | refine nq_cont ?_ | refine nq_brk ?_ | refine ng_cont ?_ | refine ng_brk ?_); (try dsimp only)) | (k_unfold; (try dsimp only)) | walk1 | (dsimp only; walk1) | (leave1; walk_say "STEP leave1"; try dsimp only)))
  have N₄ := pmk1 (by assumption)
  have hf' := hf
  have hp' := hp
  first | refine el6 (bw_nes (c := c) (p := p) hf.r1) fun a1 a2 a3 a4 a5 a6 => ?_ | obtain ⟨a1, a2, a3, a4, a5, a6⟩ := bw_nes (c := c) (p := p) hf.r1
  first | refine el6 (bw_nes (c := c) (p := p) hf.r2) fun b1 b2 b3 b4 b5 b6 => ?_ | obtain ⟨b1, b2, b3, b4, b5, b6⟩ := bw_nes (c := c) (p := p) hf.r2
  first | refine el5 (nes5 ⟨a1, a2, a3, a4, a5⟩) fun a1s a2s a3s a4s a5s => ?_ | obtain ⟨a1s, a2s, a3s, a4s, a5s⟩ := nes5 ⟨a1, a2, a3, a4, a5⟩
  first | refine el5 (nes5 ⟨b1, b2, b3, b4, b5⟩) fun b1s b2s b3s b4s b5s => ?_ | obtain ⟨b1s, b2s, b3s, b4s, b5s⟩ := nes5 ⟨b1, b2, b3, b4, b5⟩
  have hf1 := hf.h1
  first | refine el9 (hp) fun o1 o2 o3 o4 o5 o6 o7 o8 o9 => ?_ | obtain ⟨o1, o2, o3, o4, o5, o6, o7, o8, o9⟩ := hp
  have T1 : ∀ {nw : List (Addr × Obj)}, (∀ q ∈ news, q ∈ nw) → TabIn w ns lg sy o nw := fun h => T.mono h
  (((try dsimp only); (repeat (with_reducible first | refine nq_next ?_ | refine nq_ret ?_ | refine ng_next ?_ | refine ng_ret ?_ | refine nq_cont ?_ | refine nq_brk ?_ | refine ng_cont ?_ | refine ng_brk ?_)); with_reducible refine execsG_cons ?_))
  refine G_If (wpG_of ?_)
  ((try dsimp only); repeat' (first | ((with_reducible first | refine nq_next ?_ | refine nq_ret ?_ | refine ng_next ?_ | refine ng_ret ?_ | refine nq_cont ?_ | refine nq_brk ?_ | refine ng_cont ?_ | refine ng_brk ?_); (try dsimp only)) | (k_unfold; (try dsimp only)) | walk1 | (dsimp only; walk1) | (leave1; walk_say "STEP leave1"; try dsimp only)))
  refine len_led (vs := vr) (cap := cr) (by assumption) (.head _) (by omega) ?_
  intro k tk1 tk2 hk1
  rw [hvl] at hk1
  ((try dsimp only); repeat' (first | ((with_reducible first | refine nq_next ?_ | refine nq_ret ?_ | refine ng_next ?_ | refine ng_ret ?_ | refine nq_cont ?_ | refine nq_brk ?_ | refine ng_cont ?_ | refine ng_brk ?_); (try dsimp only)) | (k_unfold; (try dsimp only)) | walk1 | (dsimp only; walk1) | (leave1; walk_say "STEP leave1"; try dsimp only)))
  (((try dsimp only); (repeat (with_reducible first | refine nq_next ?_ | refine nq_ret ?_ | refine ng_next ?_ | refine ng_ret ?_ | refine nq_cont ?_ | refine nq_brk ?_ | refine ng_cont ?_ | refine ng_brk ?_)); (with_reducible refine execsG_any ?_); ((try dsimp only); repeat' (first | ((with_reducible first | refine nq_next ?_ | refine nq_ret ?_ | refine ng_next ?_ | refine ng_ret ?_ | refine nq_cont ?_ | refine nq_brk ?_ | refine ng_cont ?_ | refine ng_brk ?_); (try dsimp only)) | (k_unfold; (try dsimp only)) | walk1 | (dsimp only; walk1) | (leave1; walk_say "STEP leave1"; try dsimp only)))))
  rw [row_last]
  refine Stop.go (fw_start (o := o) (f := f) (by (exact ⟨by assumption, by assumption, by assumption, by assumption, rfl, by (first | omega | ((try simp only [depth_under_make, units_under_make, depth_in1, units_in1, depth_deeper, units_deeper]); (try dsimp only [ktrTop]); omega)), by (first | omega | ((try simp only [depth_under_make, units_under_make, depth_in1, units_in1, depth_deeper, units_deeper]); (try dsimp only [ktrTop]); omega))⟩)) (pmk2 (by assumption)) (T.mono (by intro p hp; simp only [List.mem_cons, hp, or_true])) hf (R.many _ (getD_mem (by omega))) hn ?_)
  intro v t₁ h₃ k₃ hv F₃ N₅
  rw [first_enc (ns := ns) (lg := lg) R.ne] at hv
  subst hv
  dsimp only [List.cons_append, List.nil_append, de] at *
  have N₆ := pmk3 N₅
  ((try dsimp only); repeat' (first | ((with_reducible first | refine nq_next ?_ | refine nq_ret ?_ | refine ng_next ?_ | refine ng_ret ?_ | refine nq_cont ?_ | refine nq_brk ?_ | refine ng_cont ?_ | refine ng_brk ?_); (try dsimp only)) | (k_unfold; (try dsimp only)) | walk1 | (dsimp only; walk1) | (leave1; walk_say "STEP leave1"; try dsimp only)))
  (((try dsimp only); (repeat (with_reducible first | refine nq_next ?_ | refine nq_ret ?_ | refine ng_next ?_ | refine ng_ret ?_ | refine nq_cont ?_ | refine nq_brk ?_ | refine ng_cont ?_ | refine ng_brk ?_)); with_reducible refine execsG_cons ?_))
  refine G_For ?_
  ((try dsimp only); repeat' (first | ((with_reducible first | refine nq_next ?_ | refine nq_ret ?_ | refine ng_next ?_ | refine ng_ret ?_ | refine nq_cont ?_ | refine nq_brk ?_ | refine ng_cont ?_ | refine ng_brk ?_); (try dsimp only)) | (k_unfold; (try dsimp only)) | walk1 | (dsimp only; walk1) | (leave1; walk_say "STEP leave1"; try dsimp only)))
  refine Stop.go ?_
  k_dflt (refine' sl_last (row := row) ?F ?N (.head _) hi (by omega) ?_ ?s ?t; (case F => k_asm); (case N => k_asm); (case s => with_unfolding_all rfl); (case t => kmk_pure); k_whole)
  intro D1 w1 h₄ F₄ N₇ o1' a2'
  ((try dsimp only); repeat' (first | ((with_reducible first | refine nq_next ?_ | refine nq_ret ?_ | refine ng_next ?_ | refine ng_ret ?_ | refine nq_cont ?_ | refine nq_brk ?_ | refine ng_cont ?_ | refine ng_brk ?_); (try dsimp only)) | (k_unfold; (try dsimp only)) | walk1 | (dsimp only; walk1) | (leave1; walk_say "STEP leave1"; try dsimp only)))
  refine Stop.go ?_
  have hw1 : w1.length ≤ 1000 := by rw [a2'.length, up_len, List.length_take]; exact Nat.le_trans (Nat.min_le_right _ _) (Nat.le_trans R.len (by decide))
  k_dflt (refine' sl_rev (row := row.take (row.length - 1)) ?F ?N (.head _) a2' hw1 ?_ ?s ?t; (case F => k_asm); (case N => k_asm); (case s => with_unfolding_all rfl); (case t => kmk_pure); k_whole)
  intro D2 w2 h₅ F₅ N₈ o3' a3'
  have N₉ := pmk4 N₈
  ((try dsimp only); repeat' (first | ((with_reducible first | refine nq_next ?_ | refine nq_ret ?_ | refine ng_next ?_ | refine ng_ret ?_ | refine nq_cont ?_ | refine nq_brk ?_ | refine ng_cont ?_ | refine ng_brk ?_); (try dsimp only)) | (k_unfold; (try dsimp only)) | walk1 | (dsimp only; walk1) | (leave1; walk_say "STEP leave1"; try dsimp only)))
  have hw2 : w2.length = row.length - 1 := by rw [a3'.length, up_len, List.length_reverse, List.length_take]; exact Nat.min_eq_left (Nat.sub_le _ _)
  have hoff : ∀ q ∈ (D2, lst w2 0) :: (D1, lst w1 0) :: (lr, lst vr cr) :: news, q.1 ∉ [f.x, f.dx, p.o.D, p.o.x, p.o.dx, p.x, p.dx] := by
    refine List.forall_mem_cons.mpr ⟨not7 (o3' _ (.tail _ (.tail _ (.head _)))) (o3' _ (.tail _ (.tail _ (.tail _ (.head _))))) (o3' _ (.tail _ (.tail _ (.tail _ (.tail _ (.head _)))))) (o3' _ (.tail _ (.tail _ (.tail _ (.tail _ (.tail _ (.head _))))))) (o3' _ (.tail _ (.tail _ (.tail _ (.tail _ (.tail _ (.tail _ (.head _)))))))) (o3' _ (.tail _ (.tail _ (.tail _ (.tail _ (.tail _ (.tail _ (.tail _ (.head _))))))))) (o3' _ (.tail _ (.tail _ (.tail _ (.tail _ (.tail _ (.tail _ (.tail _ (.tail _ (.head _)))))))))), ?_⟩
    refine List.forall_mem_cons.mpr ⟨not7 (o1' _ (.tail _ (.head _))) (o1' _ (.tail _ (.tail _ (.head _)))) (o1' _ (.tail _ (.tail _ (.tail _ (.head _))))) (o1' _ (.tail _ (.tail _ (.tail _ (.tail _ (.head _)))))) (o1' _ (.tail _ (.tail _ (.tail _ (.tail _ (.tail _ (.head _))))))) (o1' _ (.tail _ (.tail _ (.tail _ (.tail _ (.tail _ (.tail _ (.head _)))))))) (o1' _ (.tail _ (.tail _ (.tail _ (.tail _ (.tail _ (.tail _ (.tail _ (.head _))))))))), ?_⟩
    exact fun q hq => not7 (Ne.symm (b6 q hq)) (Ne.symm (a6 q hq)) (Ne.symm (o9 q hq)) (Ne.symm (o8 q hq)) (Ne.symm (o7 q hq)) (Ne.symm (o6 q hq)) (Ne.symm (o5 q hq))
  refine Stop.go ?_
  refine' it_listG (σ := Pk) (vs := w2) (cap := 0) (fun c => [(f.x, instObj 418 f.dx), (f.dx, dictOf [de w "table" f.k1 (.ref o.x), de w "state" f.k2 (.int (c.st : Int) c.ts)] 2), (p.o.D, bao c.c.b), (p.o.x, instObj 165 p.o.dx), (p.o.dx, dictOf [de w "made" p.o.k1 (.ref p.o.D), de w "held" p.o.k2 (.int c.c.held c.c.th), de w "held_bits" p.o.k3 (.int c.c.hb c.c.tb)] 3), (p.x, instObj 256 p.dx), (p.dx, dictOf [de w "under" p.k (.ref p.o.x)] 1)])
    [f.x, f.dx, p.o.D, p.o.x, p.o.dx, p.x, p.dx] ((D2, lst w2 0) :: (D1, lst w1 0) :: (lr, lst vr cr) :: news) (fun _ => []) [Str.ofString "symbol"] (PkI ns lg sy row) ⟨_, _, c⟩
    rfl (by rfl) (by rfl) (.head _) (fun _ => rfl) (by decide) ?off (by assumption) N₉ ?ps ?hi ?turn ?done
  case off => exact hoff
  case ps => ((repeat' (first | exact List.forall_mem_nil _ | refine List.forall_mem_cons.mpr ⟨by with_unfolding_all rfl, ?_⟩)))
  case hi =>
    refine ⟨rfl, ?_⟩
    show c.Ok ((enc ns lg sy (row.drop (row.length - 1 - 0))).W : Int) (enc ns lg sy (row.drop (row.length - 1 - 0))).n
    rw [Nat.sub_zero, drop_at (by omega), List.drop_eq_nil_of_le (by omega)]
    exact hc
  case turn =>
    rintro i v ⟨st, ts, c2⟩ u h tk rest' hin hv hx1 hoff' hsub' F N
    first | refine el2 hx1 fun hst hok => ?_ | obtain ⟨hst, hok⟩ := hx1
    try clear hx1
    dsimp only [List.cons_append, List.nil_append, de] at *
    obtain ⟨t, rfl, hil, hmem⟩ := row_at a3' hv
    rw [List.length_reverse, List.length_take] at hil
    have hi2 : i < row.length - 1 := Nat.lt_of_lt_of_le hil (Nat.min_le_left _ _)
    rw [rev_at hi2] at *
    have hmany := R.many _ (getD_mem (sy := row) (q := row.length - 2 - i) (ns2 hi2))
    have hE := enc_ok T.tb (row := row.drop (row.length - 1 - i)) (by rw [drop_at (ns4 hr1 i)]; simp) (fun s hs => R.many s (List.mem_of_mem_drop hs))
    have hE2 := enc_step (ns := ns) (lg := lg) (sy := sy) (row := row) (i := i) hi2
    have hst2 : st < 2 ^ lg := by have := hE.st; rw [← hst] at this; exact this
    have hne := hE.n
    rw [List.length_drop] at hne
    have T' := T.mono (fun p hp => hsub' p (.tail _ (.tail _ (.tail _ hp))))
    first | refine el7 (off7 hoff') fun q1 q2 q3 q4 q5 q6 q7 => ?_ | obtain ⟨q1, q2, q3, q4, q5, q6, q7⟩ := off7 hoff'
    (((try dsimp only); (repeat (with_reducible first | refine nq_next ?_ | refine nq_ret ?_ | refine ng_next ?_ | refine ng_ret ?_ | refine nq_cont ?_ | refine nq_brk ?_ | refine ng_cont ?_ | refine ng_brk ?_)); with_reducible refine execsG_cons ?_))
    refine G_Expr ?_
    refine G_MethodCall ?_
    ((try dsimp only); repeat' (first | ((with_reducible first | refine nq_next ?_ | refine nq_ret ?_ | refine ng_next ?_ | refine ng_ret ?_ | refine nq_cont ?_ | refine nq_brk ?_ | refine ng_cont ?_ | refine ng_brk ?_); (try dsimp only)) | (k_unfold; (try dsimp only)) | walk1 | (dsimp only; walk1) | (leave1; walk_say "STEP leave1"; try dsimp only)))
    ((k_dflt (first | (refine' gc_K0' ?k1z43 ?k3z43 ?k2z43 ?_; (case k1z43 => k_asm); (case k3z43 => k_asm); (case k2z43 => k_is)) | (refine' gc_K ?k1z43 ?k2z43 ?_; (case k1z43 => k_asm); (case k2z43 => k_is)))))
    ((try dsimp only); repeat' (first | ((with_reducible first | refine nq_next ?_ | refine nq_ret ?_ | refine ng_next ?_ | refine ng_ret ?_ | refine nq_cont ?_ | refine nq_brk ?_ | refine ng_cont ?_ | refine ng_brk ?_); (try dsimp only)) | (k_unfold; (try dsimp only)) | walk1 | (dsimp only; walk1) | (leave1; walk_say "STEP leave1"; try dsimp only)))
    refine fw_step (o := o) (f := f) (p := p) (c := c2) (W := ((enc ns lg sy (row.drop (row.length - 1 - i))).W : Int)) (n := (enc ns lg sy (row.drop (row.length - 1 - i))).n) (by (exact ⟨by assumption, by assumption, by assumption, by assumption, rfl, by (first | omega | ((try simp only [depth_under_make, units_under_make, depth_in1, units_in1, depth_deeper, units_deeper]); (try dsimp only [ktrTop]); omega)), by (first | omega | ((try simp only [depth_under_make, units_under_make, depth_in1, units_in1, depth_deeper, units_deeper]); (try dsimp only [ktrTop]); omega))⟩)) (by assumption) T' ⟨hf1, by (((repeat' (first | assumption | exact List.forall_mem_nil _ | exact off_nil | refine off_snoc ?_ ?_ | refine List.forall_mem_cons.mpr ⟨?_, ?_⟩)) <;> (try dsimp only) <;> first | assumption | exact Nat.ne_of_lt (by assumption) | exact Nat.ne_of_gt (by assumption) | exact Nat.ne_of_gt (by omega) | exact Nat.ne_of_lt (by omega) | exact allLt_ne (by assumption) | exact allLt_ne (rt1 (by assumption)) | exact allLt_ne (rt2 (by assumption)) | exact allLt_ne (rt3 (by assumption)) | exact allLt_ne (rt4 (by assumption)) | exact allLt_ne (rt5 (by assumption)) | exact fun p hp => Nat.ne_of_lt (‹∀ p ∈ _, p.1 < _› p hp) | exact fun p hp => Nat.ne_of_lt (Nat.lt_trans (‹∀ p ∈ _, p.1 < _› p hp) (by omega)) | exact allLt_ne2 (by assumption) (by omega) | exact allLt_ne2 (rt1 (by assumption)) (by omega) | exact allLt_ne2 (rt2 (by assumption)) (by omega) | exact allLt_ne2 (rt3 (by assumption)) (by omega))), by (((repeat' (first | assumption | exact List.forall_mem_nil _ | exact off_nil | refine off_snoc ?_ ?_ | refine List.forall_mem_cons.mpr ⟨?_, ?_⟩)) <;> (try dsimp only) <;> first | assumption | exact Nat.ne_of_lt (by assumption) | exact Nat.ne_of_gt (by assumption) | exact Nat.ne_of_gt (by omega) | exact Nat.ne_of_lt (by omega) | exact allLt_ne (by assumption) | exact allLt_ne (rt1 (by assumption)) | exact allLt_ne (rt2 (by assumption)) | exact allLt_ne (rt3 (by assumption)) | exact allLt_ne (rt4 (by assumption)) | exact allLt_ne (rt5 (by assumption)) | exact fun p hp => Nat.ne_of_lt (‹∀ p ∈ _, p.1 < _› p hp) | exact fun p hp => Nat.ne_of_lt (Nat.lt_trans (‹∀ p ∈ _, p.1 < _› p hp) (by omega)) | exact allLt_ne2 (by assumption) (by omega) | exact allLt_ne2 (rt1 (by assumption)) (by omega) | exact allLt_ne2 (rt2 (by assumption)) (by omega) | exact allLt_ne2 (rt3 (by assumption)) (by omega)))⟩ ⟨o1, o2, o3, o4, by (((repeat' (first | assumption | exact List.forall_mem_nil _ | exact off_nil | refine off_snoc ?_ ?_ | refine List.forall_mem_cons.mpr ⟨?_, ?_⟩)) <;> (try dsimp only) <;> first | assumption | exact Nat.ne_of_lt (by assumption) | exact Nat.ne_of_gt (by assumption) | exact Nat.ne_of_gt (by omega) | exact Nat.ne_of_lt (by omega) | exact allLt_ne (by assumption) | exact allLt_ne (rt1 (by assumption)) | exact allLt_ne (rt2 (by assumption)) | exact allLt_ne (rt3 (by assumption)) | exact allLt_ne (rt4 (by assumption)) | exact allLt_ne (rt5 (by assumption)) | exact fun p hp => Nat.ne_of_lt (‹∀ p ∈ _, p.1 < _› p hp) | exact fun p hp => Nat.ne_of_lt (Nat.lt_trans (‹∀ p ∈ _, p.1 < _› p hp) (by omega)) | exact allLt_ne2 (by assumption) (by omega) | exact allLt_ne2 (rt1 (by assumption)) (by omega) | exact allLt_ne2 (rt2 (by assumption)) (by omega) | exact allLt_ne2 (rt3 (by assumption)) (by omega))), by (((repeat' (first | assumption | exact List.forall_mem_nil _ | exact off_nil | refine off_snoc ?_ ?_ | refine List.forall_mem_cons.mpr ⟨?_, ?_⟩)) <;> (try dsimp only) <;> first | assumption | exact Nat.ne_of_lt (by assumption) | exact Nat.ne_of_gt (by assumption) | exact Nat.ne_of_gt (by omega) | exact Nat.ne_of_lt (by omega) | exact allLt_ne (by assumption) | exact allLt_ne (rt1 (by assumption)) | exact allLt_ne (rt2 (by assumption)) | exact allLt_ne (rt3 (by assumption)) | exact allLt_ne (rt4 (by assumption)) | exact allLt_ne (rt5 (by assumption)) | exact fun p hp => Nat.ne_of_lt (‹∀ p ∈ _, p.1 < _› p hp) | exact fun p hp => Nat.ne_of_lt (Nat.lt_trans (‹∀ p ∈ _, p.1 < _› p hp) (by omega)) | exact allLt_ne2 (by assumption) (by omega) | exact allLt_ne2 (rt1 (by assumption)) (by omega) | exact allLt_ne2 (rt2 (by assumption)) (by omega) | exact allLt_ne2 (rt3 (by assumption)) (by omega))), by (((repeat' (first | assumption | exact List.forall_mem_nil _ | exact off_nil | refine off_snoc ?_ ?_ | refine List.forall_mem_cons.mpr ⟨?_, ?_⟩)) <;> (try dsimp only) <;> first | assumption | exact Nat.ne_of_lt (by assumption) | exact Nat.ne_of_gt (by assumption) | exact Nat.ne_of_gt (by omega) | exact Nat.ne_of_lt (by omega) | exact allLt_ne (by assumption) | exact allLt_ne (rt1 (by assumption)) | exact allLt_ne (rt2 (by assumption)) | exact allLt_ne (rt3 (by assumption)) | exact allLt_ne (rt4 (by assumption)) | exact allLt_ne (rt5 (by assumption)) | exact fun p hp => Nat.ne_of_lt (‹∀ p ∈ _, p.1 < _› p hp) | exact fun p hp => Nat.ne_of_lt (Nat.lt_trans (‹∀ p ∈ _, p.1 < _› p hp) (by omega)) | exact allLt_ne2 (by assumption) (by omega) | exact allLt_ne2 (rt1 (by assumption)) (by omega) | exact allLt_ne2 (rt2 (by assumption)) (by omega) | exact allLt_ne2 (rt3 (by assumption)) (by omega))), by (((repeat' (first | assumption | exact List.forall_mem_nil _ | exact off_nil | refine off_snoc ?_ ?_ | refine List.forall_mem_cons.mpr ⟨?_, ?_⟩)) <;> (try dsimp only) <;> first | assumption | exact Nat.ne_of_lt (by assumption) | exact Nat.ne_of_gt (by assumption) | exact Nat.ne_of_gt (by omega) | exact Nat.ne_of_lt (by omega) | exact allLt_ne (by assumption) | exact allLt_ne (rt1 (by assumption)) | exact allLt_ne (rt2 (by assumption)) | exact allLt_ne (rt3 (by assumption)) | exact allLt_ne (rt4 (by assumption)) | exact allLt_ne (rt5 (by assumption)) | exact fun p hp => Nat.ne_of_lt (‹∀ p ∈ _, p.1 < _› p hp) | exact fun p hp => Nat.ne_of_lt (Nat.lt_trans (‹∀ p ∈ _, p.1 < _› p hp) (by omega)) | exact allLt_ne2 (by assumption) (by omega) | exact allLt_ne2 (rt1 (by assumption)) (by omega) | exact allLt_ne2 (rt2 (by assumption)) (by omega) | exact allLt_ne2 (rt3 (by assumption)) (by omega))), by (((repeat' (first | assumption | exact List.forall_mem_nil _ | exact off_nil | refine off_snoc ?_ ?_ | refine List.forall_mem_cons.mpr ⟨?_, ?_⟩)) <;> (try dsimp only) <;> first | assumption | exact Nat.ne_of_lt (by assumption) | exact Nat.ne_of_gt (by assumption) | exact Nat.ne_of_gt (by omega) | exact Nat.ne_of_lt (by omega) | exact allLt_ne (by assumption) | exact allLt_ne (rt1 (by assumption)) | exact allLt_ne (rt2 (by assumption)) | exact allLt_ne (rt3 (by assumption)) | exact allLt_ne (rt4 (by assumption)) | exact allLt_ne (rt5 (by assumption)) | exact fun p hp => Nat.ne_of_lt (‹∀ p ∈ _, p.1 < _› p hp) | exact fun p hp => Nat.ne_of_lt (Nat.lt_trans (‹∀ p ∈ _, p.1 < _› p hp) (by omega)) | exact allLt_ne2 (by assumption) (by omega) | exact allLt_ne2 (rt1 (by assumption)) (by omega) | exact allLt_ne2 (rt2 (by assumption)) (by omega) | exact allLt_ne2 (rt3 (by assumption)) (by omega)))⟩ hok (Nat.le_trans (ns6 _ hrl hne) (by decide)) hmany hn hst2 ?_
    intro c' t' h₆ k₆ hc' F₆ N₁₀
    dsimp only [List.cons_append, List.nil_append, de] at *
    (((try dsimp only); (repeat (with_reducible first | refine nq_next ?_ | refine nq_ret ?_ | refine ng_next ?_ | refine ng_ret ?_ | refine nq_cont ?_ | refine nq_brk ?_ | refine ng_cont ?_ | refine ng_brk ?_)); (with_reducible refine execsG_nil ?_); (try dsimp only); (repeat (with_reducible first | refine nq_next ?_ | refine nq_ret ?_ | refine ng_next ?_ | refine ng_ret ?_ | refine nq_cont ?_ | refine nq_brk ?_ | refine ng_cont ?_ | refine ng_brk ?_)); (try dsimp only); ((try dsimp only); repeat' (first | ((with_reducible first | refine nq_next ?_ | refine nq_ret ?_ | refine ng_next ?_ | refine ng_ret ?_ | refine nq_cont ?_ | refine nq_brk ?_ | refine ng_cont ?_ | refine ng_brk ?_); (try dsimp only)) | (k_unfold; (try dsimp only)) | walk1 | (dsimp only; walk1) | (leave1; walk_say "STEP leave1"; try dsimp only)))))
    refine FEnd.at ⟨ahS ns lg sy (row.getD (row.length - 2 - i) 0) st, _, c'⟩ (by assumption) (by assumption) (by ((repeat' (first | exact List.forall_mem_nil _ | refine List.forall_mem_cons.mpr ⟨by with_unfolding_all rfl, ?_⟩)))) (by (((repeat (first | (with_reducible exact fun _ _ _ => rfl) | ((with_reducible refine same_lay ?nz46 ?_); (case nz46 => rfl)) | ((with_reducible refine same_kst ?nz46 ?_); (case nz46 => rfl)))); done))) ⟨?_, ?_⟩
    · show _ = (enc ns lg sy (row.drop (row.length - 1 - (i + 1)))).st
      rw [hE2, hst]
    · show c'.Ok ((enc ns lg sy (row.drop (row.length - 1 - (i + 1)))).W : Int) (enc ns lg sy (row.drop (row.length - 1 - (i + 1)))).n
      rw [hE2]
      dsimp only
      rw [Int.natCast_add, Int.natCast_mul, ← two_pow_cast, ← hst]
      exact hc'
  case done =>
    rintro ⟨st, ts, c2⟩ u h tk hx1 F N
    first | refine el2 hx1 fun hst hok => ?_ | obtain ⟨hst, hok⟩ := hx1
    try clear hx1
    dsimp only [List.cons_append, List.nil_append, de] at *
    rw [hw2, Nat.sub_self, List.drop_zero] at hst hok
    first | refine el7 (off7 hoff) fun q1 q2 q3 q4 q5 q6 q7 => ?_ | obtain ⟨q1, q2, q3, q4, q5, q6, q7⟩ := off7 hoff
    have T' : TabIn w ns lg sy o ((D2, lst w2 0) :: (D1, lst w1 0) :: (lr, lst vr cr) :: news) := T.mono (fun p hp => .tail _ (.tail _ (.tail _ hp)))
    have hst2 : st < 2 ^ lg := by rw [hst]; exact E0.st
    (((try dsimp only); (repeat (with_reducible first | refine nq_next ?_ | refine nq_ret ?_ | refine ng_next ?_ | refine ng_ret ?_ | refine nq_cont ?_ | refine nq_brk ?_ | refine ng_cont ?_ | refine ng_brk ?_)); with_reducible refine execsG_cons ?_))
    refine G_Expr ?_
    refine G_MethodCall ?_
    ((try dsimp only); repeat' (first | ((with_reducible first | refine nq_next ?_ | refine nq_ret ?_ | refine ng_next ?_ | refine ng_ret ?_ | refine nq_cont ?_ | refine nq_brk ?_ | refine ng_cont ?_ | refine ng_brk ?_); (try dsimp only)) | (k_unfold; (try dsimp only)) | walk1 | (dsimp only; walk1) | (leave1; walk_say "STEP leave1"; try dsimp only)))
    ((k_dflt (first | (refine' gc_K0' ?k1z44 ?k3z44 ?k2z44 ?_; (case k1z44 => k_asm); (case k3z44 => k_asm); (case k2z44 => k_is)) | (refine' gc_K ?k1z44 ?k2z44 ?_; (case k1z44 => k_asm); (case k2z44 => k_is)))))
    ((try dsimp only); repeat' (first | ((with_reducible first | refine nq_next ?_ | refine nq_ret ?_ | refine ng_next ?_ | refine ng_ret ?_ | refine nq_cont ?_ | refine nq_brk ?_ | refine ng_cont ?_ | refine ng_brk ?_); (try dsimp only)) | (k_unfold; (try dsimp only)) | walk1 | (dsimp only; walk1) | (leave1; walk_say "STEP leave1"; try dsimp only)))
    refine fw_end (o := o) (f := f) (p := p) (c := c2) (W := ((enc ns lg sy row).W : Int)) (n := (enc ns lg sy row).n) (by (exact ⟨by assumption, by assumption, by assumption, by assumption, rfl, by (first | omega | ((try simp only [depth_under_make, units_under_make, depth_in1, units_in1, depth_deeper, units_deeper]); (try dsimp only [ktrTop]); omega)), by (first | omega | ((try simp only [depth_under_make, units_under_make, depth_in1, units_in1, depth_deeper, units_deeper]); (try dsimp only [ktrTop]); omega))⟩)) (by assumption) T' ⟨hf1, by (((repeat' (first | assumption | exact List.forall_mem_nil _ | exact off_nil | refine off_snoc ?_ ?_ | refine List.forall_mem_cons.mpr ⟨?_, ?_⟩)) <;> (try dsimp only) <;> first | assumption | exact Nat.ne_of_lt (by assumption) | exact Nat.ne_of_gt (by assumption) | exact Nat.ne_of_gt (by omega) | exact Nat.ne_of_lt (by omega) | exact allLt_ne (by assumption) | exact allLt_ne (rt1 (by assumption)) | exact allLt_ne (rt2 (by assumption)) | exact allLt_ne (rt3 (by assumption)) | exact allLt_ne (rt4 (by assumption)) | exact allLt_ne (rt5 (by assumption)) | exact fun p hp => Nat.ne_of_lt (‹∀ p ∈ _, p.1 < _› p hp) | exact fun p hp => Nat.ne_of_lt (Nat.lt_trans (‹∀ p ∈ _, p.1 < _› p hp) (by omega)) | exact allLt_ne2 (by assumption) (by omega) | exact allLt_ne2 (rt1 (by assumption)) (by omega) | exact allLt_ne2 (rt2 (by assumption)) (by omega) | exact allLt_ne2 (rt3 (by assumption)) (by omega))), by (((repeat' (first | assumption | exact List.forall_mem_nil _ | exact off_nil | refine off_snoc ?_ ?_ | refine List.forall_mem_cons.mpr ⟨?_, ?_⟩)) <;> (try dsimp only) <;> first | assumption | exact Nat.ne_of_lt (by assumption) | exact Nat.ne_of_gt (by assumption) | exact Nat.ne_of_gt (by omega) | exact Nat.ne_of_lt (by omega) | exact allLt_ne (by assumption) | exact allLt_ne (rt1 (by assumption)) | exact allLt_ne (rt2 (by assumption)) | exact allLt_ne (rt3 (by assumption)) | exact allLt_ne (rt4 (by assumption)) | exact allLt_ne (rt5 (by assumption)) | exact fun p hp => Nat.ne_of_lt (‹∀ p ∈ _, p.1 < _› p hp) | exact fun p hp => Nat.ne_of_lt (Nat.lt_trans (‹∀ p ∈ _, p.1 < _› p hp) (by omega)) | exact allLt_ne2 (by assumption) (by omega) | exact allLt_ne2 (rt1 (by assumption)) (by omega) | exact allLt_ne2 (rt2 (by assumption)) (by omega) | exact allLt_ne2 (rt3 (by assumption)) (by omega)))⟩ ⟨o1, o2, o3, o4, q7, q6, q5, q4, q3⟩ hok (by omega) hst2 ?_
    intro c3 h₆ k₆ hc3 F₆ N₁₀
    dsimp only [List.cons_append, List.nil_append, de] at *
    (((try dsimp only); (repeat (with_reducible first | refine nq_next ?_ | refine nq_ret ?_ | refine ng_next ?_ | refine ng_ret ?_ | refine nq_cont ?_ | refine nq_brk ?_ | refine ng_cont ?_ | refine ng_brk ?_)); (with_reducible refine execsG_nil ?_); (try dsimp only); (repeat (with_reducible first | refine nq_next ?_ | refine nq_ret ?_ | refine ng_next ?_ | refine ng_ret ?_ | refine nq_cont ?_ | refine nq_brk ?_ | refine ng_cont ?_ | refine ng_brk ?_)); (try dsimp only); ((try dsimp only); repeat' (first | ((with_reducible first | refine nq_next ?_ | refine nq_ret ?_ | refine ng_next ?_ | refine ng_ret ?_ | refine nq_cont ?_ | refine nq_brk ?_ | refine ng_cont ?_ | refine ng_brk ?_); (try dsimp only)) | (k_unfold; (try dsimp only)) | walk1 | (dsimp only; walk1) | (leave1; walk_say "STEP leave1"; try dsimp only)))))
    (((try dsimp only); (repeat (with_reducible first | refine nq_next ?_ | refine nq_ret ?_ | refine ng_next ?_ | refine ng_ret ?_ | refine nq_cont ?_ | refine nq_brk ?_ | refine ng_cont ?_ | refine ng_brk ?_)); with_reducible refine execsG_cons ?_))
    refine G_Return ?_
    refine G_MethodCall ?_
    ((try dsimp only); repeat' (first | ((with_reducible first | refine nq_next ?_ | refine nq_ret ?_ | refine ng_next ?_ | refine ng_ret ?_ | refine nq_cont ?_ | refine nq_brk ?_ | refine ng_cont ?_ | refine ng_brk ?_); (try dsimp only)) | (k_unfold; (try dsimp only)) | walk1 | (dsimp only; walk1) | (leave1; walk_say "STEP leave1"; try dsimp only)))
    ((k_dflt (first | (refine' gc_K0' ?k1z45 ?k3z45 ?k2z45 ?_; (case k1z45 => k_asm); (case k3z45 => k_asm); (case k2z45 => k_is)) | (refine' gc_K ?k1z45 ?k2z45 ?_; (case k1z45 => k_asm); (case k2z45 => k_is)))))
    refine bw_done (p := p) (c := c3) (W := ((enc ns lg sy row).W : Int) + st * 2 ^ (enc ns lg sy row).n) (n := (enc ns lg sy row).n + lg) (by (exact ⟨by assumption, by assumption, by assumption, by assumption, rfl, by (first | omega | ((try simp only [depth_under_make, units_under_make, depth_in1, units_in1, depth_deeper, units_deeper]); (try dsimp only [ktrTop]); omega)), by (first | omega | ((try simp only [depth_under_make, units_under_make, depth_in1, units_in1, depth_deeper, units_deeper]); (try dsimp only [ktrTop]); omega))⟩)) (pmk5 (by assumption)) ⟨o1, o2, o3, o4, by (((repeat' (first | assumption | exact List.forall_mem_nil _ | exact off_nil | refine off_snoc ?_ ?_ | refine List.forall_mem_cons.mpr ⟨?_, ?_⟩)) <;> (try dsimp only) <;> first | assumption | exact Nat.ne_of_lt (by assumption) | exact Nat.ne_of_gt (by assumption) | exact Nat.ne_of_gt (by omega) | exact Nat.ne_of_lt (by omega) | exact allLt_ne (by assumption) | exact allLt_ne (rt1 (by assumption)) | exact allLt_ne (rt2 (by assumption)) | exact allLt_ne (rt3 (by assumption)) | exact allLt_ne (rt4 (by assumption)) | exact allLt_ne (rt5 (by assumption)) | exact fun p hp => Nat.ne_of_lt (‹∀ p ∈ _, p.1 < _› p hp) | exact fun p hp => Nat.ne_of_lt (Nat.lt_trans (‹∀ p ∈ _, p.1 < _› p hp) (by omega)) | exact allLt_ne2 (by assumption) (by omega) | exact allLt_ne2 (rt1 (by assumption)) (by omega) | exact allLt_ne2 (rt2 (by assumption)) (by omega) | exact allLt_ne2 (rt3 (by assumption)) (by omega))), by (((repeat' (first | assumption | exact List.forall_mem_nil _ | exact off_nil | refine off_snoc ?_ ?_ | refine List.forall_mem_cons.mpr ⟨?_, ?_⟩)) <;> (try dsimp only) <;> first | assumption | exact Nat.ne_of_lt (by assumption) | exact Nat.ne_of_gt (by assumption) | exact Nat.ne_of_gt (by omega) | exact Nat.ne_of_lt (by omega) | exact allLt_ne (by assumption) | exact allLt_ne (rt1 (by assumption)) | exact allLt_ne (rt2 (by assumption)) | exact allLt_ne (rt3 (by assumption)) | exact allLt_ne (rt4 (by assumption)) | exact allLt_ne (rt5 (by assumption)) | exact fun p hp => Nat.ne_of_lt (‹∀ p ∈ _, p.1 < _› p hp) | exact fun p hp => Nat.ne_of_lt (Nat.lt_trans (‹∀ p ∈ _, p.1 < _› p hp) (by omega)) | exact allLt_ne2 (by assumption) (by omega) | exact allLt_ne2 (rt1 (by assumption)) (by omega) | exact allLt_ne2 (rt2 (by assumption)) (by omega) | exact allLt_ne2 (rt3 (by assumption)) (by omega))), by (((repeat' (first | assumption | exact List.forall_mem_nil _ | exact off_nil | refine off_snoc ?_ ?_ | refine List.forall_mem_cons.mpr ⟨?_, ?_⟩)) <;> (try dsimp only) <;> first | assumption | exact Nat.ne_of_lt (by assumption) | exact Nat.ne_of_gt (by assumption) | exact Nat.ne_of_gt (by omega) | exact Nat.ne_of_lt (by omega) | exact allLt_ne (by assumption) | exact allLt_ne (rt1 (by assumption)) | exact allLt_ne (rt2 (by assumption)) | exact allLt_ne (rt3 (by assumption)) | exact allLt_ne (rt4 (by assumption)) | exact allLt_ne (rt5 (by assumption)) | exact fun p hp => Nat.ne_of_lt (‹∀ p ∈ _, p.1 < _› p hp) | exact fun p hp => Nat.ne_of_lt (Nat.lt_trans (‹∀ p ∈ _, p.1 < _› p hp) (by omega)) | exact allLt_ne2 (by assumption) (by omega) | exact allLt_ne2 (rt1 (by assumption)) (by omega) | exact allLt_ne2 (rt2 (by assumption)) (by omega) | exact allLt_ne2 (rt3 (by assumption)) (by omega))), by (((repeat' (first | assumption | exact List.forall_mem_nil _ | exact off_nil | refine off_snoc ?_ ?_ | refine List.forall_mem_cons.mpr ⟨?_, ?_⟩)) <;> (try dsimp only) <;> first | assumption | exact Nat.ne_of_lt (by assumption) | exact Nat.ne_of_gt (by assumption) | exact Nat.ne_of_gt (by omega) | exact Nat.ne_of_lt (by omega) | exact allLt_ne (by assumption) | exact allLt_ne (rt1 (by assumption)) | exact allLt_ne (rt2 (by assumption)) | exact allLt_ne (rt3 (by assumption)) | exact allLt_ne (rt4 (by assumption)) | exact allLt_ne (rt5 (by assumption)) | exact fun p hp => Nat.ne_of_lt (‹∀ p ∈ _, p.1 < _› p hp) | exact fun p hp => Nat.ne_of_lt (Nat.lt_trans (‹∀ p ∈ _, p.1 < _› p hp) (by omega)) | exact allLt_ne2 (by assumption) (by omega) | exact allLt_ne2 (rt1 (by assumption)) (by omega) | exact allLt_ne2 (rt2 (by assumption)) (by omega) | exact allLt_ne2 (rt3 (by assumption)) (by omega))), by (((repeat' (first | assumption | exact List.forall_mem_nil _ | exact off_nil | refine off_snoc ?_ ?_ | refine List.forall_mem_cons.mpr ⟨?_, ?_⟩)) <;> (try dsimp only) <;> first | assumption | exact Nat.ne_of_lt (by assumption) | exact Nat.ne_of_gt (by assumption) | exact Nat.ne_of_gt (by omega) | exact Nat.ne_of_lt (by omega) | exact allLt_ne (by assumption) | exact allLt_ne (rt1 (by assumption)) | exact allLt_ne (rt2 (by assumption)) | exact allLt_ne (rt3 (by assumption)) | exact allLt_ne (rt4 (by assumption)) | exact allLt_ne (rt5 (by assumption)) | exact fun p hp => Nat.ne_of_lt (‹∀ p ∈ _, p.1 < _› p hp) | exact fun p hp => Nat.ne_of_lt (Nat.lt_trans (‹∀ p ∈ _, p.1 < _› p hp) (by omega)) | exact allLt_ne2 (by assumption) (by omega) | exact allLt_ne2 (rt1 (by assumption)) (by omega) | exact allLt_ne2 (rt2 (by assumption)) (by omega) | exact allLt_ne2 (rt3 (by assumption)) (by omega)))⟩ hc3 (by omega) ?_
    intro b t₇ h₇ k₇ hV hS F₇ N₁₁
    dsimp only [List.cons_append, List.nil_append, de] at *
    ((try dsimp only); repeat' (first | ((with_reducible first | refine nq_next ?_ | refine nq_ret ?_ | refine ng_next ?_ | refine ng_ret ?_ | refine nq_cont ?_ | refine nq_brk ?_ | refine ng_cont ?_ | refine ng_brk ?_); (try dsimp only)) | (k_unfold; (try dsimp only)) | walk1 | (dsimp only; walk1) | (leave1; walk_say "STEP leave1"; try dsimp only)))
    have hW0 : 0 ≤ ((enc ns lg sy row).W : Int) + st * 2 ^ (enc ns lg sy row).n := Int.add_nonneg (by omega) (Int.mul_nonneg (by omega) (Int.le_of_lt (Int.pow_pos (by decide))))
    have hW1 : ((enc ns lg sy row).W : Int) + st * 2 ^ (enc ns lg sy row).n < 2 ^ ((enc ns lg sy row).n + lg) := by
      have h1 := E0.W
      have h2 := Nat.mul_le_mul_right (2 ^ (enc ns lg sy row).n) (show st + 1 ≤ 2 ^ lg from hst2)
      rw [Nat.add_mul, Nat.one_mul] at h2
      rw [two_pow_cast, two_pow_cast, ← Int.natCast_mul, ← Int.natCast_add, Nat.pow_add, Nat.mul_comm (2 ^ (enc ns lg sy row).n)]
      exact Int.ofNat_lt.mpr (by omega)
    rw [hst] at hV hW0 hW1
    exact hret b _ _ _ ⟨hV, hW0, hW1, hS⟩ (by assumption) (pmk6 (by assumption))
end Kpack_
theorem pack_ {w : World} {mean : ExcName → Option Value} {mg : Str → Option Value} {mb : Str → Option Value} {dp : Nat} {un : Nat} {gd : Option (List Code)} {cn : Str} {cs : Scope} {a : Addr} {ccd : Value} {cl : List (Str × Addr)} {outer : List Env} {A₀ : Around} {base : Heap} {h₀ : Heap} {L : Addr} {m : Str → Option Value} {news : List (Addr × Obj)} {s : Shared} : pack_S w mean mg mb dp un gd cn cs a ccd cl outer A₀ base h₀ L m news s := pm_all (P := fun p => pack_S p.w p.mean p.mg p.mb p.dp p.un p.gd p.cn p.cs p.a p.ccd p.cl p.outer p.A₀ p.base p.h₀ p.L p.m p.news p.s) Kpack_.walk { pmD with w := w, mean := mean, mg := mg, mb := mb, dp := dp, un := un, gd := gd, cn := cn, cs := cs, a := a, ccd := ccd, cl := cl, outer := outer, A₀ := A₀, base := base, h₀ := h₀, L := L, m := m, news := news, s := s }
end
section -- E23
theorem walk_off_E23 : True := by
  w_top off
  exact trivial
section
variable {w : World} {mean : ExcName → Option Value} {mg mb : Str → Option Value} {dp un : Nat} {gd : Option (List Code)} {cn : Str} {cs : Scope} {a : Addr} {ccd : Value} {cl : List (Str × Addr)} {outer : List Env} {A₀ : Around} {base h₀ : Heap} {L : Addr} {m : Str → Option Value} {rest news : List (Addr × Obj)} {s : Shared} {Q E : Value → Shared → Prop}
structure Bo where
  last : Nat
  t1 : Tok
  bits : Nat
  t2 : Tok
structure BoI (n : Nat) (c : Bo) : Prop where
  le : c.bits ≤ n % 8
  lo : 2 ^ (n % 8 - c.bits) ≤ c.last
  hi : c.last < 2 ^ (n % 8 - c.bits + 1)
theorem bo_turn {n last bits : Nat} (le : bits ≤ n % 8) (lo : 2 ^ (n % 8 - bits) ≤ last) (hi : last < 2 ^ (n % 8 - bits + 1)) (h : 1 < last) : bits < n % 8 ∧ 2 ^ (n % 8 - (bits + 1)) ≤ last / 2 ∧ last / 2 < 2 ^ (n % 8 - (bits + 1) + 1) := by
  have hb : bits < n % 8 := by
    refine Nat.lt_of_le_of_ne le fun e => ?_
    rw [e, Nat.sub_self] at hi
    have : last < 2 := hi
    omega
  have e : n % 8 - bits = n % 8 - (bits + 1) + 1 := (Nat.sub_add_cancel (Nat.sub_pos_of_lt hb)).symm
  rw [e, Nat.pow_succ] at lo hi
  exact ⟨hb, by omega, by omega⟩
theorem bo_end {n last bits : Nat} (le : bits ≤ n % 8) (lo : 2 ^ (n % 8 - bits) ≤ last) (h : ¬ 1 < last) : bits = n % 8 := by
  refine Classical.byContradiction fun hc => ?_
  exact h (Nat.le_trans (Nat.pow_le_pow_right (n := 2) (by decide) (Nat.sub_pos_of_lt (Nat.lt_of_le_of_ne le hc))) lo)
end
def bits_of_S (w : World) (mean : ExcName → Option Value) (mg : Str → Option Value) (mb : Str → Option Value) (dp : Nat) (un : Nat) (gd : Option (List Code)) (cn : Str) (cs : Scope) (a : Addr) (ccd : Value) (cl : List (Str × Addr)) (outer : List Env) (A₀ : Around) (base : Heap) (h₀ : Heap) (L : Addr) (m : Str → Option Value) (news : List (Addr × Obj)) (s : Shared) (Q : Value → Shared → Prop) (E : Value → Shared → Prop) : Prop :=
  ∀ {b : Array UInt8} {tb : Tok} {W : Int} {n : Nat} (C : Cx w mean mg mb dp un cs outer A₀ base h₀ L m s.heap 2) (N : News h₀ L s.heap news) (hb : Coded b W n) (hn : n ≤ 1000) (hret : ∀ v t h' tk', v = (n : Int) → Fr h₀ L h' m → News h₀ L h' news → Q (.int v t) { s with heap := h', toks := tk' }),
   wpAny (model PySem.Challenge.rw_pq1208_01.row.prog w) (ktrTop dp un gd cn cs L a ccd cl outer) (call (.ref 481) [.bytes b tb]) Q E s
namespace Kbits_of_
noncomputable def pt : Pm := pmAt fun p => bits_of_S p.w p.mean p.mg p.mb p.dp p.un p.gd p.cn p.cs p.a p.ccd p.cl p.outer p.A₀ p.base p.h₀ p.L p.m p.news p.s p.Q p.E
noncomputable def s : Shared := pt.s
set_option maxRecDepth 100000 in
set_option maxHeartbeats 8000000 in
theorem walk : bits_of_S pt.w pt.mean pt.mg pt.mb pt.dp pt.un pt.gd pt.cn pt.cs pt.a pt.ccd pt.cl pt.outer pt.A₀ pt.base pt.h₀ pt.L pt.m pt.news s pt.Q pt.E := by
  unfold bits_of_S
  intro b tb W n C N hb hn hret
  refine Cx.el C fun B F X T hk hd hu => ?_
  have hs := hb.s
  have hs1 : 1 ≤ b.size := by omega
  have hs2 : b.size ≤ 200 := by omega
  refine wpAny_call ?_
  k_dflt cell_enter
  ((try dsimp only); repeat' (first | ((with_reducible first | refine nq_next ?_ | refine nq_ret ?_ | refine ng_next ?_ | refine ng_ret ?_ | refine nq_cont ?_ | refine nq_brk ?_ | refine ng_cont ?_ | refine ng_brk ?_); (try dsimp only)) | (k_unfold; (try dsimp only)) | walk1 | (dsimp only; walk1) | (leave1; walk_say "STEP leave1"; try dsimp only)))
  refine Stop.go (by_last (by omega) hs1 ?_)
  intro y hy y0 y1 t' k'
  have hL := hb.last hy
  clear hy
  obtain ⟨z, rfl⟩ := Int.eq_ofNat_of_zero_le y0
  have hlo : 2 ^ (n % 8) ≤ z := by have := hL.lo; rw [two_pow_cast] at this; exact Int.ofNat_le.mp this
  have hhi : z < 2 ^ (n % 8 + 1) := by have := hL.hi; rw [two_pow_cast] at this; exact Int.ofNat_lt.mp this
  ((try dsimp only); repeat' (first | ((with_reducible first | refine nq_next ?_ | refine nq_ret ?_ | refine ng_next ?_ | refine ng_ret ?_ | refine nq_cont ?_ | refine nq_brk ?_ | refine ng_cont ?_ | refine ng_brk ?_); (try dsimp only)) | (k_unfold; (try dsimp only)) | walk1 | (dsimp only; walk1) | (leave1; walk_say "STEP leave1"; try dsimp only)))
  refine Stop.go ?_
  refine' while_inv (σ := Bo) (fun _ => []) _ (fun c => [(Str.ofString "last", .int (c.last : Int) c.t1), (Str.ofString "bits", .int (c.bits : Int) c.t2)]) [] (BoI n) (fun c => n % 8 - c.bits) ⟨z, _, 0, _⟩ (by assumption) (by assumption) ?ps ?hi ?turn
  case ps => ((repeat' (first | exact List.forall_mem_nil _ | refine List.forall_mem_cons.mpr ⟨by with_unfolding_all rfl, ?_⟩)))
  case hi => exact ⟨Nat.zero_le _, hlo, hhi⟩
  case turn =>
    rintro ⟨last, t1, bits, t2⟩ u h tk ⟨le, lo, hi⟩ F N
    dsimp only [List.cons_append, List.nil_append] at *
    ((try dsimp only); repeat' (first | ((with_reducible first | refine nq_next ?_ | refine nq_ret ?_ | refine ng_next ?_ | refine ng_ret ?_ | refine nq_cont ?_ | refine nq_brk ?_ | refine ng_cont ?_ | refine ng_brk ?_); (try dsimp only)) | (k_unfold; (try dsimp only)) | walk1 | (dsimp only; walk1) | (leave1; walk_say "STEP leave1"; try dsimp only)))
    · refine el3 (bo_turn le lo hi (by omega)) fun v1 v2 v3 => ?_
      have e2 : ((last : Nat) : Int).fdiv 2 = ((last / 2 : Nat) : Int) := by rw [Int.fdiv_eq_ediv_of_nonneg _ (by decide)]; omega
      simp only [e2] at *
      refine FEnd.at ⟨last / 2, _, bits + 1, _⟩ (by assumption) (drop0 (by assumption)) (by ((repeat' (first | exact List.forall_mem_nil _ | refine List.forall_mem_cons.mpr ⟨by with_unfolding_all rfl, ?_⟩)))) (by (((repeat (first | (with_reducible exact fun _ _ _ => rfl) | ((with_reducible refine same_lay ?nz48 ?_); (case nz48 => rfl)) | ((with_reducible refine same_kst ?nz48 ?_); (case nz48 => rfl)))); done))) ⟨⟨v1, v2, v3⟩, Nat.sub_lt_sub_left v1 (Nat.lt_succ_self bits)⟩
    · have hbn := bo_end le lo (by omega)
      exact hret _ _ _ _ (by rw [hbn]; omega) (by assumption) (drop0 (by assumption))
end Kbits_of_
theorem bits_of_ {w : World} {mean : ExcName → Option Value} {mg : Str → Option Value} {mb : Str → Option Value} {dp : Nat} {un : Nat} {gd : Option (List Code)} {cn : Str} {cs : Scope} {a : Addr} {ccd : Value} {cl : List (Str × Addr)} {outer : List Env} {A₀ : Around} {base : Heap} {h₀ : Heap} {L : Addr} {m : Str → Option Value} {news : List (Addr × Obj)} {s : Shared} {Q : Value → Shared → Prop} {E : Value → Shared → Prop} : bits_of_S w mean mg mb dp un gd cn cs a ccd cl outer A₀ base h₀ L m news s Q E := pm_all (P := fun p => bits_of_S p.w p.mean p.mg p.mb p.dp p.un p.gd p.cn p.cs p.a p.ccd p.cl p.outer p.A₀ p.base p.h₀ p.L p.m p.news p.s p.Q p.E) Kbits_of_.walk { pmD with w := w, mean := mean, mg := mg, mb := mb, dp := dp, un := un, gd := gd, cn := cn, cs := cs, a := a, ccd := ccd, cl := cl, outer := outer, A₀ := A₀, base := base, h₀ := h₀, L := L, m := m, news := news, s := s, Q := Q, E := E }
end
section -- E18
theorem walk_off_E18 : True := by
  w_top off
  exact trivial
section
variable {w : World} {mean : ExcName → Option Value} {mg mb : Str → Option Value} {dp un : Nat} {gd : Option (List Code)} {cn : Str} {cs : Scope} {a : Addr} {ccd : Value} {cl : List (Str × Addr)} {outer : List Env} {A₀ : Around} {base h₀ : Heap} {L : Addr} {m : Str → Option Value} {rest news : List (Addr × Obj)} {s : Shared} {Q E : Value → Shared → Prop}
structure FRo where
  x : Addr
  dx : Addr
  k1 : Tok
  k2 : Tok
structure FRo.Ok (o : FRo) (rest : List (Addr × Obj)) : Prop where
  h1 : @LT.lt Nat _ o.dx o.x
  r1 : ∀ p ∈ rest, p.1 ≠ o.dx
  r2 : ∀ p ∈ rest, p.1 ≠ o.x
abbrev frE (w : World) (o : FRo) (tx : Addr) (st : Int) (ts : Tok) : List (Addr × Obj) :=
  [(o.x, instObj 369 o.dx), (o.dx, dictOf [de w "table" o.k1 (.ref tx), de w "state" o.k2 (.int st ts)] 2)]
set_option maxRecDepth 100000 in
set_option maxHeartbeats 8000000 in
theorem fr_new {tx : Addr}
   (C : Cx w mean mg mb dp un cs outer A₀ base h₀ L m s.heap 2) (N : News h₀ L s.heap news)
   (hret : ∀ (o : FRo) ts h' tk', o.Ok news → AllLt o.dx news → Fr h₀ L h' m → News h₀ L h' (frE w o tx 0 ts ++ news) → Q (.ref o.x) { s with heap := h', toks := tk' }) :
   wpAny (model PySem.Challenge.rw_pq1208_01.row.prog w) (ktrTop dp un gd cn cs L a ccd cl outer) (call (.ref 369) [.ref tx]) Q E s := by
  refine Cx.el C fun B F X T hk hd hu => ?_
  ((k_dflt (refine' call_cls ?k1z49 ?k2z49 ?k3z49 ?k4z49 ?k5z49 ?k6z49 ?_; (case k1z49 => k_asm); (case k2z49 => k_asm); (case k3z49 => k_asm); (case k4z49 => k_is); (case k5z49 => k_is); (case k6z49 => k_is); k_whole; intro x' d' h' F' N' l1 l2; (have lA := allLt_of l1); (try k_lt l1); (try k_lt2 l2); (try k_sweep); cell_enter)))
  ((try dsimp only); repeat' (first | ((with_reducible first | refine nq_next ?_ | refine nq_ret ?_ | refine ng_next ?_ | refine ng_ret ?_ | refine nq_cont ?_ | refine nq_brk ?_ | refine ng_cont ?_ | refine ng_brk ?_); (try dsimp only)) | (k_unfold; (try dsimp only)) | walk1 | (dsimp only; walk1) | (leave1; walk_say "STEP leave1"; try dsimp only)))
  refine hret ⟨_, _, _, _⟩ _ _ _ ⟨by assumption, by (((repeat' (first | assumption | exact List.forall_mem_nil _ | exact off_nil | refine off_snoc ?_ ?_ | refine List.forall_mem_cons.mpr ⟨?_, ?_⟩)) <;> (try dsimp only) <;> first | assumption | exact Nat.ne_of_lt (by assumption) | exact Nat.ne_of_gt (by assumption) | exact Nat.ne_of_gt (by omega) | exact Nat.ne_of_lt (by omega) | exact allLt_ne (by assumption) | exact allLt_ne (rt1 (by assumption)) | exact allLt_ne (rt2 (by assumption)) | exact allLt_ne (rt3 (by assumption)) | exact allLt_ne (rt4 (by assumption)) | exact allLt_ne (rt5 (by assumption)) | exact fun p hp => Nat.ne_of_lt (‹∀ p ∈ _, p.1 < _› p hp) | exact fun p hp => Nat.ne_of_lt (Nat.lt_trans (‹∀ p ∈ _, p.1 < _› p hp) (by omega)) | exact allLt_ne2 (by assumption) (by omega) | exact allLt_ne2 (rt1 (by assumption)) (by omega) | exact allLt_ne2 (rt2 (by assumption)) (by omega) | exact allLt_ne2 (rt3 (by assumption)) (by omega))), by (((repeat' (first | assumption | exact List.forall_mem_nil _ | exact off_nil | refine off_snoc ?_ ?_ | refine List.forall_mem_cons.mpr ⟨?_, ?_⟩)) <;> (try dsimp only) <;> first | assumption | exact Nat.ne_of_lt (by assumption) | exact Nat.ne_of_gt (by assumption) | exact Nat.ne_of_gt (by omega) | exact Nat.ne_of_lt (by omega) | exact allLt_ne (by assumption) | exact allLt_ne (rt1 (by assumption)) | exact allLt_ne (rt2 (by assumption)) | exact allLt_ne (rt3 (by assumption)) | exact allLt_ne (rt4 (by assumption)) | exact allLt_ne (rt5 (by assumption)) | exact fun p hp => Nat.ne_of_lt (‹∀ p ∈ _, p.1 < _› p hp) | exact fun p hp => Nat.ne_of_lt (Nat.lt_trans (‹∀ p ∈ _, p.1 < _› p hp) (by omega)) | exact allLt_ne2 (by assumption) (by omega) | exact allLt_ne2 (rt1 (by assumption)) (by omega) | exact allLt_ne2 (rt2 (by assumption)) (by omega) | exact allLt_ne2 (rt3 (by assumption)) (by omega)))⟩ (by assumption) (by assumption) (drop0 (by assumption))
set_option maxRecDepth 100000 in
set_option maxHeartbeats 8000000 in
theorem fr_symbol {ns : List Int} {lg : Nat} {sy : List Nat} {o : TBo} {f : FRo} {st : Nat} {ts : Tok}
   (C : Cx w mean mg mb dp un cs outer A₀ base h₀ L m s.heap 2) (N : News h₀ L s.heap (frE w f o.x (st : Int) ts ++ news)) (T : TabIn w ns lg sy o news) (hst : st < 2 ^ lg)
   (hret : ∀ v t h' tk', v = (sy.getD st 0 : Int) → Fr h₀ L h' m → News h₀ L h' (frE w f o.x (st : Int) ts ++ news) → Q (.int v t) { s with heap := h', toks := tk' }) :
   wpAny (model PySem.Challenge.rw_pq1208_01.row.prog w) (ktrTop dp un gd cn cs L a ccd cl outer) (call (.ref 352) [.ref f.x]) Q E s := by
  refine Cx.el C fun B F X Tp hk hd hu => ?_
  have hz := T.tb.z
  have hl := T.tb.sp.len
  have h1 : ∀ p ∈ news, p ∈ frE w f o.x (st : Int) ts ++ news := fun p hp => List.mem_append_right _ hp
  have N₁ := News.put N (News.put N (News.put N N (h1 _ T.dx)) (h1 _ T.x)) (h1 _ T.lsy)
  dsimp only [List.cons_append, List.nil_append, de] at *
  clear N
  refine wpAny_call ?_
  k_dflt cell_enter
  ((try dsimp only); repeat' (first | ((with_reducible first | refine nq_next ?_ | refine nq_ret ?_ | refine ng_next ?_ | refine ng_ret ?_ | refine nq_cont ?_ | refine nq_brk ?_ | refine ng_cont ?_ | refine ng_brk ?_); (try dsimp only)) | (k_unfold; (try dsimp only)) | walk1 | (dsimp only; walk1) | (leave1; walk_say "STEP leave1"; try dsimp only)))
  refine Stop.go (int_item (ns := up sy) (by assumption) (.head _) T.asy (by omega) (by rw [up_len]; omega) (by omega) ?_)
  intro v t hv
  ((try dsimp only); repeat' (first | ((with_reducible first | refine nq_next ?_ | refine nq_ret ?_ | refine ng_next ?_ | refine ng_ret ?_ | refine nq_cont ?_ | refine nq_brk ?_ | refine ng_cont ?_ | refine ng_brk ?_); (try dsimp only)) | (k_unfold; (try dsimp only)) | walk1 | (dsimp only; walk1) | (leave1; walk_say "STEP leave1"; try dsimp only)))
  exact hret _ _ _ _ (by rw [hv]; exact up_getD _ st) (by assumption) (drop0 (drop0 (drop0 (by assumption))))
set_option maxRecDepth 100000 in
set_option maxHeartbeats 8000000 in
theorem fr_needs {ns : List Int} {lg : Nat} {sy : List Nat} {o : TBo} {f : FRo} {st : Nat} {ts : Tok}
   (C : Cx w mean mg mb dp un cs outer A₀ base h₀ L m s.heap 2) (N : News h₀ L s.heap (frE w f o.x (st : Int) ts ++ news)) (T : TabIn w ns lg sy o news) (hst : st < 2 ^ lg)
   (hret : ∀ v t h' tk', v = (bitF ns sy lg st : Int) → Fr h₀ L h' m → News h₀ L h' (frE w f o.x (st : Int) ts ++ news) → Q (.int v t) { s with heap := h', toks := tk' }) :
   wpAny (model PySem.Challenge.rw_pq1208_01.row.prog w) (ktrTop dp un gd cn cs L a ccd cl outer) (call (.ref 359) [.ref f.x]) Q E s := by
  refine Cx.el C fun B F X Tp hk hd hu => ?_
  have hz := T.tb.z
  have h1 : ∀ p ∈ news, p ∈ frE w f o.x (st : Int) ts ++ news := fun p hp => List.mem_append_right _ hp
  have N₁ := News.put N (News.put N (News.put N N (h1 _ T.dx)) (h1 _ T.x)) (h1 _ T.lbi)
  dsimp only [List.cons_append, List.nil_append, de] at *
  clear N
  refine wpAny_call ?_
  k_dflt cell_enter
  ((try dsimp only); repeat' (first | ((with_reducible first | refine nq_next ?_ | refine nq_ret ?_ | refine ng_next ?_ | refine ng_ret ?_ | refine nq_cont ?_ | refine nq_brk ?_ | refine ng_cont ?_ | refine ng_brk ?_); (try dsimp only)) | (k_unfold; (try dsimp only)) | walk1 | (dsimp only; walk1) | (leave1; walk_say "STEP leave1"; try dsimp only)))
  refine Stop.go (int_item (by assumption) (.head _) T.abi (by omega) (by rw [up_len, List.length_map, List.length_range]; omega) (by omega) ?_)
  intro v t hv
  ((try dsimp only); repeat' (first | ((with_reducible first | refine nq_next ?_ | refine nq_ret ?_ | refine ng_next ?_ | refine ng_ret ?_ | refine nq_cont ?_ | refine nq_brk ?_ | refine ng_cont ?_ | refine ng_brk ?_); (try dsimp only)) | (k_unfold; (try dsimp only)) | walk1 | (dsimp only; walk1) | (leave1; walk_say "STEP leave1"; try dsimp only)))
  exact hret _ _ _ _ (by rw [hv]; exact up_map_getD hst) (by assumption) (drop0 (drop0 (drop0 (by assumption))))
theorem pm1 {h₀ h : Heap} {L : Addr} {a b c d e f : Addr × Obj} {r : List (Addr × Obj)} (N : News h₀ L h (a :: b :: c :: d :: e :: f :: r)) : News h₀ L h (e :: f :: a :: b :: c :: d :: r) := cb_drop N (by (((repeat' (first | exact List.forall_mem_nil _ | refine subC (by ((repeat (first | assumption | exact List.Mem.head _ | exact List.mem_append_left _ (by assumption) | refine List.Mem.tail _ ?_ | refine List.mem_append_right _ ?_)))) ?_ | refine subA ?_ ?_)) <;> (intro p hp; ((repeat (first | assumption | exact List.Mem.head _ | exact List.mem_append_left _ (by assumption) | refine List.Mem.tail _ ?_ | refine List.mem_append_right _ ?_)))))))
theorem pm2 {h₀ h : Heap} {L : Addr} {a b c d e f : Addr × Obj} {r : List (Addr × Obj)} (N : News h₀ L h (e :: f :: a :: b :: c :: d :: r)) : News h₀ L h (c :: d :: e :: f :: r) := cb_drop N (by (((repeat' (first | exact List.forall_mem_nil _ | refine subC (by ((repeat (first | assumption | exact List.Mem.head _ | exact List.mem_append_left _ (by assumption) | refine List.Mem.tail _ ?_ | refine List.mem_append_right _ ?_)))) ?_ | refine subA ?_ ?_)) <;> (intro p hp; ((repeat (first | assumption | exact List.Mem.head _ | exact List.mem_append_left _ (by assumption) | refine List.Mem.tail _ ?_ | refine List.mem_append_right _ ?_)))))))
set_option maxRecDepth 100000 in
set_option maxHeartbeats 8000000 in
theorem fr_start {ns : List Int} {lg : Nat} {sy : List Nat} {o : TBo} {f : FRo} {st : Int} {ts : Tok} {b : Array UInt8} {ro : RDo} {rc : RDs}
   (C : Cx w mean mg mb dp un cs outer A₀ base h₀ L m s.heap 5) (N : News h₀ L s.heap (frE w f o.x st ts ++ (rdE w b ro rc ++ rest))) (T : TabIn w ns lg sy o rest) (hf : f.Ok (rdE w b ro rc ++ rest)) (hr : ro.Ok rest)
   (hp : (lg : Int) ≤ rc.pos) (hp2 : rc.pos ≤ 8 * b.size) (hz : b.size ≤ 200)
   (hret : ∀ v t t2 h' tk', v = bNat b / 2 ^ (rc.pos.toNat - lg) % 2 ^ lg → Fr h₀ L h' m → News h₀ L h' (frE w f o.x v t ++ (rdE w b ro ⟨rc.pos - lg, t2⟩ ++ rest)) → Q .none { s with heap := h', toks := tk' }) :
   wpAny (model PySem.Challenge.rw_pq1208_01.row.prog w) (ktrTop dp un gd cn cs L a ccd cl outer) (call (.ref 345) [.ref f.x, .ref ro.x]) Q E s := by
  refine Cx.el C fun B F X Tp hk hd hu => ?_
  have hl6 := T.tb.l6
  have g1 := neN (hf.r1 _ (.head _))
  have g2 := neN (hf.r1 _ (.tail _ (.head _)))
  have g3 := neN (hf.r2 _ (.head _))
  have g4 := neN (hf.r2 _ (.tail _ (.head _)))
  have g5 := neN (hf.r1 _ (List.mem_append_right _ T.x))
  have g6 := neN (hf.r1 _ (List.mem_append_right _ T.dx))
  have g7 := neN (hr.r1 _ T.x)
  have g8 := neN (hr.r1 _ T.dx)
  have g9 := neN (hr.r2 _ T.x)
  have g10 := neN (hr.r2 _ T.dx)
  have g11 : ∀ p ∈ rest, p.1 ≠ f.dx := fun p hp => hf.r1 p (List.mem_append_right _ hp)
  have g12 : ∀ p ∈ rest, p.1 ≠ f.x := fun p hp => hf.r2 p (List.mem_append_right _ hp)
  have hfx := hf.h1
  first | refine el3 (hr) fun hr1 hr2 hr3 => ?_ | obtain ⟨hr1, hr2, hr3⟩ := hr
  dsimp only at g1 g2 g3 g4 g5 g6 g7 g8 g9 g10
  have g1s := Ne.symm g1
  have g2s := Ne.symm g2
  have g3s := Ne.symm g3
  have g4s := Ne.symm g4
  have h1 : ∀ p ∈ rest, p ∈ frE w f o.x st ts ++ (rdE w b ro rc ++ rest) := fun p hp => List.mem_append_right _ (List.mem_append_right _ hp)
  have N₁ := News.put N (News.put N N (h1 _ T.dx)) (h1 _ T.x)
  clear N
  dsimp only [List.cons_append, List.nil_append, de] at *
  refine wpAny_call ?_
  k_dflt cell_enter
  ((try dsimp only); repeat' (first | ((with_reducible first | refine nq_next ?_ | refine nq_ret ?_ | refine ng_next ?_ | refine ng_ret ?_ | refine nq_cont ?_ | refine nq_brk ?_ | refine ng_cont ?_ | refine ng_brk ?_); (try dsimp only)) | (k_unfold; (try dsimp only)) | walk1 | (dsimp only; walk1) | (leave1; walk_say "STEP leave1"; try dsimp only)))
  refine Stop.go (br_bits (o := ro) (c := rc) (n := lg) (by (exact ⟨by assumption, by assumption, by assumption, by assumption, rfl, by (first | omega | ((try simp only [depth_under_make, units_under_make, depth_in1, units_in1, depth_deeper, units_deeper]); (try dsimp only [ktrTop]); omega)), by (first | omega | ((try simp only [depth_under_make, units_under_make, depth_in1, units_in1, depth_deeper, units_deeper]); (try dsimp only [ktrTop]); omega))⟩)) (pm1 (by assumption)) ⟨hr1, by (((repeat' (first | assumption | exact List.forall_mem_nil _ | exact off_nil | refine off_snoc ?_ ?_ | refine List.forall_mem_cons.mpr ⟨?_, ?_⟩)) <;> (try dsimp only) <;> first | assumption | exact Nat.ne_of_lt (by assumption) | exact Nat.ne_of_gt (by assumption) | exact Nat.ne_of_gt (by omega) | exact Nat.ne_of_lt (by omega) | exact allLt_ne (by assumption) | exact allLt_ne (rt1 (by assumption)) | exact allLt_ne (rt2 (by assumption)) | exact allLt_ne (rt3 (by assumption)) | exact allLt_ne (rt4 (by assumption)) | exact allLt_ne (rt5 (by assumption)) | exact fun p hp => Nat.ne_of_lt (‹∀ p ∈ _, p.1 < _› p hp) | exact fun p hp => Nat.ne_of_lt (Nat.lt_trans (‹∀ p ∈ _, p.1 < _› p hp) (by omega)) | exact allLt_ne2 (by assumption) (by omega) | exact allLt_ne2 (rt1 (by assumption)) (by omega) | exact allLt_ne2 (rt2 (by assumption)) (by omega) | exact allLt_ne2 (rt3 (by assumption)) (by omega))), by (((repeat' (first | assumption | exact List.forall_mem_nil _ | exact off_nil | refine off_snoc ?_ ?_ | refine List.forall_mem_cons.mpr ⟨?_, ?_⟩)) <;> (try dsimp only) <;> first | assumption | exact Nat.ne_of_lt (by assumption) | exact Nat.ne_of_gt (by assumption) | exact Nat.ne_of_gt (by omega) | exact Nat.ne_of_lt (by omega) | exact allLt_ne (by assumption) | exact allLt_ne (rt1 (by assumption)) | exact allLt_ne (rt2 (by assumption)) | exact allLt_ne (rt3 (by assumption)) | exact allLt_ne (rt4 (by assumption)) | exact allLt_ne (rt5 (by assumption)) | exact fun p hp => Nat.ne_of_lt (‹∀ p ∈ _, p.1 < _› p hp) | exact fun p hp => Nat.ne_of_lt (Nat.lt_trans (‹∀ p ∈ _, p.1 < _› p hp) (by omega)) | exact allLt_ne2 (by assumption) (by omega) | exact allLt_ne2 (rt1 (by assumption)) (by omega) | exact allLt_ne2 (rt2 (by assumption)) (by omega) | exact allLt_ne2 (rt3 (by assumption)) (by omega)))⟩ (by omega) hp hp2 hz rfl ?_)
  intro v t₁ t₂ h₁ k₁ hv F₁ N₂
  dsimp only [List.cons_append, List.nil_append, de] at *
  ((try dsimp only); repeat' (first | ((with_reducible first | refine nq_next ?_ | refine nq_ret ?_ | refine ng_next ?_ | refine ng_ret ?_ | refine nq_cont ?_ | refine nq_brk ?_ | refine ng_cont ?_ | refine ng_brk ?_); (try dsimp only)) | (k_unfold; (try dsimp only)) | walk1 | (dsimp only; walk1) | (leave1; walk_say "STEP leave1"; try dsimp only)))
  exact hret _ _ _ _ _ hv (by assumption) (pm2 (by assumption))
theorem pm3 {h₀ h : Heap} {L : Addr} {a b c d e f g : Addr × Obj} {r : List (Addr × Obj)} (N : News h₀ L h (a :: b :: c :: d :: e :: f :: g :: r)) : News h₀ L h (d :: e :: a :: b :: c :: f :: g :: r) := cb_drop N (by (((repeat' (first | exact List.forall_mem_nil _ | refine subC (by ((repeat (first | assumption | exact List.Mem.head _ | exact List.mem_append_left _ (by assumption) | refine List.Mem.tail _ ?_ | refine List.mem_append_right _ ?_)))) ?_ | refine subA ?_ ?_)) <;> (intro p hp; ((repeat (first | assumption | exact List.Mem.head _ | exact List.mem_append_left _ (by assumption) | refine List.Mem.tail _ ?_ | refine List.mem_append_right _ ?_)))))))
theorem pm4 {h₀ h : Heap} {L : Addr} {a b c d e f g : Addr × Obj} {r : List (Addr × Obj)} (N : News h₀ L h (d :: e :: a :: b :: c :: f :: g :: r)) : News h₀ L h (f :: g :: d :: e :: a :: b :: c :: r) := cb_drop N (by (((repeat' (first | exact List.forall_mem_nil _ | refine subC (by ((repeat (first | assumption | exact List.Mem.head _ | exact List.mem_append_left _ (by assumption) | refine List.Mem.tail _ ?_ | refine List.mem_append_right _ ?_)))) ?_ | refine subA ?_ ?_)) <;> (intro p hp; ((repeat (first | assumption | exact List.Mem.head _ | exact List.mem_append_left _ (by assumption) | refine List.Mem.tail _ ?_ | refine List.mem_append_right _ ?_)))))))
theorem pm5 {h₀ h : Heap} {L : Addr} {a b c d e f g : Addr × Obj} {r : List (Addr × Obj)} (N : News h₀ L h (f :: g :: d :: e :: a :: b :: c :: r)) : News h₀ L h (d :: e :: f :: g :: r) := cb_drop N (by (((repeat' (first | exact List.forall_mem_nil _ | refine subC (by ((repeat (first | assumption | exact List.Mem.head _ | exact List.mem_append_left _ (by assumption) | refine List.Mem.tail _ ?_ | refine List.mem_append_right _ ?_)))) ?_ | refine subA ?_ ?_)) <;> (intro p hp; ((repeat (first | assumption | exact List.Mem.head _ | exact List.mem_append_left _ (by assumption) | refine List.Mem.tail _ ?_ | refine List.mem_append_right _ ?_)))))))
end
def fr_stepS (w : World) (mean : ExcName → Option Value) (mg : Str → Option Value) (mb : Str → Option Value) (dp : Nat) (un : Nat) (gd : Option (List Code)) (cn : Str) (cs : Scope) (a : Addr) (ccd : Value) (cl : List (Str × Addr)) (outer : List Env) (A₀ : Around) (base : Heap) (h₀ : Heap) (L : Addr) (m : Str → Option Value) (rest : List (Addr × Obj)) (s : Shared) (Q : Value → Shared → Prop) (E : Value → Shared → Prop) : Prop :=
  ∀ {ns : List Int} {lg : Nat} {sy : List Nat} {o : TBo} {f : FRo} {st : Nat} {ts : Tok} {b : Array UInt8} {ro : RDo} {rc : RDs} (C : Cx w mean mg mb dp un cs outer A₀ base h₀ L m s.heap 5) (N : News h₀ L s.heap (frE w f o.x (st : Int) ts ++ (rdE w b ro rc ++ rest))) (T : TabIn w ns lg sy o rest) (hf : f.Ok (rdE w b ro rc ++ rest)) (hr : ro.Ok rest) (hst : st < 2 ^ lg) (hp : (bitF ns sy lg st : Int) ≤ rc.pos) (hp2 : rc.pos ≤ 8 * b.size) (hz : b.size ≤ 200) (hret : ∀ v t t2 h' tk', v = (basF ns sy lg st : Int) + bNat b / 2 ^ (rc.pos.toNat - bitF ns sy lg st) % 2 ^ bitF ns sy lg st → Fr h₀ L h' m → News h₀ L h' (frE w f o.x v t ++ (rdE w b ro ⟨rc.pos - bitF ns sy lg st, t2⟩ ++ rest)) → Q .none { s with heap := h', toks := tk' }),
   wpAny (model PySem.Challenge.rw_pq1208_01.row.prog w) (ktrTop dp un gd cn cs L a ccd cl outer) (call (.ref 366) [.ref f.x, .ref ro.x]) Q E s
namespace Kfr_step
noncomputable def pt : Pm := pmAt fun p => fr_stepS p.w p.mean p.mg p.mb p.dp p.un p.gd p.cn p.cs p.a p.ccd p.cl p.outer p.A₀ p.base p.h₀ p.L p.m p.rest p.s p.Q p.E
noncomputable def w : World := pt.w
noncomputable def rest : List (Addr × Obj) := pt.rest
set_option maxRecDepth 100000 in
set_option maxHeartbeats 8000000 in
theorem walk : fr_stepS w pt.mean pt.mg pt.mb pt.dp pt.un pt.gd pt.cn pt.cs pt.a pt.ccd pt.cl pt.outer pt.A₀ pt.base pt.h₀ pt.L pt.m rest pt.s pt.Q pt.E := by
  unfold fr_stepS
  intro ns lg sy o f st ts b ro rc C N T hf hr hst hp hp2 hz hret
  refine Cx.el C fun B F X Tp hk hd hu => ?_
  have hl6 := T.tb.l6
  have hzz := T.tb.z
  have hbf : bitF ns sy lg st ≤ 6 := by unfold bitF; omega
  have g1 := neN (hf.r1 _ (.head _))
  have g2 := neN (hf.r1 _ (.tail _ (.head _)))
  have g3 := neN (hf.r2 _ (.head _))
  have g4 := neN (hf.r2 _ (.tail _ (.head _)))
  have g5 := neN (hf.r1 _ (List.mem_append_right _ T.x))
  have g6 := neN (hf.r1 _ (List.mem_append_right _ T.dx))
  have g13 := neN (hf.r1 _ (List.mem_append_right _ T.lba))
  have g7 := neN (hr.r1 _ T.x)
  have g8 := neN (hr.r1 _ T.dx)
  have g14 := neN (hr.r1 _ T.lba)
  have g9 := neN (hr.r2 _ T.x)
  have g10 := neN (hr.r2 _ T.dx)
  have g15 := neN (hr.r2 _ T.lba)
  have g11 : ∀ p ∈ rest, p.1 ≠ f.dx := fun p hp => hf.r1 p (List.mem_append_right _ hp)
  have g12 : ∀ p ∈ rest, p.1 ≠ f.x := fun p hp => hf.r2 p (List.mem_append_right _ hp)
  have hfx := hf.h1
  first | refine el3 (hr) fun hr1 hr2 hr3 => ?_ | obtain ⟨hr1, hr2, hr3⟩ := hr
  dsimp only at g1 g2 g3 g4 g5 g6 g7 g8 g9 g10 g13 g14 g15
  have g1s := Ne.symm g1
  have g2s := Ne.symm g2
  have g3s := Ne.symm g3
  have g4s := Ne.symm g4
  have h1 : ∀ p ∈ rest, p ∈ frE w f o.x (st : Int) ts ++ (rdE w b ro rc ++ rest) := fun p hp => List.mem_append_right _ (List.mem_append_right _ hp)
  have N₁ := News.put N (News.put N (News.put N N (h1 _ T.dx)) (h1 _ T.x)) (h1 _ T.lba)
  clear N
  dsimp only [List.cons_append, List.nil_append, de] at *
  refine wpAny_call ?_
  k_dflt cell_enter
  ((try dsimp only); repeat' (first | ((with_reducible first | refine nq_next ?_ | refine nq_ret ?_ | refine ng_next ?_ | refine ng_ret ?_ | refine nq_cont ?_ | refine nq_brk ?_ | refine ng_cont ?_ | refine ng_brk ?_); (try dsimp only)) | (k_unfold; (try dsimp only)) | walk1 | (dsimp only; walk1) | (leave1; walk_say "STEP leave1"; try dsimp only)))
  refine Stop.go (int_item (by assumption) (.head _) T.aba (by omega) (by rw [up_len, List.length_map, List.length_range]; omega) (by omega) ?_)
  intro v₀ t₀ hv₀
  obtain rfl : v₀ = (basF ns sy lg st : Int) := by rw [hv₀]; exact up_map_getD hst
  ((try dsimp only); repeat' (first | ((with_reducible first | refine nq_next ?_ | refine nq_ret ?_ | refine ng_next ?_ | refine ng_ret ?_ | refine nq_cont ?_ | refine nq_brk ?_ | refine ng_cont ?_ | refine ng_brk ?_); (try dsimp only)) | (k_unfold; (try dsimp only)) | walk1 | (dsimp only; walk1) | (leave1; walk_say "STEP leave1"; try dsimp only)))
  refine Stop.go (fr_needs (o := o) (f := f) (by (exact ⟨by assumption, by assumption, by assumption, by assumption, rfl, by (first | omega | ((try simp only [depth_under_make, units_under_make, depth_in1, units_in1, depth_deeper, units_deeper]); (try dsimp only [ktrTop]); omega)), by (first | omega | ((try simp only [depth_under_make, units_under_make, depth_in1, units_in1, depth_deeper, units_deeper]); (try dsimp only [ktrTop]); omega))⟩)) (pm3 (by assumption)) (T.mono (by intro p hp; simp only [List.mem_cons, hp, or_true])) hst ?_)
  intro v₁ t₁ h₁ k₁ hv₁ F₁ N₂
  dsimp only [List.cons_append, List.nil_append, de] at *
  ((try dsimp only); repeat' (first | ((with_reducible first | refine nq_next ?_ | refine nq_ret ?_ | refine ng_next ?_ | refine ng_ret ?_ | refine nq_cont ?_ | refine nq_brk ?_ | refine ng_cont ?_ | refine ng_brk ?_); (try dsimp only)) | (k_unfold; (try dsimp only)) | walk1 | (dsimp only; walk1) | (leave1; walk_say "STEP leave1"; try dsimp only)))
  refine Stop.go (br_bits (o := ro) (c := rc) (n := bitF ns sy lg st) (by (exact ⟨by assumption, by assumption, by assumption, by assumption, rfl, by (first | omega | ((try simp only [depth_under_make, units_under_make, depth_in1, units_in1, depth_deeper, units_deeper]); (try dsimp only [ktrTop]); omega)), by (first | omega | ((try simp only [depth_under_make, units_under_make, depth_in1, units_in1, depth_deeper, units_deeper]); (try dsimp only [ktrTop]); omega))⟩)) (pm4 (by assumption)) ⟨hr1, by (((repeat' (first | assumption | exact List.forall_mem_nil _ | exact off_nil | refine off_snoc ?_ ?_ | refine List.forall_mem_cons.mpr ⟨?_, ?_⟩)) <;> (try dsimp only) <;> first | assumption | exact Nat.ne_of_lt (by assumption) | exact Nat.ne_of_gt (by assumption) | exact Nat.ne_of_gt (by omega) | exact Nat.ne_of_lt (by omega) | exact allLt_ne (by assumption) | exact allLt_ne (rt1 (by assumption)) | exact allLt_ne (rt2 (by assumption)) | exact allLt_ne (rt3 (by assumption)) | exact allLt_ne (rt4 (by assumption)) | exact allLt_ne (rt5 (by assumption)) | exact fun p hp => Nat.ne_of_lt (‹∀ p ∈ _, p.1 < _› p hp) | exact fun p hp => Nat.ne_of_lt (Nat.lt_trans (‹∀ p ∈ _, p.1 < _› p hp) (by omega)) | exact allLt_ne2 (by assumption) (by omega) | exact allLt_ne2 (rt1 (by assumption)) (by omega) | exact allLt_ne2 (rt2 (by assumption)) (by omega) | exact allLt_ne2 (rt3 (by assumption)) (by omega))), by (((repeat' (first | assumption | exact List.forall_mem_nil _ | exact off_nil | refine off_snoc ?_ ?_ | refine List.forall_mem_cons.mpr ⟨?_, ?_⟩)) <;> (try dsimp only) <;> first | assumption | exact Nat.ne_of_lt (by assumption) | exact Nat.ne_of_gt (by assumption) | exact Nat.ne_of_gt (by omega) | exact Nat.ne_of_lt (by omega) | exact allLt_ne (by assumption) | exact allLt_ne (rt1 (by assumption)) | exact allLt_ne (rt2 (by assumption)) | exact allLt_ne (rt3 (by assumption)) | exact allLt_ne (rt4 (by assumption)) | exact allLt_ne (rt5 (by assumption)) | exact fun p hp => Nat.ne_of_lt (‹∀ p ∈ _, p.1 < _› p hp) | exact fun p hp => Nat.ne_of_lt (Nat.lt_trans (‹∀ p ∈ _, p.1 < _› p hp) (by omega)) | exact allLt_ne2 (by assumption) (by omega) | exact allLt_ne2 (rt1 (by assumption)) (by omega) | exact allLt_ne2 (rt2 (by assumption)) (by omega) | exact allLt_ne2 (rt3 (by assumption)) (by omega)))⟩ (by omega) hp hp2 hz hv₁ ?_)
  intro v t₁ t₂ h₁ k₁ hv F₁ N₂
  dsimp only [List.cons_append, List.nil_append, de] at *
  subst hv₁
  ((try dsimp only); repeat' (first | ((with_reducible first | refine nq_next ?_ | refine nq_ret ?_ | refine ng_next ?_ | refine ng_ret ?_ | refine nq_cont ?_ | refine nq_brk ?_ | refine ng_cont ?_ | refine ng_brk ?_); (try dsimp only)) | (k_unfold; (try dsimp only)) | walk1 | (dsimp only; walk1) | (leave1; walk_say "STEP leave1"; try dsimp only)))
  exact hret _ _ _ _ _ (congrArg (fun z => (basF ns sy lg st : Int) + z) hv) (by assumption) (pm5 (by assumption))
end Kfr_step
theorem fr_step {w : World} {mean : ExcName → Option Value} {mg : Str → Option Value} {mb : Str → Option Value} {dp : Nat} {un : Nat} {gd : Option (List Code)} {cn : Str} {cs : Scope} {a : Addr} {ccd : Value} {cl : List (Str × Addr)} {outer : List Env} {A₀ : Around} {base : Heap} {h₀ : Heap} {L : Addr} {m : Str → Option Value} {rest : List (Addr × Obj)} {s : Shared} {Q : Value → Shared → Prop} {E : Value → Shared → Prop} : fr_stepS w mean mg mb dp un gd cn cs a ccd cl outer A₀ base h₀ L m rest s Q E := pm_all (P := fun p => fr_stepS p.w p.mean p.mg p.mb p.dp p.un p.gd p.cn p.cs p.a p.ccd p.cl p.outer p.A₀ p.base p.h₀ p.L p.m p.rest p.s p.Q p.E) Kfr_step.walk { pmD with w := w, mean := mean, mg := mg, mb := mb, dp := dp, un := un, gd := gd, cn := cn, cs := cs, a := a, ccd := ccd, cl := cl, outer := outer, A₀ := A₀, base := base, h₀ := h₀, L := L, m := m, rest := rest, s := s, Q := Q, E := E }
end
section -- E21
theorem walk_off_E21 : True := by
  w_top off
  exact trivial
section
variable {w : World} {mean : ExcName → Option Value} {mg mb : Str → Option Value} {dp un : Nat} {gd : Option (List Code)} {cn : Str} {cs : Scope} {a : Addr} {ccd : Value} {cl : List (Str × Addr)} {outer : List Env} {A₀ : Around} {base h₀ : Heap} {L : Addr} {m : Str → Option Value} {rest news : List (Addr × Obj)} {s : Shared} {Q E : Value → Shared → Prop}
structure Un where
  k : Nat
  st : Nat
  ts : Tok
  pos : Int
  tp : Tok
  vs : List Value
  cap : Nat
structure UnI (ns : List Int) (lg : Nat) (sy row : List Nat) (b : Array UInt8) (c : Un) : Prop where
  k1 : 1 ≤ c.k
  k2 : c.k ≤ row.length
  vs : IntsAre c.vs (up (row.take c.k))
  st : c.st = (enc ns lg sy (row.drop (c.k - 1))).st
  pos : c.pos = ((enc ns lg sy (row.drop (c.k - 1))).n : Nat)
  low : Below' b (enc ns lg sy (row.drop (c.k - 1))).n (enc ns lg sy (row.drop (c.k - 1))).W
  pl : c.pos ≤ ((enc ns lg sy row).n : Nat)
theorem enc_at {ns : List Int} {lg : Nat} {sy row : List Nat} {k : Nat} (h1 : 1 ≤ k) (h : k < row.length) : enc ns lg sy (row.drop (k - 1)) =
    ⟨ahS ns lg sy (row.getD (k - 1) 0) (enc ns lg sy (row.drop k)).st, (enc ns lg sy (row.drop k)).W + ahV ns lg (row.getD (k - 1) 0) (enc ns lg sy (row.drop k)).st * 2 ^ (enc ns lg sy (row.drop k)).n,
      (enc ns lg sy (row.drop k)).n + ahB ns lg (row.getD (k - 1) 0) (enc ns lg sy (row.drop k)).st⟩ := by
  have := enc_step (ns := ns) (lg := lg) (sy := sy) (row := row) (i := row.length - 1 - k) (Nat.sub_lt (Nat.lt_of_lt_of_le h1 (Nat.le_sub_one_of_lt h)) h1)
  rw [show row.length - 1 - (row.length - 1 - k + 1) = k - 1 from congrArg (· - 1) (ns5 h), ns0, ns5 h] at this
  exact this
theorem un_turn {ns : List Int} {lg : Nat} {sy row : List Nat} {b : Array UInt8} {c : Un} (T : Tb ns lg sy) (R : Rw ns row) (h : UnI ns lg sy row b c) (hk : c.k < row.length) :
    c.st < 2 ^ lg ∧ (bitF ns sy lg c.st : Int) ≤ c.pos ∧ c.pos ≤ 72 ∧ (enc ns lg sy (row.drop c.k)).st < 2 ^ lg ∧ (basF ns sy lg c.st : Int) + bNat b / 2 ^ (c.pos.toNat - bitF ns sy lg c.st) % 2 ^ bitF ns sy lg c.st = ((enc ns lg sy (row.drop c.k)).st : Int) ∧
      c.pos - bitF ns sy lg c.st = ((enc ns lg sy (row.drop c.k)).n : Nat) ∧ Below' b (enc ns lg sy (row.drop c.k)).n (enc ns lg sy (row.drop c.k)).W ∧ sy.getD (enc ns lg sy (row.drop c.k)).st 0 = row.getD c.k 0 := by
  first | refine el7 (h) fun k1 k2 vs hst hpos hlow hpl => ?_ | obtain ⟨k1, k2, vs, hst, hpos, hlow, hpl⟩ := h
  have hs : row.getD (c.k - 1) 0 ∈ row := getD_mem (by omega)
  have E1 := enc_ok T (row := row.drop (c.k - 1)) (by rw [drop_at (by omega)]; simp) (fun s hs => R.many s (List.mem_of_mem_drop hs))
  have E2 := enc_ok T (row := row.drop c.k) (by rw [drop_at hk]; simp) (fun s hs => R.many s (List.mem_of_mem_drop hs))
  have ea := enc_at (ns := ns) (lg := lg) (sy := sy) k1 hk
  have A := T.ah (s := row.getD (c.k - 1) 0) (st := (enc ns lg sy (row.drop c.k)).st) (R.many _ hs) E2.st
  have hn := E1.n
  rw [List.length_drop] at hn
  have hl := R.len
  rw [ea] at hst hpos hlow
  dsimp only at hst hpos hlow
  have hst' : c.st < 2 ^ lg := by rw [hst]; exact A.lt
  have hbit := A.bit
  rw [← hst] at hbit
  first | refine el2 (dec_step hlow E2.W) fun d1 d2 => ?_ | obtain ⟨d1, d2⟩ := dec_step hlow E2.W
  refine ⟨hst', ?_, ?_, E2.st, ?_, ?_, d2, ?_⟩
  · rw [hpos, hbit]; omega
  · rw [hpos]; rw [ea] at hn; exact Int.ofNat_le.mpr (ns6 _ R.len hn)
  · rw [hpos, hbit, show (((enc ns lg sy (row.drop c.k)).n + ahB ns lg (row.getD (c.k - 1) 0) (enc ns lg sy (row.drop c.k)).st : Nat) : Int).toNat - ahB ns lg (row.getD (c.k - 1) 0) (enc ns lg sy (row.drop c.k)).st = (enc ns lg sy (row.drop c.k)).n from Nat.add_sub_cancel _ _, d1]
    have := A.bas
    rw [← hst] at this
    omega
  · rw [hpos, hbit]; omega
  · rw [E2.is, drop_at hk]; rfl
theorem pmu1 {h₀ h : Heap} {L : Addr} {t l f g p1 p2 : Addr × Obj} {r : List (Addr × Obj)} (N : News h₀ L h (t :: l :: f :: g :: p1 :: p2 :: r)) : News h₀ L h (f :: g :: p1 :: p2 :: l :: r) := cb_drop N (by (((repeat' (first | exact List.forall_mem_nil _ | refine subC (by ((repeat (first | assumption | exact List.Mem.head _ | exact List.mem_append_left _ (by assumption) | refine List.Mem.tail _ ?_ | refine List.mem_append_right _ ?_)))) ?_ | refine subA ?_ ?_)) <;> (intro p hp; ((repeat (first | assumption | exact List.Mem.head _ | exact List.mem_append_left _ (by assumption) | refine List.Mem.tail _ ?_ | refine List.mem_append_right _ ?_)))))))
theorem pmu2 {h₀ h : Heap} {L : Addr} {a b c d e : Addr × Obj} {r : List (Addr × Obj)} (N : News h₀ L h (a :: b :: c :: d :: e :: r)) : News h₀ L h (c :: d :: a :: b :: e :: r) := cb_drop N (by (((repeat' (first | exact List.forall_mem_nil _ | refine subC (by ((repeat (first | assumption | exact List.Mem.head _ | exact List.mem_append_left _ (by assumption) | refine List.Mem.tail _ ?_ | refine List.mem_append_right _ ?_)))) ?_ | refine subA ?_ ?_)) <;> (intro p hp; ((repeat (first | assumption | exact List.Mem.head _ | exact List.mem_append_left _ (by assumption) | refine List.Mem.tail _ ?_ | refine List.mem_append_right _ ?_)))))))
theorem take_next {row : List Nat} {k : Nat} (h : k < row.length) : up (row.take (k + 1)) = up (row.take k) ++ [(row.getD k 0 : Int)] := by
  have : row[k]? = some (row.getD k 0) := by rw [List.getD_eq_getElem?_getD, List.getElem?_eq_getElem h]; rfl
  rw [take_succ_get this]; unfold up; rw [List.map_append]; rfl
theorem take1 {row : List Nat} (h : 1 ≤ row.length) : up (row.take 1) = [] ++ [(row.getD 0 0 : Int)] := take_next (k := 0) h
theorem rd_nes {w : World} {b : Array UInt8} {o : RDo} {c : RDs} {d : Addr} {rest : List (Addr × Obj)} (h : ∀ q ∈ rdE w b o c ++ rest, q.1 ≠ d) : (@Ne Nat o.x d) ∧ (@Ne Nat o.dx d) ∧ ∀ q ∈ rest, q.1 ≠ d :=
  ⟨h _ (.head _), h _ (.tail _ (.head _)), fun q hq => h q (List.mem_append_right _ hq)⟩
end
def unpack_S (w : World) (mean : ExcName → Option Value) (mg : Str → Option Value) (mb : Str → Option Value) (dp : Nat) (un : Nat) (gd : Option (List Code)) (cn : Str) (cs : Scope) (a : Addr) (ccd : Value) (cl : List (Str × Addr)) (outer : List Env) (A₀ : Around) (base : Heap) (h₀ : Heap) (L : Addr) (m : Str → Option Value) (news : List (Addr × Obj)) (s : Shared) (Q : Value → Shared → Prop) (E : Value → Shared → Prop) : Prop :=
  ∀ {ns : List Int} {lg : Nat} {sy row : List Nat} {o : TBo} {b : Array UInt8} {tb tn : Tok} (C : Cx w mean mg mb dp un cs outer A₀ base h₀ L m s.heap 7) (N : News h₀ L s.heap news) (T : TabIn w ns lg sy o news) (R : Rw ns row) (hb : Coded b (((enc ns lg sy row).W : Int) + (enc ns lg sy row).st * 2 ^ (enc ns lg sy row).n) ((enc ns lg sy row).n + lg)) (hret : ∀ D vs cap h' tk', IntsAre vs (up row) → Fr h₀ L h' m → News h₀ L h' ((D, lst vs cap) :: news) → (∀ p ∈ news, p.1 ≠ D) → Q (.ref D) { s with heap := h', toks := tk' }),
   wpAny (model PySem.Challenge.rw_pq1208_01.row.prog w) (ktrTop dp un gd cn cs L a ccd cl outer) (call (.ref 441) [.bytes b tb, .ref o.x, .int (row.length : Int) tn]) Q E s
namespace Kunpack_
noncomputable def pt : Pm := pmAt fun p => unpack_S p.w p.mean p.mg p.mb p.dp p.un p.gd p.cn p.cs p.a p.ccd p.cl p.outer p.A₀ p.base p.h₀ p.L p.m p.news p.s p.Q p.E
noncomputable def w : World := pt.w
noncomputable def news : List (Addr × Obj) := pt.news
noncomputable def s : Shared := pt.s
set_option maxRecDepth 100000 in
set_option maxHeartbeats 8000000 in
theorem walk : unpack_S w pt.mean pt.mg pt.mb pt.dp pt.un pt.gd pt.cn pt.cs pt.a pt.ccd pt.cl pt.outer pt.A₀ pt.base pt.h₀ pt.L pt.m news s pt.Q pt.E := by
  unfold unpack_S
  intro ns lg sy row o b tb tn C N T R hb hret
  refine Cx.el C fun B F X Tp hk hd hu => ?_
  have E0 := enc_ok T.tb R.ne R.many
  have hl6 := T.tb.l6
  have hrl := R.len
  have hr1 : 1 ≤ row.length := List.length_pos_iff.mpr R.ne
  have hn0 := E0.n
  have hbs := hb.s
  have hb2 : b.size ≤ 200 := by omega
  refine wpAny_call ?_
  k_dflt cell_enter
  ((try dsimp only); repeat' (first | ((with_reducible first | refine nq_next ?_ | refine nq_ret ?_ | refine ng_next ?_ | refine ng_ret ?_ | refine nq_cont ?_ | refine nq_brk ?_ | refine ng_cont ?_ | refine ng_brk ?_); (try dsimp only)) | (k_unfold; (try dsimp only)) | walk1 | (dsimp only; walk1) | (leave1; walk_say "STEP leave1"; try dsimp only)))
  refine Stop.go (br_new (W := ((enc ns lg sy row).W : Int) + (enc ns lg sy row).st * 2 ^ (enc ns lg sy row).n) (n := (enc ns lg sy row).n + lg) (by (exact ⟨by assumption, by assumption, by assumption, by assumption, rfl, by (first | omega | ((try simp only [depth_under_make, units_under_make, depth_in1, units_in1, depth_deeper, units_deeper]); (try dsimp only [ktrTop]); omega)), by (first | omega | ((try simp only [depth_under_make, units_under_make, depth_in1, units_in1, depth_deeper, units_deeper]); (try dsimp only [ktrTop]); omega))⟩)) (by assumption) hb (by omega) ?_)
  intro ro rc h₁ k₁ hro hpos hl F₁ N₁
  ((try dsimp only); repeat' (first | ((with_reducible first | refine nq_next ?_ | refine nq_ret ?_ | refine ng_next ?_ | refine ng_ret ?_ | refine nq_cont ?_ | refine nq_brk ?_ | refine ng_cont ?_ | refine ng_brk ?_); (try dsimp only)) | (k_unfold; (try dsimp only)) | walk1 | (dsimp only; walk1) | (leave1; walk_say "STEP leave1"; try dsimp only)))
  refine Stop.go (fr_new (by (exact ⟨by assumption, by assumption, by assumption, by assumption, rfl, by (first | omega | ((try simp only [depth_under_make, units_under_make, depth_in1, units_in1, depth_deeper, units_deeper]); (try dsimp only [ktrTop]); omega)), by (first | omega | ((try simp only [depth_under_make, units_under_make, depth_in1, units_in1, depth_deeper, units_deeper]); (try dsimp only [ktrTop]); omega))⟩)) (by assumption) ?_)
  intro f ts h₂ k₂ hf hl2 F₂ N₂
  have hro' := hro
  have hf' := hf
  first | refine el3 (rd_nes hf.r1) fun a1 a2 a3 => ?_ | obtain ⟨a1, a2, a3⟩ := rd_nes hf.r1
  first | refine el3 (rd_nes hf.r2) fun b1 b2 b3 => ?_ | obtain ⟨b1, b2, b3⟩ := rd_nes hf.r2
  have a1s := Ne.symm a1
  have a2s := Ne.symm a2
  have b1s := Ne.symm b1
  have b2s := Ne.symm b2
  first | refine el3 (hro) fun o1 o2 o3 => ?_ | obtain ⟨o1, o2, o3⟩ := hro
  first | refine el3 (hf) fun f1 f2 f3 => ?_ | obtain ⟨f1, f2, f3⟩ := hf
  dsimp only [List.cons_append, List.nil_append, de] at *
  ((try dsimp only); repeat' (first | ((with_reducible first | refine nq_next ?_ | refine nq_ret ?_ | refine ng_next ?_ | refine ng_ret ?_ | refine nq_cont ?_ | refine nq_brk ?_ | refine ng_cont ?_ | refine ng_brk ?_); (try dsimp only)) | (k_unfold; (try dsimp only)) | walk1 | (dsimp only; walk1) | (leave1; walk_say "STEP leave1"; try dsimp only)))
  have D0 := dec_start hb E0.W E0.st
  first | refine el2 (dec_step D0 E0.W) fun D1 D2 => ?_ | obtain ⟨D1, D2⟩ := dec_step D0 E0.W
  refine Stop.go (fr_start (o := o) (f := f) (ro := ro) (rc := rc) (rest := _ :: news) (by (exact ⟨by assumption, by assumption, by assumption, by assumption, rfl, by (first | omega | ((try simp only [depth_under_make, units_under_make, depth_in1, units_in1, depth_deeper, units_deeper]); (try dsimp only [ktrTop]); omega)), by (first | omega | ((try simp only [depth_under_make, units_under_make, depth_in1, units_in1, depth_deeper, units_deeper]); (try dsimp only [ktrTop]); omega))⟩)) (pmu1 (by assumption)) (T.mono (by intro p hp; simp only [List.mem_cons, hp, or_true])) ⟨f1, by (((repeat' (first | assumption | exact List.forall_mem_nil _ | exact off_nil | refine off_snoc ?_ ?_ | refine List.forall_mem_cons.mpr ⟨?_, ?_⟩)) <;> (try dsimp only) <;> first | assumption | exact Nat.ne_of_lt (by assumption) | exact Nat.ne_of_gt (by assumption) | exact Nat.ne_of_gt (by omega) | exact Nat.ne_of_lt (by omega) | exact allLt_ne (by assumption) | exact allLt_ne (rt1 (by assumption)) | exact allLt_ne (rt2 (by assumption)) | exact allLt_ne (rt3 (by assumption)) | exact allLt_ne (rt4 (by assumption)) | exact allLt_ne (rt5 (by assumption)) | exact fun p hp => Nat.ne_of_lt (‹∀ p ∈ _, p.1 < _› p hp) | exact fun p hp => Nat.ne_of_lt (Nat.lt_trans (‹∀ p ∈ _, p.1 < _› p hp) (by omega)) | exact allLt_ne2 (by assumption) (by omega) | exact allLt_ne2 (rt1 (by assumption)) (by omega) | exact allLt_ne2 (rt2 (by assumption)) (by omega) | exact allLt_ne2 (rt3 (by assumption)) (by omega))), by (((repeat' (first | assumption | exact List.forall_mem_nil _ | exact off_nil | refine off_snoc ?_ ?_ | refine List.forall_mem_cons.mpr ⟨?_, ?_⟩)) <;> (try dsimp only) <;> first | assumption | exact Nat.ne_of_lt (by assumption) | exact Nat.ne_of_gt (by assumption) | exact Nat.ne_of_gt (by omega) | exact Nat.ne_of_lt (by omega) | exact allLt_ne (by assumption) | exact allLt_ne (rt1 (by assumption)) | exact allLt_ne (rt2 (by assumption)) | exact allLt_ne (rt3 (by assumption)) | exact allLt_ne (rt4 (by assumption)) | exact allLt_ne (rt5 (by assumption)) | exact fun p hp => Nat.ne_of_lt (‹∀ p ∈ _, p.1 < _› p hp) | exact fun p hp => Nat.ne_of_lt (Nat.lt_trans (‹∀ p ∈ _, p.1 < _› p hp) (by omega)) | exact allLt_ne2 (by assumption) (by omega) | exact allLt_ne2 (rt1 (by assumption)) (by omega) | exact allLt_ne2 (rt2 (by assumption)) (by omega) | exact allLt_ne2 (rt3 (by assumption)) (by omega)))⟩ ⟨o1, by (((repeat' (first | assumption | exact List.forall_mem_nil _ | exact off_nil | refine off_snoc ?_ ?_ | refine List.forall_mem_cons.mpr ⟨?_, ?_⟩)) <;> (try dsimp only) <;> first | assumption | exact Nat.ne_of_lt (by assumption) | exact Nat.ne_of_gt (by assumption) | exact Nat.ne_of_gt (by omega) | exact Nat.ne_of_lt (by omega) | exact allLt_ne (by assumption) | exact allLt_ne (rt1 (by assumption)) | exact allLt_ne (rt2 (by assumption)) | exact allLt_ne (rt3 (by assumption)) | exact allLt_ne (rt4 (by assumption)) | exact allLt_ne (rt5 (by assumption)) | exact fun p hp => Nat.ne_of_lt (‹∀ p ∈ _, p.1 < _› p hp) | exact fun p hp => Nat.ne_of_lt (Nat.lt_trans (‹∀ p ∈ _, p.1 < _› p hp) (by omega)) | exact allLt_ne2 (by assumption) (by omega) | exact allLt_ne2 (rt1 (by assumption)) (by omega) | exact allLt_ne2 (rt2 (by assumption)) (by omega) | exact allLt_ne2 (rt3 (by assumption)) (by omega))), by (((repeat' (first | assumption | exact List.forall_mem_nil _ | exact off_nil | refine off_snoc ?_ ?_ | refine List.forall_mem_cons.mpr ⟨?_, ?_⟩)) <;> (try dsimp only) <;> first | assumption | exact Nat.ne_of_lt (by assumption) | exact Nat.ne_of_gt (by assumption) | exact Nat.ne_of_gt (by omega) | exact Nat.ne_of_lt (by omega) | exact allLt_ne (by assumption) | exact allLt_ne (rt1 (by assumption)) | exact allLt_ne (rt2 (by assumption)) | exact allLt_ne (rt3 (by assumption)) | exact allLt_ne (rt4 (by assumption)) | exact allLt_ne (rt5 (by assumption)) | exact fun p hp => Nat.ne_of_lt (‹∀ p ∈ _, p.1 < _› p hp) | exact fun p hp => Nat.ne_of_lt (Nat.lt_trans (‹∀ p ∈ _, p.1 < _› p hp) (by omega)) | exact allLt_ne2 (by assumption) (by omega) | exact allLt_ne2 (rt1 (by assumption)) (by omega) | exact allLt_ne2 (rt2 (by assumption)) (by omega) | exact allLt_ne2 (rt3 (by assumption)) (by omega)))⟩ (by omega) (by omega) hb2 ?_)
  intro v t₁ t₂ h₃ k₃ hv F₃ N₃
  have ev : v = ((enc ns lg sy row).st : Int) := by rw [hv, hpos, show (((enc ns lg sy row).n + lg : Nat) : Int).toNat - lg = (enc ns lg sy row).n from Nat.add_sub_cancel _ _]; exact D1
  subst ev
  dsimp only [List.cons_append, List.nil_append, de] at *
  ((try dsimp only); repeat' (first | ((with_reducible first | refine nq_next ?_ | refine nq_ret ?_ | refine ng_next ?_ | refine ng_ret ?_ | refine nq_cont ?_ | refine nq_brk ?_ | refine ng_cont ?_ | refine ng_brk ?_); (try dsimp only)) | (k_unfold; (try dsimp only)) | walk1 | (dsimp only; walk1) | (leave1; walk_say "STEP leave1"; try dsimp only)))
  refine Stop.go (fr_symbol (o := o) (f := f) (st := (enc ns lg sy row).st) (by (exact ⟨by assumption, by assumption, by assumption, by assumption, rfl, by (first | omega | ((try simp only [depth_under_make, units_under_make, depth_in1, units_in1, depth_deeper, units_deeper]); (try dsimp only [ktrTop]); omega)), by (first | omega | ((try simp only [depth_under_make, units_under_make, depth_in1, units_in1, depth_deeper, units_deeper]); (try dsimp only [ktrTop]); omega))⟩)) (by assumption) (T.mono (by intro p hp; simp only [List.mem_cons, hp, or_true])) E0.st ?_)
  intro v t₃ h₄ k₄ hv2 F₄ N₄
  rw [E0.is] at hv2
  dsimp only [List.cons_append, List.nil_append, de] at *
  ((try dsimp only); repeat' (first | ((with_reducible first | refine nq_next ?_ | refine nq_ret ?_ | refine ng_next ?_ | refine ng_ret ?_ | refine nq_cont ?_ | refine nq_brk ?_ | refine ng_cont ?_ | refine ng_brk ?_); (try dsimp only)) | (k_unfold; (try dsimp only)) | walk1 | (dsimp only; walk1) | (leave1; walk_say "STEP leave1"; try dsimp only)))
  refine Stop.go ?_
  refine' while_inv (σ := Un) (fun c => [(f.x, instObj 369 f.dx), (f.dx, dictOf [de w "table" f.k1 (.ref o.x), de w "state" f.k2 (.int (c.st : Int) c.ts)] 2), (ro.x, instObj 214 ro.dx), (ro.dx, dictOf [de w "data" ro.k1 (.bytes b ro.tb), de w "position" ro.k2 (.int c.pos c.tp)] 2), (_, lst c.vs c.cap)]) news (fun _ => []) [] (UnI ns lg sy row b) (fun c => row.length - c.k)
    ⟨1, (enc ns lg sy row).st, _, _, _, (Array.push #[] (.int v _)).toList, _⟩ (by assumption) (by assumption) ?ps ?hi ?turn
  case ps => ((repeat' (first | exact List.forall_mem_nil _ | refine List.forall_mem_cons.mpr ⟨by with_unfolding_all rfl, ?_⟩)))
  case hi =>
    refine ⟨Nat.le_refl _, hr1, ?_, rfl, ?_, D2, by show rc.pos - lg ≤ _; omega⟩
    · subst hv2
      rw [take1 hr1]
      exact push_are IntsAre.nil
    · show rc.pos - lg = _
      rw [hpos, Nat.sub_self, List.drop_zero]; omega
  case turn =>
    rintro ⟨k, st, ts, pos, tp, vs, cap⟩ u h tk I F N
    have I' := I
    first | refine el7 (I) fun k1 k2 ivs ist ipos ilow ipl => ?_ | obtain ⟨k1, k2, ivs, ist, ipos, ilow, ipl⟩ := I
    dsimp only [List.cons_append, List.nil_append, de] at *
    have hvl : vs.length = k := by rw [ivs.length, up_len, List.length_take]; omega
    ((try dsimp only); repeat' (first | ((with_reducible first | refine nq_next ?_ | refine nq_ret ?_ | refine ng_next ?_ | refine ng_ret ?_ | refine nq_cont ?_ | refine nq_brk ?_ | refine ng_cont ?_ | refine ng_brk ?_); (try dsimp only)) | (k_unfold; (try dsimp only)) | walk1 | (dsimp only; walk1) | (leave1; walk_say "STEP leave1"; try dsimp only)))
    refine len_led (vs := vs) (cap := cap) (by assumption) (.tail _ (.tail _ (.tail _ (.tail _ (.head _))))) (by omega) ?_
    intro kk tk1 tk2 hkk
    rw [hvl] at hkk
    ((try dsimp only); repeat' (first | ((with_reducible first | refine nq_next ?_ | refine nq_ret ?_ | refine ng_next ?_ | refine ng_ret ?_ | refine nq_cont ?_ | refine nq_brk ?_ | refine ng_cont ?_ | refine ng_brk ?_); (try dsimp only)) | (k_unfold; (try dsimp only)) | walk1 | (dsimp only; walk1) | (leave1; walk_say "STEP leave1"; try dsimp only)))
    · have hk : k < row.length := by omega
      first | refine el8 (un_turn T.tb R I' hk) fun v1 v2 v3 v4 v5 v6 v7 v8 => ?_ | obtain ⟨v1, v2, v3, v4, v5, v6, v7, v8⟩ := un_turn T.tb R I' hk
      dsimp only at v1 v2 v3 v5 v6
      refine Stop.go (fr_step (o := o) (f := f) (ro := ro) (rc := ⟨pos, tp⟩) (rest := _ :: news) (by (exact ⟨by assumption, by assumption, by assumption, by assumption, rfl, by (first | omega | ((try simp only [depth_under_make, units_under_make, depth_in1, units_in1, depth_deeper, units_deeper]); (try dsimp only [ktrTop]); omega)), by (first | omega | ((try simp only [depth_under_make, units_under_make, depth_in1, units_in1, depth_deeper, units_deeper]); (try dsimp only [ktrTop]); omega))⟩)) (by assumption) (T.mono (by intro p hp; simp only [List.mem_cons, hp, or_true])) ⟨f1, by (((repeat' (first | assumption | exact List.forall_mem_nil _ | exact off_nil | refine off_snoc ?_ ?_ | refine List.forall_mem_cons.mpr ⟨?_, ?_⟩)) <;> (try dsimp only) <;> first | assumption | exact Nat.ne_of_lt (by assumption) | exact Nat.ne_of_gt (by assumption) | exact Nat.ne_of_gt (by omega) | exact Nat.ne_of_lt (by omega) | exact allLt_ne (by assumption) | exact allLt_ne (rt1 (by assumption)) | exact allLt_ne (rt2 (by assumption)) | exact allLt_ne (rt3 (by assumption)) | exact allLt_ne (rt4 (by assumption)) | exact allLt_ne (rt5 (by assumption)) | exact fun p hp => Nat.ne_of_lt (‹∀ p ∈ _, p.1 < _› p hp) | exact fun p hp => Nat.ne_of_lt (Nat.lt_trans (‹∀ p ∈ _, p.1 < _› p hp) (by omega)) | exact allLt_ne2 (by assumption) (by omega) | exact allLt_ne2 (rt1 (by assumption)) (by omega) | exact allLt_ne2 (rt2 (by assumption)) (by omega) | exact allLt_ne2 (rt3 (by assumption)) (by omega))), by (((repeat' (first | assumption | exact List.forall_mem_nil _ | exact off_nil | refine off_snoc ?_ ?_ | refine List.forall_mem_cons.mpr ⟨?_, ?_⟩)) <;> (try dsimp only) <;> first | assumption | exact Nat.ne_of_lt (by assumption) | exact Nat.ne_of_gt (by assumption) | exact Nat.ne_of_gt (by omega) | exact Nat.ne_of_lt (by omega) | exact allLt_ne (by assumption) | exact allLt_ne (rt1 (by assumption)) | exact allLt_ne (rt2 (by assumption)) | exact allLt_ne (rt3 (by assumption)) | exact allLt_ne (rt4 (by assumption)) | exact allLt_ne (rt5 (by assumption)) | exact fun p hp => Nat.ne_of_lt (‹∀ p ∈ _, p.1 < _› p hp) | exact fun p hp => Nat.ne_of_lt (Nat.lt_trans (‹∀ p ∈ _, p.1 < _› p hp) (by omega)) | exact allLt_ne2 (by assumption) (by omega) | exact allLt_ne2 (rt1 (by assumption)) (by omega) | exact allLt_ne2 (rt2 (by assumption)) (by omega) | exact allLt_ne2 (rt3 (by assumption)) (by omega)))⟩ ⟨o1, by (((repeat' (first | assumption | exact List.forall_mem_nil _ | exact off_nil | refine off_snoc ?_ ?_ | refine List.forall_mem_cons.mpr ⟨?_, ?_⟩)) <;> (try dsimp only) <;> first | assumption | exact Nat.ne_of_lt (by assumption) | exact Nat.ne_of_gt (by assumption) | exact Nat.ne_of_gt (by omega) | exact Nat.ne_of_lt (by omega) | exact allLt_ne (by assumption) | exact allLt_ne (rt1 (by assumption)) | exact allLt_ne (rt2 (by assumption)) | exact allLt_ne (rt3 (by assumption)) | exact allLt_ne (rt4 (by assumption)) | exact allLt_ne (rt5 (by assumption)) | exact fun p hp => Nat.ne_of_lt (‹∀ p ∈ _, p.1 < _› p hp) | exact fun p hp => Nat.ne_of_lt (Nat.lt_trans (‹∀ p ∈ _, p.1 < _› p hp) (by omega)) | exact allLt_ne2 (by assumption) (by omega) | exact allLt_ne2 (rt1 (by assumption)) (by omega) | exact allLt_ne2 (rt2 (by assumption)) (by omega) | exact allLt_ne2 (rt3 (by assumption)) (by omega))), by (((repeat' (first | assumption | exact List.forall_mem_nil _ | exact off_nil | refine off_snoc ?_ ?_ | refine List.forall_mem_cons.mpr ⟨?_, ?_⟩)) <;> (try dsimp only) <;> first | assumption | exact Nat.ne_of_lt (by assumption) | exact Nat.ne_of_gt (by assumption) | exact Nat.ne_of_gt (by omega) | exact Nat.ne_of_lt (by omega) | exact allLt_ne (by assumption) | exact allLt_ne (rt1 (by assumption)) | exact allLt_ne (rt2 (by assumption)) | exact allLt_ne (rt3 (by assumption)) | exact allLt_ne (rt4 (by assumption)) | exact allLt_ne (rt5 (by assumption)) | exact fun p hp => Nat.ne_of_lt (‹∀ p ∈ _, p.1 < _› p hp) | exact fun p hp => Nat.ne_of_lt (Nat.lt_trans (‹∀ p ∈ _, p.1 < _› p hp) (by omega)) | exact allLt_ne2 (by assumption) (by omega) | exact allLt_ne2 (rt1 (by assumption)) (by omega) | exact allLt_ne2 (rt2 (by assumption)) (by omega) | exact allLt_ne2 (rt3 (by assumption)) (by omega)))⟩ v1 v2 (by show pos ≤ _; omega) hb2 ?_)
      intro v t₁ t₂ h₃ k₃ hv F₃ N₃
      have ev : v = ((enc ns lg sy (row.drop k)).st : Int) := by rw [hv]; exact v5
      subst ev
      dsimp only [List.cons_append, List.nil_append, de] at *
      ((try dsimp only); repeat' (first | ((with_reducible first | refine nq_next ?_ | refine nq_ret ?_ | refine ng_next ?_ | refine ng_ret ?_ | refine nq_cont ?_ | refine nq_brk ?_ | refine ng_cont ?_ | refine ng_brk ?_); (try dsimp only)) | (k_unfold; (try dsimp only)) | walk1 | (dsimp only; walk1) | (leave1; walk_say "STEP leave1"; try dsimp only)))
      refine Stop.go (fr_symbol (o := o) (f := f) (st := (enc ns lg sy (row.drop k)).st) (by (exact ⟨by assumption, by assumption, by assumption, by assumption, rfl, by (first | omega | ((try simp only [depth_under_make, units_under_make, depth_in1, units_in1, depth_deeper, units_deeper]); (try dsimp only [ktrTop]); omega)), by (first | omega | ((try simp only [depth_under_make, units_under_make, depth_in1, units_in1, depth_deeper, units_deeper]); (try dsimp only [ktrTop]); omega))⟩)) (by assumption) (T.mono (by intro p hp; simp only [List.mem_cons, hp, or_true])) v4 ?_)
      intro v t₃ h₄ k₄ hv2 F₄ N₄
      rw [v8] at hv2
      dsimp only [List.cons_append, List.nil_append, de] at *
      ((try dsimp only); repeat' (first | ((with_reducible first | refine nq_next ?_ | refine nq_ret ?_ | refine ng_next ?_ | refine ng_ret ?_ | refine nq_cont ?_ | refine nq_brk ?_ | refine ng_cont ?_ | refine ng_brk ?_); (try dsimp only)) | (k_unfold; (try dsimp only)) | walk1 | (dsimp only; walk1) | (leave1; walk_say "STEP leave1"; try dsimp only)))
      refine FEnd.at ⟨k + 1, (enc ns lg sy (row.drop k)).st, _, pos - bitF ns sy lg st, _, (vs.toArray.push (.int v _)).toList, _⟩ (by assumption) (by assumption) (by ((repeat' (first | exact List.forall_mem_nil _ | refine List.forall_mem_cons.mpr ⟨by with_unfolding_all rfl, ?_⟩)))) (by (((repeat (first | (with_reducible exact fun _ _ _ => rfl) | ((with_reducible refine same_lay ?nz50 ?_); (case nz50 => rfl)) | ((with_reducible refine same_kst ?nz50 ?_); (case nz50 => rfl)))); done))) ⟨⟨by show 1 ≤ k + 1; omega, by show k + 1 ≤ _; omega, ?_, rfl, v6, v7, by show pos - _ ≤ _; omega⟩, by show row.length - (k + 1) < row.length - k; omega⟩
      rw [hv2, take_next hk]
      exact push_are ivs
    · have hk : k = row.length := by omega
      subst hk
      have hp0 : pos = 0 := by rw [ipos, drop_at (by omega), List.drop_eq_nil_of_le (by omega)]; rfl
      subst hp0
      refine Stop.go (br_left (o := ro) (c := ⟨0, tp⟩) (by (exact ⟨by assumption, by assumption, by assumption, by assumption, rfl, by (first | omega | ((try simp only [depth_under_make, units_under_make, depth_in1, units_in1, depth_deeper, units_deeper]); (try dsimp only [ktrTop]); omega)), by (first | omega | ((try simp only [depth_under_make, units_under_make, depth_in1, units_in1, depth_deeper, units_deeper]); (try dsimp only [ktrTop]); omega))⟩)) (pmu2 (by assumption)) ⟨o1, by (((repeat' (first | assumption | exact List.forall_mem_nil _ | exact off_nil | refine off_snoc ?_ ?_ | refine List.forall_mem_cons.mpr ⟨?_, ?_⟩)) <;> (try dsimp only) <;> first | assumption | exact Nat.ne_of_lt (by assumption) | exact Nat.ne_of_gt (by assumption) | exact Nat.ne_of_gt (by omega) | exact Nat.ne_of_lt (by omega) | exact allLt_ne (by assumption) | exact allLt_ne (rt1 (by assumption)) | exact allLt_ne (rt2 (by assumption)) | exact allLt_ne (rt3 (by assumption)) | exact allLt_ne (rt4 (by assumption)) | exact allLt_ne (rt5 (by assumption)) | exact fun p hp => Nat.ne_of_lt (‹∀ p ∈ _, p.1 < _› p hp) | exact fun p hp => Nat.ne_of_lt (Nat.lt_trans (‹∀ p ∈ _, p.1 < _› p hp) (by omega)) | exact allLt_ne2 (by assumption) (by omega) | exact allLt_ne2 (rt1 (by assumption)) (by omega) | exact allLt_ne2 (rt2 (by assumption)) (by omega) | exact allLt_ne2 (rt3 (by assumption)) (by omega))), by (((repeat' (first | assumption | exact List.forall_mem_nil _ | exact off_nil | refine off_snoc ?_ ?_ | refine List.forall_mem_cons.mpr ⟨?_, ?_⟩)) <;> (try dsimp only) <;> first | assumption | exact Nat.ne_of_lt (by assumption) | exact Nat.ne_of_gt (by assumption) | exact Nat.ne_of_gt (by omega) | exact Nat.ne_of_lt (by omega) | exact allLt_ne (by assumption) | exact allLt_ne (rt1 (by assumption)) | exact allLt_ne (rt2 (by assumption)) | exact allLt_ne (rt3 (by assumption)) | exact allLt_ne (rt4 (by assumption)) | exact allLt_ne (rt5 (by assumption)) | exact fun p hp => Nat.ne_of_lt (‹∀ p ∈ _, p.1 < _› p hp) | exact fun p hp => Nat.ne_of_lt (Nat.lt_trans (‹∀ p ∈ _, p.1 < _› p hp) (by omega)) | exact allLt_ne2 (by assumption) (by omega) | exact allLt_ne2 (rt1 (by assumption)) (by omega) | exact allLt_ne2 (rt2 (by assumption)) (by omega) | exact allLt_ne2 (rt3 (by assumption)) (by omega)))⟩ ?_)
      intro t₁ h₃ k₃ F₃ N₃
      dsimp only [List.cons_append, List.nil_append, de] at *
      ((try dsimp only); repeat' (first | ((with_reducible first | refine nq_next ?_ | refine nq_ret ?_ | refine ng_next ?_ | refine ng_ret ?_ | refine nq_cont ?_ | refine nq_brk ?_ | refine ng_cont ?_ | refine ng_brk ?_); (try dsimp only)) | (k_unfold; (try dsimp only)) | walk1 | (dsimp only; walk1) | (leave1; walk_say "STEP leave1"; try dsimp only)))
      rw [List.take_length] at ivs
      exact hret _ vs cap _ _ ivs (by assumption) (drop0 (drop0 (drop0 (drop0 (by assumption))))) (by (((repeat' (first | assumption | exact List.forall_mem_nil _ | exact off_nil | refine off_snoc ?_ ?_ | refine List.forall_mem_cons.mpr ⟨?_, ?_⟩)) <;> (try dsimp only) <;> first | assumption | exact Nat.ne_of_lt (by assumption) | exact Nat.ne_of_gt (by assumption) | exact Nat.ne_of_gt (by omega) | exact Nat.ne_of_lt (by omega) | exact allLt_ne (by assumption) | exact allLt_ne (rt1 (by assumption)) | exact allLt_ne (rt2 (by assumption)) | exact allLt_ne (rt3 (by assumption)) | exact allLt_ne (rt4 (by assumption)) | exact allLt_ne (rt5 (by assumption)) | exact fun p hp => Nat.ne_of_lt (‹∀ p ∈ _, p.1 < _› p hp) | exact fun p hp => Nat.ne_of_lt (Nat.lt_trans (‹∀ p ∈ _, p.1 < _› p hp) (by omega)) | exact allLt_ne2 (by assumption) (by omega) | exact allLt_ne2 (rt1 (by assumption)) (by omega) | exact allLt_ne2 (rt2 (by assumption)) (by omega) | exact allLt_ne2 (rt3 (by assumption)) (by omega))))
end Kunpack_
theorem unpack_ {w : World} {mean : ExcName → Option Value} {mg : Str → Option Value} {mb : Str → Option Value} {dp : Nat} {un : Nat} {gd : Option (List Code)} {cn : Str} {cs : Scope} {a : Addr} {ccd : Value} {cl : List (Str × Addr)} {outer : List Env} {A₀ : Around} {base : Heap} {h₀ : Heap} {L : Addr} {m : Str → Option Value} {news : List (Addr × Obj)} {s : Shared} {Q : Value → Shared → Prop} {E : Value → Shared → Prop} : unpack_S w mean mg mb dp un gd cn cs a ccd cl outer A₀ base h₀ L m news s Q E := pm_all (P := fun p => unpack_S p.w p.mean p.mg p.mb p.dp p.un p.gd p.cn p.cs p.a p.ccd p.cl p.outer p.A₀ p.base p.h₀ p.L p.m p.news p.s p.Q p.E) Kunpack_.walk { pmD with w := w, mean := mean, mg := mg, mb := mb, dp := dp, un := un, gd := gd, cn := cn, cs := cs, a := a, ccd := ccd, cl := cl, outer := outer, A₀ := A₀, base := base, h₀ := h₀, L := L, m := m, news := news, s := s, Q := Q, E := E }
end
section -- E24
theorem walk_off_E24 : True := by
  w_top off
  exact trivial
section
variable {w : World} {mean : ExcName → Option Value} {mg mb : Str → Option Value} {dp un : Nat} {gd : Option (List Code)} {cn : Str} {cs : Scope} {a : Addr} {ccd : Value} {cl : List (Str × Addr)} {outer : List Env} {A₀ : Around} {base h₀ : Heap} {L : Addr} {m : Str → Option Value} {rest news : List (Addr × Obj)} {s : Shared} {Q E : Value → Shared → Prop}
theorem up_sum : ∀ (l : List Nat), (up l).sum = (l.sum : Int)
  | [] => rfl
  | a :: l => by
    have := up_sum l
    unfold up at this ⊢
    rw [List.map_cons, List.sum_cons, this, List.sum_cons, Int.natCast_add]
def mn (ns : List Int) : List Nat := ns.map Int.natAbs
theorem mn_get {ns : List Int} {s : Nat} (h : s < ns.length) : (up (mn ns)).getD s 0 = (((ns.getD s 0).natAbs : Nat) : Int) := by
  rw [up_getD]; simp [mn, List.getD_eq_getElem?_getD, h]
theorem mn_len (ns : List Int) : (up (mn ns)).length = ns.length := by rw [up_len]; simp [mn]
theorem take_map_next {l : List Nat} {i : Nat} {f : Nat → Nat} (h : i < l.length) : up ((l.take (i + 1)).map f) = up ((l.take i).map f) ++ [(f (l.getD i 0) : Int)] := by
  have : l[i]? = some (l.getD i 0) := by rw [List.getD_eq_getElem?_getD, List.getElem?_eq_getElem h]; rfl
  rw [take_succ_get this]; unfold up; rw [List.map_append, List.map_append]; rfl
end
def row_right_S (w : World) (mean : ExcName → Option Value) (mg : Str → Option Value) (mb : Str → Option Value) (dp : Nat) (un : Nat) (gd : Option (List Code)) (cn : Str) (cs : Scope) (a : Addr) (ccd : Value) (cl : List (Str × Addr)) (outer : List Env) (A₀ : Around) (base : Heap) (h₀ : Heap) (L : Addr) (m : Str → Option Value) (news : List (Addr × Obj)) (s : Shared) : Prop :=
  ∀ {Q : Value → Shared → Prop} {ns : List Int} {lg : Nat} {sy row : List Nat} {o : TBo} {lr lma : Addr} {vr vma : List Value} {cr cma : Nat} {t : Tok} (C : Cx w mean mg mb dp un cs outer A₀ base h₀ L m s.heap 20) (N : News h₀ L s.heap news) (T : TabIn w ns lg sy o news) (hn : ns.length ≤ 11) (hm : (lr, lst vr cr) ∈ news) (hi : IntsAre vr (up row)) (hma : (lma, lst vma cma) ∈ news) (hmi : IntsAre vma (up (mn ns))) (R : Rw ns row) (hret : ∀ h' tk', Fr h₀ L h' m → News h₀ L h' news → Q (.bool true) { s with heap := h', toks := tk' }),
   wpG (model PySem.Challenge.rw_pq1208_01.row.prog w) (ktrTop dp un gd cn cs L a ccd cl outer) (call (.ref 486) [.ref o.x, .int (lg : Int) t, .ref lma, .ref lr]) Q s
namespace Krow_right_
noncomputable def pt : Pm := pmAt fun p => row_right_S p.w p.mean p.mg p.mb p.dp p.un p.gd p.cn p.cs p.a p.ccd p.cl p.outer p.A₀ p.base p.h₀ p.L p.m p.news p.s
noncomputable def news : List (Addr × Obj) := pt.news
noncomputable def s : Shared := pt.s
set_option maxRecDepth 100000 in
set_option maxHeartbeats 8000000 in
theorem walk : row_right_S pt.w pt.mean pt.mg pt.mb pt.dp pt.un pt.gd pt.cn pt.cs pt.a pt.ccd pt.cl pt.outer pt.A₀ pt.base pt.h₀ pt.L pt.m news s := by
  unfold row_right_S
  intro Q ns lg sy row o lr lma vr vma cr cma t C N T hn hm hi hma hmi R hret
  refine Cx.el C fun B F X Tp hk hd hu => ?_
  have E0 := enc_ok T.tb R.ne R.many
  have hl5 := T.tb.l5
  have hl6 := T.tb.l6
  have hrl := R.len
  have hr1 : 1 ≤ row.length := List.length_pos_iff.mpr R.ne
  have hvl : vr.length = row.length := by rw [hi.length, up_len]
  have hn0 := E0.n
  have hz := T.tb.z
  have N₁ := News.put N (News.put N N hma) hm
  clear N
  refine wpG_call ?_
  k_dflt (refine' codeG_defC ?k1 ?k2 ?k3 ?k4 ?k5 ?kA ?kF ?kK ?k6 ?k7 ?k8 ?k9 ?kB ?kD ?_ ?c2 ?c3 ?c4; (case kA => exact rfl); (case kF => exact rfl); (case kK => first | assumption | exact rfl); (case k1 => k_asm); (case k2 => k_asm); (case k3 => k_asm); (case k4 => k_asm); (case k5 => k_asm); (case k6 => k_is); (case k7 => k_is); (case k8 => ktr_room); (case k9 => exact BindsTo.of_eq rfl); (case kB => exact rfl); (case kD => decide +kernel); (case c2 => exact rfl); (case c3 => exact rfl); (case c4 => exact rfl); k_whole; intro g' Lc h' tk' cells' FG' F' N' Y' B' X' T' l1c; (try k_lt l1c); k_cells Y'; (try simp only [List.cons_append, List.nil_append] at N'); (try dsimp only); (try k_lift B'); (try k_fold))
  rename_i oc1 oc2 dc1 dc2
  first | refine el3 (l1c) fun y1 y2 y3 => ?_ | obtain ⟨y1, y2, y3⟩ := l1c
  have c1 : ∀ p ∈ news, p.1 ≠ Lc + 1 := fun p hp => Nat.ne_of_lt (Nat.lt_succ_of_lt (allLt_mem y3 p hp))
  have c2 : ∀ p ∈ news, p.1 ≠ Lc + 1 + 1 := fun p hp => Nat.ne_of_lt (Nat.lt_succ_of_lt (Nat.lt_succ_of_lt (allLt_mem y3 p hp)))
  have c3 : @Ne Nat lr (Lc + 1) := Nat.ne_of_lt (Nat.lt_succ_of_lt y1)
  have c4 : @Ne Nat lr (Lc + 1 + 1) := Nat.ne_of_lt (Nat.lt_succ_of_lt (Nat.lt_succ_of_lt y1))
  have c5 : @Ne Nat lma (Lc + 1) := Nat.ne_of_lt (Nat.lt_succ_of_lt y2)
  have c6 : @Ne Nat lma (Lc + 1 + 1) := Nat.ne_of_lt (Nat.lt_succ_of_lt (Nat.lt_succ_of_lt y2))
  have c7 : @Ne Nat (Lc + 1) (Lc + 1 + 1) := Nat.ne_of_lt (Nat.lt_succ_self _)
  have c8 : @Ne Nat (Lc + 1 + 1) (Lc + 1) := Ne.symm c7
  (((try dsimp only); (repeat (with_reducible first | refine nq_next ?_ | refine nq_ret ?_ | refine ng_next ?_ | refine ng_ret ?_ | refine nq_cont ?_ | refine nq_brk ?_ | refine ng_cont ?_ | refine ng_brk ?_)); (with_reducible refine execsG_any ?_); ((try dsimp only); repeat' (first | ((with_reducible first | refine nq_next ?_ | refine nq_ret ?_ | refine ng_next ?_ | refine ng_ret ?_ | refine nq_cont ?_ | refine nq_brk ?_ | refine ng_cont ?_ | refine ng_brk ?_); (try dsimp only)) | (k_unfold; (try dsimp only)) | walk1 | (dsimp only; walk1) | (leave1; walk_say "STEP leave1"; try dsimp only)))))
  have e1 : (2 : Int) ^ (lg : Int).toNat = ((2 ^ lg : Nat) : Int) := by rw [Int.toNat_natCast, two_pow_cast]
  simp only [e1] at *
  (((try dsimp only); (repeat (with_reducible first | refine nq_next ?_ | refine nq_ret ?_ | refine ng_next ?_ | refine ng_ret ?_ | refine nq_cont ?_ | refine nq_brk ?_ | refine ng_cont ?_ | refine ng_brk ?_)); with_reducible refine execsG_cons ?_))
  refine G_Assign_Name ?_
  refine G_Call ?_
  ((try dsimp only); repeat' (first | ((with_reducible first | refine nq_next ?_ | refine nq_ret ?_ | refine ng_next ?_ | refine ng_ret ?_ | refine nq_cont ?_ | refine nq_brk ?_ | refine ng_cont ?_ | refine ng_brk ?_); (try dsimp only)) | (k_unfold; (try dsimp only)) | walk1 | (dsimp only; walk1) | (leave1; walk_say "STEP leave1"; try dsimp only)))
  ((k_dflt (first | (refine' gc_K0' ?k1z51 ?k3z51 ?k2z51 ?_; (case k1z51 => k_asm); (case k3z51 => k_asm); (case k2z51 => k_is)) | (refine' gc_K ?k1z51 ?k2z51 ?_; (case k1z51 => k_asm); (case k2z51 => k_is)))))
  ((try dsimp only); repeat' (first | ((with_reducible first | refine nq_next ?_ | refine nq_ret ?_ | refine ng_next ?_ | refine ng_ret ?_ | refine nq_cont ?_ | refine nq_brk ?_ | refine ng_cont ?_ | refine ng_brk ?_); (try dsimp only)) | (k_unfold; (try dsimp only)) | walk1 | (dsimp only; walk1) | (leave1; walk_say "STEP leave1"; try dsimp only)))
  refine pack_ (o := o) (row := row) (by (exact ⟨by assumption, by assumption, by assumption, by assumption, rfl, by (first | omega | ((try simp only [depth_under_make, units_under_make, depth_in1, units_in1, depth_deeper, units_deeper]); (try dsimp only [ktrTop]); omega)), by (first | omega | ((try simp only [depth_under_make, units_under_make, depth_in1, units_in1, depth_deeper, units_deeper]); (try dsimp only [ktrTop]); omega))⟩)) (by assumption) (T.mono (by intro p hp; simp only [List.mem_cons, hp, or_true])) hn (.tail _ (.tail _ (.head _))) hi R ?_
  intro b tb h₁ k₁ hb F₁ N₂
  ((try dsimp only); repeat' (first | ((with_reducible first | refine nq_next ?_ | refine nq_ret ?_ | refine ng_next ?_ | refine ng_ret ?_ | refine nq_cont ?_ | refine nq_brk ?_ | refine ng_cont ?_ | refine ng_brk ?_); (try dsimp only)) | (k_unfold; (try dsimp only)) | walk1 | (dsimp only; walk1) | (leave1; walk_say "STEP leave1"; try dsimp only)))
  (((try dsimp only); (repeat (with_reducible first | refine nq_next ?_ | refine nq_ret ?_ | refine ng_next ?_ | refine ng_ret ?_ | refine nq_cont ?_ | refine nq_brk ?_ | refine ng_cont ?_ | refine ng_brk ?_)); (with_reducible refine execsG_any ?_); ((try dsimp only); repeat' (first | ((with_reducible first | refine nq_next ?_ | refine nq_ret ?_ | refine ng_next ?_ | refine ng_ret ?_ | refine nq_cont ?_ | refine nq_brk ?_ | refine ng_cont ?_ | refine ng_brk ?_); (try dsimp only)) | (k_unfold; (try dsimp only)) | walk1 | (dsimp only; walk1) | (leave1; walk_say "STEP leave1"; try dsimp only)))))
  refine Stop.go (bits_of_ (by (exact ⟨by assumption, by assumption, by assumption, by assumption, rfl, by (first | omega | ((try simp only [depth_under_make, units_under_make, depth_in1, units_in1, depth_deeper, units_deeper]); (try dsimp only [ktrTop]); omega)), by (first | omega | ((try simp only [depth_under_make, units_under_make, depth_in1, units_in1, depth_deeper, units_deeper]); (try dsimp only [ktrTop]); omega))⟩)) (by assumption) hb (by omega) ?_)
  intro nb tnb h₂ k₂ hnb F₂ N₃
  ((try dsimp only); repeat' (first | ((with_reducible first | refine nq_next ?_ | refine nq_ret ?_ | refine ng_next ?_ | refine ng_ret ?_ | refine nq_cont ?_ | refine nq_brk ?_ | refine ng_cont ?_ | refine ng_brk ?_); (try dsimp only)) | (k_unfold; (try dsimp only)) | walk1 | (dsimp only; walk1) | (leave1; walk_say "STEP leave1"; try dsimp only)))
  (((try dsimp only); (repeat (with_reducible first | refine nq_next ?_ | refine nq_ret ?_ | refine ng_next ?_ | refine ng_ret ?_ | refine nq_cont ?_ | refine nq_brk ?_ | refine ng_cont ?_ | refine ng_brk ?_)); (with_reducible refine execsG_any ?_); ((try dsimp only); repeat' (first | ((with_reducible first | refine nq_next ?_ | refine nq_ret ?_ | refine ng_next ?_ | refine ng_ret ?_ | refine nq_cont ?_ | refine nq_brk ?_ | refine ng_cont ?_ | refine ng_brk ?_); (try dsimp only)) | (k_unfold; (try dsimp only)) | walk1 | (dsimp only; walk1) | (leave1; walk_say "STEP leave1"; try dsimp only)))))
  refine Stop.go (LCg.ListComp_U (F₀ := by assumption) (by with_unfolding_all rfl) (by decide) (by rfl) (by decide) (by rfl) ?_)
  ((try dsimp only); repeat' (first | ((with_reducible first | refine nq_next ?_ | refine nq_ret ?_ | refine ng_next ?_ | refine ng_ret ?_ | refine nq_cont ?_ | refine nq_brk ?_ | refine ng_cont ?_ | refine ng_brk ?_); (try dsimp only)) | (k_unfold; (try dsimp only)) | walk1 | (dsimp only; walk1) | (leave1; walk_say "STEP leave1"; try dsimp only)))
  refine Stop.go ?_
  k_dflt (refine' sl_last (row := row) ?F ?N (.tail _ (.tail _ (.head _))) hi (by omega) ?_ ?s ?t; (case F => k_asm); (case N => k_asm); (case s => with_unfolding_all rfl); (case t => kmk_pure); k_whole)
  intro D1 w1 h₃ F₃ N₄ o1 a1
  have hw1 : w1.length = row.length - 1 := by rw [a1.length, up_len, List.length_take]; omega
  refine LCg.CompSrc.ledger rfl (by assumption) (by assumption) (.head _) (by size_fits) (fun g => comp_rest (fun i ys => IntsAre ys (up (((row.take (row.length - 1)).take i).map fun s => fl (ns.getD s 0).natAbs (2 ^ lg)))) (.inr ⟨_, .head _, rfl, _, rfl⟩) ?turn ?fin _ _ _ (Nat.add_zero _) IntsAre.nil)
  case turn =>
    rintro i v ys I oI Cc oC D m₂ h tk E' hin hP hI hC hm F N off ne
    obtain ⟨t, rfl, hil, hmem⟩ := row_at a1 (by simpa using hP)
    have hmem2 := List.mem_of_mem_take hmem
    have hmany := R.many _ hmem2
    have hsl := lt_of_many hmany
    have hmz := T.tb.many ((row.take (row.length - 1)).getD i 0)
    ((try dsimp only); repeat' (first | ((with_reducible first | refine nq_next ?_ | refine nq_ret ?_ | refine ng_next ?_ | refine ng_ret ?_ | refine nq_cont ?_ | refine nq_brk ?_ | refine ng_cont ?_ | refine ng_brk ?_); (try dsimp only)) | (k_unfold; (try dsimp only)) | walk1 | (dsimp only; walk1) | (leave1; walk_say "STEP leave1"; try dsimp only)))
    refine Stop.go (int_item (ns := up (mn ns)) (by assumption) (.tail _ (.tail _ (.tail _ (.tail _ (.tail _ (.tail _ (.tail _ (.head _)))))))) hmi (by omega) (by rw [mn_len]; omega) (by omega) ?_)
    intro vm tm hvm
    have evm : vm = (((ns.getD ((row.take (row.length - 1)).getD i 0) 0).natAbs : Nat) : Int) := by rw [hvm]; exact mn_get hsl
    ((try dsimp only); repeat' (first | ((with_reducible first | refine nq_next ?_ | refine nq_ret ?_ | refine ng_next ?_ | refine ng_ret ?_ | refine nq_cont ?_ | refine nq_brk ?_ | refine ng_cont ?_ | refine ng_brk ?_); (try dsimp only)) | (k_unfold; (try dsimp only)) | walk1 | (dsimp only; walk1) | (leave1; walk_say "STEP leave1"; try dsimp only)))
    refine Stop.go (floor_ (n' := (ns.getD ((row.take (row.length - 1)).getD i 0) 0).natAbs) (z := 2 ^ lg) (by (exact ⟨by assumption, by assumption, by assumption, by assumption, rfl, by (first | omega | ((try simp only [depth_under_make, units_under_make, depth_in1, units_in1, depth_deeper, units_deeper]); (try dsimp only [ktrTop]); omega)), by (first | omega | ((try simp only [depth_under_make, units_under_make, depth_in1, units_in1, depth_deeper, units_deeper]); (try dsimp only [ktrTop]); omega))⟩)) (by assumption) evm rfl hmany hmz hz.2 ?_)
    intro t₁ h₄ k₄ F₄ N₅
    ((try dsimp only); repeat' (first | ((with_reducible first | refine nq_next ?_ | refine nq_ret ?_ | refine ng_next ?_ | refine ng_ret ?_ | refine nq_cont ?_ | refine nq_brk ?_ | refine ng_cont ?_ | refine ng_brk ?_); (try dsimp only)) | (k_unfold; (try dsimp only)) | walk1 | (dsimp only; walk1) | (leave1; walk_say "STEP leave1"; try dsimp only)))
    refine CEnd.at (by assumption) (by assumption) ?_
    rw [take_map_next hil]
    exact hI.append (IntsAre.cons _ _ IntsAre.nil)
  case fin =>
    intro ys hys D h tk F N off
    rw [List.size_toArray, hw1, List.take_of_length_le (by rw [List.length_take]; omega)] at hys
    ((try dsimp only); repeat' (first | ((with_reducible first | refine nq_next ?_ | refine nq_ret ?_ | refine ng_next ?_ | refine ng_ret ?_ | refine nq_cont ?_ | refine nq_brk ?_ | refine ng_cont ?_ | refine ng_brk ?_); (try dsimp only)) | (k_unfold; (try dsimp only)) | walk1 | (dsimp only; walk1) | (leave1; walk_say "STEP leave1"; try dsimp only)))
    have N₆ := drop0 (drop0 (by assumption))
    (((try dsimp only); (repeat (with_reducible first | refine nq_next ?_ | refine nq_ret ?_ | refine ng_next ?_ | refine ng_ret ?_ | refine nq_cont ?_ | refine nq_brk ?_ | refine ng_cont ?_ | refine ng_brk ?_)); (with_reducible refine execsG_any ?_); ((try dsimp only); repeat' (first | ((with_reducible first | refine nq_next ?_ | refine nq_ret ?_ | refine ng_next ?_ | refine ng_ret ?_ | refine nq_cont ?_ | refine nq_brk ?_ | refine ng_cont ?_ | refine ng_brk ?_); (try dsimp only)) | (k_unfold; (try dsimp only)) | walk1 | (dsimp only; walk1) | (leave1; walk_say "STEP leave1"; try dsimp only)))))
    refine Stop.go (LCg.ListComp_U (F₀ := by assumption) (by with_unfolding_all rfl) (by decide) (by rfl) (by decide) (by rfl) ?_)
    ((try dsimp only); repeat' (first | ((with_reducible first | refine nq_next ?_ | refine nq_ret ?_ | refine ng_next ?_ | refine ng_ret ?_ | refine nq_cont ?_ | refine nq_brk ?_ | refine ng_cont ?_ | refine ng_brk ?_); (try dsimp only)) | (k_unfold; (try dsimp only)) | walk1 | (dsimp only; walk1) | (leave1; walk_say "STEP leave1"; try dsimp only)))
    refine Stop.go ?_
    k_dflt (refine' sl_last (row := row) ?F ?N (.tail _ (.tail _ (.head _))) hi (by omega) ?_ ?s ?t; (case F => k_asm); (case N => k_asm); (case s => with_unfolding_all rfl); (case t => kmk_pure); k_whole)
    intro D2 w2 h₃ F₃ N₄ o2 a2
    have hw2 : w2.length = row.length - 1 := by rw [a2.length, up_len, List.length_take]; omega
    refine LCg.CompSrc.ledger rfl (by assumption) (by assumption) (.head _) (by size_fits) (fun g => comp_rest (fun i ys => IntsAre ys (up (((row.take (row.length - 1)).take i).map fun s => ce (ns.getD s 0).natAbs (2 ^ lg)))) (.inr ⟨_, .head _, rfl, _, rfl⟩) ?turn2 ?fin2 _ _ _ (Nat.add_zero _) IntsAre.nil)
    case turn2 =>
      rintro i v ys I oI Cc oC D m₂ h tk E' hin hP hI hC hm F N off ne
      obtain ⟨t, rfl, hil, hmem⟩ := row_at a2 (by simpa using hP)
      have hmem2 := List.mem_of_mem_take hmem
      have hmany := R.many _ hmem2
      have hsl := lt_of_many hmany
      have hmz := T.tb.many ((row.take (row.length - 1)).getD i 0)
      ((try dsimp only); repeat' (first | ((with_reducible first | refine nq_next ?_ | refine nq_ret ?_ | refine ng_next ?_ | refine ng_ret ?_ | refine nq_cont ?_ | refine nq_brk ?_ | refine ng_cont ?_ | refine ng_brk ?_); (try dsimp only)) | (k_unfold; (try dsimp only)) | walk1 | (dsimp only; walk1) | (leave1; walk_say "STEP leave1"; try dsimp only)))
      refine Stop.go (int_item (ns := up (mn ns)) (by assumption) (.tail _ (.tail _ (.tail _ (.tail _ (.tail _ (.tail _ (.tail _ (.head _)))))))) hmi (by omega) (by rw [mn_len]; omega) (by omega) ?_)
      intro vm tm hvm
      have evm : vm = (((ns.getD ((row.take (row.length - 1)).getD i 0) 0).natAbs : Nat) : Int) := by rw [hvm]; exact mn_get hsl
      ((try dsimp only); repeat' (first | ((with_reducible first | refine nq_next ?_ | refine nq_ret ?_ | refine ng_next ?_ | refine ng_ret ?_ | refine nq_cont ?_ | refine nq_brk ?_ | refine ng_cont ?_ | refine ng_brk ?_); (try dsimp only)) | (k_unfold; (try dsimp only)) | walk1 | (dsimp only; walk1) | (leave1; walk_say "STEP leave1"; try dsimp only)))
      refine Stop.go (ceil_ (n' := (ns.getD ((row.take (row.length - 1)).getD i 0) 0).natAbs) (z := 2 ^ lg) (by (exact ⟨by assumption, by assumption, by assumption, by assumption, rfl, by (first | omega | ((try simp only [depth_under_make, units_under_make, depth_in1, units_in1, depth_deeper, units_deeper]); (try dsimp only [ktrTop]); omega)), by (first | omega | ((try simp only [depth_under_make, units_under_make, depth_in1, units_in1, depth_deeper, units_deeper]); (try dsimp only [ktrTop]); omega))⟩)) (by assumption) evm rfl hmany hmz hz.2 ?_)
      intro t₁ h₄ k₄ F₄ N₅
      ((try dsimp only); repeat' (first | ((with_reducible first | refine nq_next ?_ | refine nq_ret ?_ | refine ng_next ?_ | refine ng_ret ?_ | refine nq_cont ?_ | refine nq_brk ?_ | refine ng_cont ?_ | refine ng_brk ?_); (try dsimp only)) | (k_unfold; (try dsimp only)) | walk1 | (dsimp only; walk1) | (leave1; walk_say "STEP leave1"; try dsimp only)))
      refine CEnd.at (by assumption) (by assumption) ?_
      rw [take_map_next hil]
      exact hI.append (IntsAre.cons _ _ IntsAre.nil)
    case fin2 =>
      intro ys2 hys2 D3 h tk F N off
      rw [List.size_toArray, hw2, List.take_of_length_le (by rw [List.length_take]; omega)] at hys2
      ((try dsimp only); repeat' (first | ((with_reducible first | refine nq_next ?_ | refine nq_ret ?_ | refine ng_next ?_ | refine ng_ret ?_ | refine nq_cont ?_ | refine nq_brk ?_ | refine ng_cont ?_ | refine ng_brk ?_); (try dsimp only)) | (k_unfold; (try dsimp only)) | walk1 | (dsimp only; walk1) | (leave1; walk_say "STEP leave1"; try dsimp only)))
      have N₇ := drop0 (drop0 (by assumption))
      have s1 := up_sum ((row.take (row.length - 1)).map fun s => fl (ns.getD s 0).natAbs (2 ^ lg))
      have s2 := up_sum ((row.take (row.length - 1)).map fun s => ce (ns.getD s 0).natAbs (2 ^ lg))
      have s3 := E0.lo
      have s4 := E0.hi
      (((try dsimp only); (repeat (with_reducible first | refine nq_next ?_ | refine nq_ret ?_ | refine ng_next ?_ | refine ng_ret ?_ | refine nq_cont ?_ | refine nq_brk ?_ | refine ng_cont ?_ | refine ng_brk ?_)); (with_reducible refine execsG_any ?_); ((try dsimp only); repeat' (first | ((with_reducible first | refine nq_next ?_ | refine nq_ret ?_ | refine ng_next ?_ | refine ng_ret ?_ | refine nq_cont ?_ | refine nq_brk ?_ | refine ng_cont ?_ | refine ng_brk ?_); (try dsimp only)) | (k_unfold; (try dsimp only)) | walk1 | (dsimp only; walk1) | (leave1; walk_say "STEP leave1"; try dsimp only)))))
      refine Stop.go (bits_for_ (o := o) (row := row) (by (exact ⟨by assumption, by assumption, by assumption, by assumption, rfl, by (first | omega | ((try simp only [depth_under_make, units_under_make, depth_in1, units_in1, depth_deeper, units_deeper]); (try dsimp only [ktrTop]); omega)), by (first | omega | ((try simp only [depth_under_make, units_under_make, depth_in1, units_in1, depth_deeper, units_deeper]); (try dsimp only [ktrTop]); omega))⟩)) (by assumption) (T.mono (by intro p hp; simp only [List.mem_cons, hp, or_true])) hn (.tail _ (.tail _ (.head _))) hi R ?_)
      intro v t₁ h₄ k₄ hv F₄ N₈
      have hvn : v = nb := by rw [hv, hnb, Nat.add_comm]
      subst hvn
      ((try dsimp only); repeat' (first | ((with_reducible first | refine nq_next ?_ | refine nq_ret ?_ | refine ng_next ?_ | refine ng_ret ?_ | refine nq_cont ?_ | refine nq_brk ?_ | refine ng_cont ?_ | refine ng_brk ?_); (try dsimp only)) | (k_unfold; (try dsimp only)) | walk1 | (dsimp only; walk1) | (leave1; walk_say "STEP leave1"; try dsimp only)))
      refine len_led (vs := vr) (cap := cr) (by assumption) (.tail _ (.tail _ (.head _))) (by omega) ?_
      intro k tk1 tk2 hk1
      rw [hvl] at hk1
      subst hk1
      ((try dsimp only); repeat' (first | ((with_reducible first | refine nq_next ?_ | refine nq_ret ?_ | refine ng_next ?_ | refine ng_ret ?_ | refine nq_cont ?_ | refine nq_brk ?_ | refine ng_cont ?_ | refine ng_brk ?_); (try dsimp only)) | (k_unfold; (try dsimp only)) | walk1 | (dsimp only; walk1) | (leave1; walk_say "STEP leave1"; try dsimp only)))
      refine Stop.go (Mine.unpack_ (o := o) (row := row) (by (exact ⟨by assumption, by assumption, by assumption, by assumption, rfl, by (first | omega | ((try simp only [depth_under_make, units_under_make, depth_in1, units_in1, depth_deeper, units_deeper]); (try dsimp only [ktrTop]); omega)), by (first | omega | ((try simp only [depth_under_make, units_under_make, depth_in1, units_in1, depth_deeper, units_deeper]); (try dsimp only [ktrTop]); omega))⟩)) (by assumption) (T.mono (by intro p hp; simp only [List.mem_cons, hp, or_true])) R hb ?_)
      intro Du vu cu h₅ k₅ iu F₅ N₉ ou
      ((try dsimp only); repeat' (first | ((with_reducible first | refine nq_next ?_ | refine nq_ret ?_ | refine ng_next ?_ | refine ng_ret ?_ | refine nq_cont ?_ | refine nq_brk ?_ | refine ng_cont ?_ | refine ng_brk ?_); (try dsimp only)) | (k_unfold; (try dsimp only)) | walk1 | (dsimp only; walk1) | (leave1; walk_say "STEP leave1"; try dsimp only)))
      exact hret _ _ (by assumption) (drop0 (drop0 (drop0 (drop0 (drop0 (by assumption))))))
end Krow_right_
theorem row_right_ {w : World} {mean : ExcName → Option Value} {mg : Str → Option Value} {mb : Str → Option Value} {dp : Nat} {un : Nat} {gd : Option (List Code)} {cn : Str} {cs : Scope} {a : Addr} {ccd : Value} {cl : List (Str × Addr)} {outer : List Env} {A₀ : Around} {base : Heap} {h₀ : Heap} {L : Addr} {m : Str → Option Value} {news : List (Addr × Obj)} {s : Shared} : row_right_S w mean mg mb dp un gd cn cs a ccd cl outer A₀ base h₀ L m news s := pm_all (P := fun p => row_right_S p.w p.mean p.mg p.mb p.dp p.un p.gd p.cn p.cs p.a p.ccd p.cl p.outer p.A₀ p.base p.h₀ p.L p.m p.news p.s) Krow_right_.walk { pmD with w := w, mean := mean, mg := mg, mb := mb, dp := dp, un := un, gd := gd, cn := cn, cs := cs, a := a, ccd := ccd, cl := cl, outer := outer, A₀ := A₀, base := base, h₀ := h₀, L := L, m := m, news := news, s := s }
end
section -- E25
theorem walk_off_E25 : True := by
  w_top off
  exact trivial
local macro_rules | `(tactic| walk_at "eval IfExp") => `(tactic| refine stop_of ?_)
local macro_rules | `(tactic| walk_at "CompSrc") => `(tactic| refine stop_of ?_)
local macro_rules | `(tactic| walk_at "call builtin:sorted") => `(tactic| refine stop_of ?_)
section
variable {w : World} {mean : ExcName → Option Value} {mg mb : Str → Option Value} {dp un : Nat} {gd : Option (List Code)} {cn : Str} {cs : Scope} {a : Addr} {ccd : Value} {cl : List (Str × Addr)} {outer : List Env} {A₀ : Around} {base h₀ : Heap} {L : Addr} {m : Str → Option Value} {rest news : List (Addr × Obj)} {s : Shared} {Q E : Value → Shared → Prop}
theorem sts_at {ns : List Int} {lg : Nat} {sy : List Nat} (T : Tb ns lg sy) {s r : Nat} (h : r < (ns.getD s 0).natAbs) : (sts sy s).getD r 0 < 2 ^ lg ∧ trn ns sy ((sts sy s).getD r 0) = (ns.getD s 0).natAbs + r := by
  first | refine el5 (T.nth h) fun q h1 h2 h3 h4 => ?_ | obtain ⟨q, h1, h2, h3, h4⟩ := T.nth h
  rw [List.getD_eq_getElem?_getD, h1]
  exact ⟨h2, h4⟩
theorem sts_bits {ns : List Int} {lg : Nat} {sy : List Nat} (T : Tb ns lg sy) (s : Nat) : (sts sy s).map (bitF ns sy lg) = bl lg (ns.getD s 0).natAbs := by
  have hl := T.cnt s
  apply List.ext_getElem?
  intro r
  unfold bl
  by_cases h : r < (ns.getD s 0).natAbs
  · obtain ⟨q, h1, h2, h3, h4⟩ := T.nth h
    rw [List.getElem?_map, h1, List.getElem?_map, List.getElem?_range h]
    show some (bitF ns sy lg q) = some _
    unfold bitF; rw [h4]
  · rw [List.getElem?_eq_none (by rw [List.length_map]; omega), List.getElem?_eq_none (by rw [List.length_map, List.length_range]; omega)]
theorem up_snoc (l : List Nat) (x : Nat) : up (l ++ [x]) = up l ++ [(x : Int)] := by unfold up; rw [List.map_append]; rfl
theorem x_val {Z n f c : Nat} (ef : (2 : Int) ^ (f : Int).toNat = ((2 ^ f : Nat) : Int)) (ec : (2 : Int) ^ (c : Int).toNat = ((2 ^ c : Nat) : Int)) (h : n * 2 ^ f ≤ Z) (h2 : 2 ^ f ≤ 2 ^ c) :
    ((Z : Int) - (n : Int) * 2 ^ (f : Int).toNat).fdiv (2 ^ (c : Int).toNat - 2 ^ (f : Int).toNat) = (((Z - n * 2 ^ f) / (2 ^ c - 2 ^ f) : Nat) : Int) := by
  rw [ef, ec, Int.fdiv_eq_ediv_of_nonneg _ (by omega), ← Int.natCast_mul, ← Int.ofNat_sub h, ← Int.ofNat_sub h2, ← Int.natCast_ediv]
theorem so_led {prog : Program} {w : World} {A : Around} {E Q : Value → Shared → Prop} {s : Shared} {h₀ : Heap} {L₀ D : Addr} {m : Str → Option Value} {news : List (Addr × Obj)} {vs : List Value} {cap : Nat} {L R : List Nat}
    (F : Fr h₀ L₀ s.heap m) (N : News h₀ L₀ s.heap news) (hm : (D, lst vs cap) ∈ news) (hi : IntsAre vs (up L)) (h64 : L.length < 64) (hp : L.Perm R) (hs : R.Pairwise (· ≤ ·))
    (h : ∀ D' vs' c h', Fr h₀ L₀ h' m → News h₀ L₀ h' ((D', lst vs' c) :: news) → (∀ p ∈ news, p.1 ≠ D') → IntsAre vs' (up R) → Q (.ref D') { s with heap := h' }) :
    wpAny (model prog w) A (call (.builtin "sorted") [.ref D]) Q E s :=
  kso_sorted F N ⟨_, (N _ hm).1, rfl, cap, rfl⟩ hi (by rw [up_len]; exact h64) fun D' vs' ns' c h' F' N' l1 hi' _ hp' hs' _ =>
    h D' vs' c h' F' N' (fun p hp => Nat.ne_of_lt (l1 p hp)) (by
      have : ns' = up R := lks_uniq (hp'.trans (hp.map _)) hs' (List.pairwise_map.mpr (hs.imp fun h => Int.ofNat_le.mpr h))
      rw [← this]; exact hi')
theorem rep_sorted {a b f c : Nat} (h : f ≤ c) : (List.replicate a f ++ List.replicate b c).Pairwise (· ≤ ·) := by
  refine List.pairwise_append.mpr ⟨List.pairwise_replicate.mpr (.inr (Nat.le_refl _)), List.pairwise_replicate.mpr (.inr (Nat.le_refl _)), fun x hx y hy => ?_⟩
  rw [(List.mem_replicate.mp hx).2, (List.mem_replicate.mp hy).2]; exact h
theorem bl_len (lg n : Nat) : (bl lg n).length = n := by unfold bl; rw [List.length_map, List.length_range]
theorem rep_flat {α : Type} (a : α) : ∀ n : Nat, (List.replicate n [a]).flatten = List.replicate n a
  | 0 => rfl
  | n + 1 => by rw [List.replicate_succ, List.flatten_cons, rep_flat a n]; rfl
theorem rep_eq {n x f c : Nat} (h : x ≤ n) : up (List.replicate (n - x) f ++ List.replicate x c) = (List.replicate ((n : Int) - (x : Int)).toNat [(f : Int)]).flatten ++ (List.replicate (x : Int).toNat [(c : Int)]).flatten := by
  rw [rep_flat, rep_flat, show ((n : Int) - (x : Int)).toNat = n - x by omega, Int.toNat_natCast]
  unfold up
  rw [List.map_append, List.map_replicate, List.map_replicate]
theorem keep9 {h₀ h : Heap} {L : Addr} {a b1 b2 b3 b4 b5 b6 b7 b8 b9 : Addr × Obj} {r : List (Addr × Obj)} (N : News h₀ L h (a :: b1 :: b2 :: b3 :: b4 :: b5 :: b6 :: b7 :: b8 :: b9 :: r)) : News h₀ L h (a :: r) := cb_drop N (by (((repeat' (first | exact List.forall_mem_nil _ | refine subC (by ((repeat (first | assumption | exact List.Mem.head _ | exact List.mem_append_left _ (by assumption) | refine List.Mem.tail _ ?_ | refine List.mem_append_right _ ?_)))) ?_ | refine subA ?_ ?_)) <;> (intro p hp; ((repeat (first | assumption | exact List.Mem.head _ | exact List.mem_append_left _ (by assumption) | refine List.Mem.tail _ ?_ | refine List.mem_append_right _ ?_)))))))
theorem get17 {a1 a2 a3 a4 a5 a6 a7 a8 a9 b1 b2 b3 b4 b5 b6 b7 b8 : Prop} {d : Nat} {n : List (Addr × Obj)} (h : a1 ∧ a2 ∧ a3 ∧ a4 ∧ a5 ∧ a6 ∧ a7 ∧ a8 ∧ a9 ∧ b1 ∧ b2 ∧ b3 ∧ b4 ∧ b5 ∧ b6 ∧ b7 ∧ b8 ∧ AllLt d n) : b1 ∧ b2 ∧ b3 ∧ b4 ∧ b5 ∧ b6 ∧ b7 ∧ b8 ∧ AllLt d n :=
  h.2.2.2.2.2.2.2.2.2
theorem up_ofNat (l : List Nat) : up l = l.map Int.ofNat := rfl
theorem so_rot {prog : Program} {w : World} {A : Around} {E Q : Value → Shared → Prop} {s : Shared} {h₀ : Heap} {L₀ D : Addr} {m : Str → Option Value} {news : List (Addr × Obj)} {vs : List Value} {cap k z : Nat}
    (hz : z = 32 ∨ z = 64) (hk : k < z) (hev : k % 2 = 0) (F : Fr h₀ L₀ s.heap m) (N : News h₀ L₀ s.heap news) (hm : (D, lst vs cap) ∈ news) (hi : IntsAre vs (up (List.range' k (z - k) ++ List.range' 0 k)))
    (h : ∀ D' vs' c h', Fr h₀ L₀ h' m → News h₀ L₀ h' ((D', lst vs' c) :: news) → (∀ p ∈ news, p.1 ≠ D') → IntsAre vs' (up (List.range z)) → Q (.ref D') { s with heap := h' }) :
    wpAny (model prog w) A (call (.builtin "sorted") [.ref D]) Q E s := by
  rcases hz with rfl | rfl
  · exact so_led F N hm hi (by rw [List.length_append, List.length_range', List.length_range']; omega) (rot_perm (by omega)) (by rw [List.range_eq_range']; exact (List.pairwise_lt_range' ..).imp Nat.le_of_lt) h
  · refine sorted_rot hk hev F N ⟨_, (N _ hm).1, rfl, cap, rfl⟩ (by rw [← up_ofNat]; exact hi) fun D' h' vs' ns' e F' N' l1 hi' hp hs => h D' vs' e h' F' N' (fun p hp => Nat.ne_of_lt (l1 p hp)) ?_
    rw [← up_ofNat] at hp
    have : ns' = up (List.range 64) := lks_uniq (hp.trans ((rot_perm (by omega)).map _)) hs (List.pairwise_map.mpr (List.pairwise_lt_range.imp fun h => Int.ofNat_le.mpr (Nat.le_of_lt h)))
    rw [← this]; exact hi'
theorem up_rangeKs (z : Nat) : up (List.range z) = rangeKs 0 ((z : Int) - 0).toNat := by
  rw [show ((z : Int) - 0).toNat = z by omega]
  apply List.ext_getElem?
  intro i
  by_cases h : i < z
  · simp [up, rangeKs, h]
  · simp [up, rangeKs, h]
structure Go where
  vs : List Value
  cap : Nat
@[irreducible] def ValAt (x : Int) (s : Shared) (v : Value) (s₁ : Shared) : Prop := ∃ t tk, v = .int x t ∧ s₁ = { s with toks := tk }
theorem ValAt.mk {x y : Int} {t : Tok} {s : Shared} {tk : Nat} (e : y = x) : ValAt x s (.int y t) { s with toks := tk } := by unfold ValAt; exact ⟨t, tk, by rw [e], rfl⟩
theorem val_mono {prog : Program} {w : World} {A : Around} {t : Sem Value} {E Q : Value → Shared → Prop} {s : Shared} (x : Int) (h : wpAny (model prog w) A t (ValAt x s) E s)
    (k : ∀ t tk, Q (.int x t) { s with toks := tk }) : wpAny (model prog w) A t Q E s := wpAny_mono h (fun v s₁ h => by unfold ValAt at h; obtain ⟨t, tk, rfl, rfl⟩ := h; exact k t tk) fun _ _ e => e
end
def states_right_S (w : World) (mean : ExcName → Option Value) (mg : Str → Option Value) (mb : Str → Option Value) (dp : Nat) (un : Nat) (gd : Option (List Code)) (cn : Str) (cs : Scope) (a : Addr) (ccd : Value) (cl : List (Str × Addr)) (outer : List Env) (A₀ : Around) (base : Heap) (h₀ : Heap) (L : Addr) (m : Str → Option Value) (news : List (Addr × Obj)) (s : Shared) (Q : Value → Shared → Prop) (E : Value → Shared → Prop) : Prop :=
  ∀ {ns : List Int} {lg : Nat} {sy : List Nat} {o : TBo} {r : Nat} {t1 t2 t3 : Tok} (C : Cx w mean mg mb dp un cs outer A₀ base h₀ L m s.heap 16) (N : News h₀ L s.heap news) (T : TabIn w ns lg sy o news) (hn : ns.length ≤ 11) (hr : 1 ≤ (ns.getD r 0).natAbs) (hr2 : (ns.getD r 0).natAbs < 2 ^ lg) (hret : ∀ h' tk', Fr h₀ L h' m → News h₀ L h' news → Q (.bool true) { s with heap := h', toks := tk' }),
   wpAny (model PySem.Challenge.rw_pq1208_01.row.prog w) (ktrTop dp un gd cn cs L a ccd cl outer) (call (.ref 474) [.ref o.x, .int (r : Int) t1, .int ((ns.getD r 0).natAbs : Int) t2, .int ((2 ^ lg : Nat) : Int) t3]) Q E s
namespace Kstates_right_
noncomputable def pt : Pm := pmAt fun p => states_right_S p.w p.mean p.mg p.mb p.dp p.un p.gd p.cn p.cs p.a p.ccd p.cl p.outer p.A₀ p.base p.h₀ p.L p.m p.news p.s p.Q p.E
noncomputable def base : Heap := pt.base
noncomputable def L : Addr := pt.L
set_option maxRecDepth 100000 in
set_option maxHeartbeats 8000000 in
theorem walk : states_right_S pt.w pt.mean pt.mg pt.mb pt.dp pt.un pt.gd pt.cn pt.cs pt.a pt.ccd pt.cl pt.outer pt.A₀ base pt.h₀ L pt.m pt.news pt.s pt.Q pt.E := by
  unfold states_right_S
  intro ns lg sy o r t1 t2 t3 C N T hn hr hr2 hret
  refine Cx.el C fun B F X Tp hk hd hu => ?_
  have hz := T.tb.z
  have hsl := T.tb.sp.len
  have N₁ := News.put N (News.put N (News.put N (News.put N (News.put N N T.dx) T.x) T.lba) T.lbi) T.lsy
  clear N
  refine wpAny_call ?_
  k_dflt ((refine' code_defC ?k1z52 ?k2z52 ?k3z52 ?k4z52 ?k5z52 ?kAz52 ?kFz52 ?kKz52 ?k6z52 ?k7z52 ?k8z52 ?k9z52 ?kBz52 ?kDz52 ?_ ?c2z52 ?c3z52 ?c4z52; (case kAz52 => exact rfl); (case kFz52 => exact rfl); (case kKz52 => first | assumption | exact rfl); (case k1z52 => k_asm); (case k2z52 => k_asm); (case k3z52 => k_asm); (case k4z52 => k_asm); (case k5z52 => k_asm); (case k6z52 => k_is); (case k7z52 => k_is); (case k8z52 => ktr_room); (case k9z52 => exact BindsTo.of_eq rfl); (case kBz52 => exact rfl); (case kDz52 => decide +kernel); (case c2z52 => exact rfl); (case c3z52 => exact rfl); (case c4z52 => exact rfl); k_whole; intro g' L' h' tk' cells' FG' F' N' Y' B' X' T' l1; (try k_lt l1); k_cells Y'; (try simp only [List.cons_append, List.nil_append] at N'); (try dsimp only); (try k_lift B'); (try k_fold)))
  ((try dsimp only); repeat' (first | ((with_reducible first | refine nq_next ?_ | refine nq_ret ?_ | refine ng_next ?_ | refine ng_ret ?_ | refine nq_cont ?_ | refine nq_brk ?_ | refine ng_cont ?_ | refine ng_brk ?_); (try dsimp only)) | (k_unfold; (try dsimp only)) | walk1 | (dsimp only; walk1) | (leave1; walk_say "STEP leave1"; try dsimp only)))
  refine Stop.go (LCt.Assign_ListComp_T (F₀ := by assumption) rfl (by with_unfolding_all rfl) (by with_unfolding_all rfl) (by decide) (by rfl) (by decide) (by rfl) (by rfl) (by rfl) ?_)
  ((try dsimp only); repeat' (first | ((with_reducible first | refine nq_next ?_ | refine nq_ret ?_ | refine ng_next ?_ | refine ng_ret ?_ | refine nq_cont ?_ | refine nq_brk ?_ | refine ng_cont ?_ | refine ng_brk ?_); (try dsimp only)) | (k_unfold; (try dsimp only)) | walk1 | (dsimp only; walk1) | (leave1; walk_say "STEP leave1"; try dsimp only)))
  refine Stop.go (rg1 (by assumption) (by assumption) ?_)
  intro ra h₂ tk₂ a₂ b₂ c₂ IR F₂ N₂
  dsimp only
  refine LCt.CompSrcT.range (n := 2 ^ lg) rfl (by assumption) (by assumption) IR ?sm ?sz (by rw [sizeLine_eq]; omega) (fun g => comp_restT (fun i ys => IntsAre ys (up (stq sy i r))) trivial ?turn ?fin _ _ _ (Nat.add_zero _) IntsAre.nil)
  case sm => exact rsm (by omega)
  case sz => exact rsz
  case turn =>
    rintro i v ys I oI Cc oC D m₂ h tk E' hin ⟨t, rfl⟩ hI hC hm F N off ne
    ((try dsimp only); repeat' (first | ((with_reducible first | refine nq_next ?_ | refine nq_ret ?_ | refine ng_next ?_ | refine ng_ret ?_ | refine nq_cont ?_ | refine nq_brk ?_ | refine ng_cont ?_ | refine ng_brk ?_); (try dsimp only)) | (k_unfold; (try dsimp only)) | walk1 | (dsimp only; walk1) | (leave1; walk_say "STEP leave1"; try dsimp only)))
    refine Stop.go (int_item (ns := up sy) (by assumption) (.tail _ (.tail _ (.tail _ (.tail _ (.tail _ (.head _)))))) T.asy (by omega) (by rw [up_len]; omega) (by omega) ?_)
    intro x tx hx
    have ex : x = ((sy.getD i 0 : Nat) : Int) := by rw [hx, show (0 + (i : Int)).toNat = i by omega]; exact up_getD sy i
    subst ex
    ((try dsimp only); repeat' (first | ((with_reducible first | refine nq_next ?_ | refine nq_ret ?_ | refine ng_next ?_ | refine ng_ret ?_ | refine nq_cont ?_ | refine nq_brk ?_ | refine ng_cont ?_ | refine ng_brk ?_); (try dsimp only)) | (k_unfold; (try dsimp only)) | walk1 | (dsimp only; walk1) | (leave1; walk_say "STEP leave1"; try dsimp only)))
    · refine CEnd.at (by assumption) (by assumption) ?_
      rw [stq_succ, if_pos (by omega), up_snoc, show (0 + (i : Int)) = (i : Int) by omega]
      exact hI.append (IntsAre.cons _ _ IntsAre.nil)
    · refine CEnd.at (by assumption) (by assumption) ?_
      rw [stq_succ, if_neg (by omega)]
      exact hI
  case fin =>
    intro hs hhs lh h tk F N off
    have hhs2 : IntsAre hs (up (sts sy r)) := by show IntsAre hs (up (stq sy sy.length r)); rw [hsl]; exact hhs
    have hhl : hs.length = (ns.getD r 0).natAbs := by rw [hhs2.length, up_len, T.tb.cnt]
    ((try dsimp only); repeat' (first | ((with_reducible first | refine nq_next ?_ | refine nq_ret ?_ | refine ng_next ?_ | refine ng_ret ?_ | refine nq_cont ?_ | refine nq_brk ?_ | refine ng_cont ?_ | refine ng_brk ?_); (try dsimp only)) | (k_unfold; (try dsimp only)) | walk1 | (dsimp only; walk1) | (leave1; walk_say "STEP leave1"; try dsimp only)))
    refine Stop.go (floor_ (n' := (ns.getD r 0).natAbs) (z := 2 ^ lg) (by (exact ⟨by assumption, by assumption, by assumption, by assumption, rfl, by (first | omega | ((try simp only [depth_under_make, units_under_make, depth_in1, units_in1, depth_deeper, units_deeper]); (try dsimp only [ktrTop]); omega)), by (first | omega | ((try simp only [depth_under_make, units_under_make, depth_in1, units_in1, depth_deeper, units_deeper]); (try dsimp only [ktrTop]); omega))⟩)) (by assumption) rfl rfl hr (by omega) hz.2 ?_)
    intro t₁ h₃ k₃ F₃ N₃
    ((try dsimp only); repeat' (first | ((with_reducible first | refine nq_next ?_ | refine nq_ret ?_ | refine ng_next ?_ | refine ng_ret ?_ | refine nq_cont ?_ | refine nq_brk ?_ | refine ng_cont ?_ | refine ng_brk ?_); (try dsimp only)) | (k_unfold; (try dsimp only)) | walk1 | (dsimp only; walk1) | (leave1; walk_say "STEP leave1"; try dsimp only)))
    refine Stop.go (ceil_ (n' := (ns.getD r 0).natAbs) (z := 2 ^ lg) (by (exact ⟨by assumption, by assumption, by assumption, by assumption, rfl, by (first | omega | ((try simp only [depth_under_make, units_under_make, depth_in1, units_in1, depth_deeper, units_deeper]); (try dsimp only [ktrTop]); omega)), by (first | omega | ((try simp only [depth_under_make, units_under_make, depth_in1, units_in1, depth_deeper, units_deeper]); (try dsimp only [ktrTop]); omega))⟩)) (by assumption) rfl rfl hr (by omega) hz.2 ?_)
    intro t₂ h₄ k₄ F₄ N₄
    have K := chk_of (by have := T.tb.l5; have := T.tb.l6; omega) hr hr2
    generalize fl (ns.getD r 0).natAbs (2 ^ lg) = f at *
    generalize ce (ns.getD r 0).natAbs (2 ^ lg) = c at *
    generalize xx (ns.getD r 0).natAbs (2 ^ lg) = x at *
    generalize gk lg (ns.getD r 0).natAbs = k at *
    have hf6 := K.f6
    have hc6 := K.c6
    have hfc := K.fc
    have hxn := K.xn
    have ef : (2 : Int) ^ (f : Int).toNat = ((2 ^ f : Nat) : Int) := by rw [Int.toNat_natCast, two_pow_cast]
    have ec : (2 : Int) ^ (c : Int).toNat = ((2 ^ c : Nat) : Int) := by rw [Int.toNat_natCast, two_pow_cast]
    have pf1 : 1 ≤ 2 ^ f := Nat.one_le_two_pow
    have pf2 : 2 ^ f ≤ 64 := Nat.pow_le_pow_right (n := 2) (by decide) hf6
    have pc2 : 2 ^ c ≤ 64 := Nat.pow_le_pow_right (n := 2) (by decide) hc6
    have pfc : f < c → 2 ^ f < 2 ^ c := fun h => Nat.pow_lt_pow_right (by decide) h
    ((try dsimp only); repeat' (first | ((with_reducible first | refine nq_next ?_ | refine nq_ret ?_ | refine ng_next ?_ | refine ng_ret ?_ | refine nq_cont ?_ | refine nq_brk ?_ | refine ng_cont ?_ | refine ng_brk ?_); (try dsimp only)) | (k_unfold; (try dsimp only)) | walk1 | (dsimp only; walk1) | (leave1; walk_say "STEP leave1"; try dsimp only)))
    refine Stop.go (val_mono (x : Int) ?val ?rest)
    case val =>
      have hxe := K.xe
      refine IfExp_ ?_
      ((try dsimp only); repeat' (first | ((with_reducible first | refine nq_next ?_ | refine nq_ret ?_ | refine ng_next ?_ | refine ng_ret ?_ | refine nq_cont ?_ | refine nq_brk ?_ | refine ng_cont ?_ | refine ng_brk ?_); (try dsimp only)) | (k_unfold; (try dsimp only)) | walk1 | (dsimp only; walk1) | (leave1; walk_say "STEP leave1"; try dsimp only)))
      · refine ValAt.mk ?_
        rw [hxe, if_pos (by omega)]; rfl
      · refine ValAt.mk ?_
        rw [hxe, if_neg (by omega)]
        exact x_val ef ec K.nf (Nat.le_of_lt (pfc (by omega)))
    case rest =>
      intro tx tkx
      ((try dsimp only); repeat' (first | ((with_reducible first | refine nq_next ?_ | refine nq_ret ?_ | refine ng_next ?_ | refine ng_ret ?_ | refine nq_cont ?_ | refine nq_brk ?_ | refine ng_cont ?_ | refine ng_brk ?_); (try dsimp only)) | (k_unfold; (try dsimp only)) | walk1 | (dsimp only; walk1) | (leave1; walk_say "STEP leave1"; try dsimp only)))
      refine Stop.go (LCg.ListComp_U (F₀ := by assumption) (by with_unfolding_all rfl) (by decide) (by rfl) (by decide) (by rfl) ?_)
      ((try dsimp only); repeat' (first | ((with_reducible first | refine nq_next ?_ | refine nq_ret ?_ | refine ng_next ?_ | refine ng_ret ?_ | refine nq_cont ?_ | refine nq_brk ?_ | refine ng_cont ?_ | refine ng_brk ?_); (try dsimp only)) | (k_unfold; (try dsimp only)) | walk1 | (dsimp only; walk1) | (leave1; walk_say "STEP leave1"; try dsimp only)))
      refine Stop.go (LCg.CompSrc.ledger rfl (by assumption) (by assumption) (.tail _ (.head _)) (by size_fits) (fun g => comp_rest (fun i ys => IntsAre ys (up (((sts sy r).take i).map (bitF ns sy lg)))) (.inr ⟨_, .tail _ (.head _), rfl, _, rfl⟩) ?turn3 ?fin3 _ _ _ (Nat.add_zero _) IntsAre.nil))
      case turn3 =>
        rintro i v ys I oI Cc oC D m₂ h tk E' hin hP hI hC hm F N off ne
        obtain ⟨t, rfl, hil, hmem⟩ := row_at hhs2 (by simpa using hP)
        rw [T.tb.cnt] at hil
        first | refine el2 (sts_at T.tb hil) fun hq htr => ?_ | obtain ⟨hq, htr⟩ := sts_at T.tb hil
        ((try dsimp only); repeat' (first | ((with_reducible first | refine nq_next ?_ | refine nq_ret ?_ | refine ng_next ?_ | refine ng_ret ?_ | refine nq_cont ?_ | refine nq_brk ?_ | refine ng_cont ?_ | refine ng_brk ?_); (try dsimp only)) | (k_unfold; (try dsimp only)) | walk1 | (dsimp only; walk1) | (leave1; walk_say "STEP leave1"; try dsimp only)))
        refine Stop.go (int_item (by assumption) (.tail _ (.tail _ (.tail _ (.tail _ (.tail _ (.tail _ (.tail _ (.tail _ (.head _))))))))) T.abi (by omega) (by rw [up_len, List.length_map, List.length_range]; omega) (by omega) ?_)
        intro vb tb hvb
        have evb : vb = (bitF ns sy lg ((sts sy r).getD i 0) : Int) := by rw [hvb]; exact up_map_getD hq
        subst evb
        ((try dsimp only); repeat' (first | ((with_reducible first | refine nq_next ?_ | refine nq_ret ?_ | refine ng_next ?_ | refine ng_ret ?_ | refine nq_cont ?_ | refine nq_brk ?_ | refine ng_cont ?_ | refine ng_brk ?_); (try dsimp only)) | (k_unfold; (try dsimp only)) | walk1 | (dsimp only; walk1) | (leave1; walk_say "STEP leave1"; try dsimp only)))
        refine CEnd.at (by assumption) (by assumption) ?_
        rw [take_map_next (by rw [T.tb.cnt]; exact hil)]
        exact hI.append (IntsAre.cons _ _ IntsAre.nil)
      case fin3 =>
        intro bs hbs lb h tk F N off
        rw [List.size_toArray, hhl, ← T.tb.cnt r, List.take_length, sts_bits T.tb] at hbs
        ((try dsimp only); repeat' (first | ((with_reducible first | refine nq_next ?_ | refine nq_ret ?_ | refine ng_next ?_ | refine ng_ret ?_ | refine nq_cont ?_ | refine nq_brk ?_ | refine ng_cont ?_ | refine ng_brk ?_); (try dsimp only)) | (k_unfold; (try dsimp only)) | walk1 | (dsimp only; walk1) | (leave1; walk_say "STEP leave1"; try dsimp only)))
        have hbl := K.bl
        have hR : (bl lg (ns.getD r 0).natAbs).Perm (List.replicate ((ns.getD r 0).natAbs - x) f ++ List.replicate x c) := by rw [hbl]; exact List.perm_append_comm
        refine Stop.go (so_led (L := bl lg (ns.getD r 0).natAbs) (R := List.replicate ((ns.getD r 0).natAbs - x) f ++ List.replicate x c) (by assumption) (by assumption) (.head _) hbs (by rw [bl_len]; omega) hR (rep_sorted (by omega)) ?_)
        intro lb2 bs2 cb2 h₅ F₅ N₅ ob2 hb2
        have hb2l : bs2.length = (ns.getD r 0).natAbs := by rw [hb2.length, up_len, List.length_append, List.length_replicate, List.length_replicate]; omega
        ((try dsimp only); repeat' (first | ((with_reducible first | refine nq_next ?_ | refine nq_ret ?_ | refine ng_next ?_ | refine ng_ret ?_ | refine nq_cont ?_ | refine nq_brk ?_ | refine ng_cont ?_ | refine ng_brk ?_); (try dsimp only)) | (k_unfold; (try dsimp only)) | walk1 | (dsimp only; walk1) | (leave1; walk_say "STEP leave1"; try dsimp only)))
        refine len_led (vs := hs) (cap := hs.length) (by assumption) (.tail _ (.tail _ (.tail _ (.head _)))) (by omega) ?_
        intro kk tk1 tk2 hkk
        rw [hhl] at hkk
        subst hkk
        have hrep := rep_eq (n := (ns.getD r 0).natAbs) (x := x) (f := f) (c := c) hxn
        have hR6 : ∀ y ∈ List.replicate ((ns.getD r 0).natAbs - x) f ++ List.replicate x c, y ≤ 6 := fun y hy => by
          rcases List.mem_append.mp hy with hy | hy <;> rw [(List.mem_replicate.mp hy).2] <;> assumption
        have hRs : ((List.replicate ((ns.getD r 0).natAbs - x) f ++ List.replicate x c).map fun b => 2 ^ b).sum = 2 ^ lg := by rw [← K.sum]; exact ((hR.map _).sum_nat).symm
        ((try dsimp only); repeat' (first | ((with_reducible first | refine nq_next ?_ | refine nq_ret ?_ | refine ng_next ?_ | refine ng_ret ?_ | refine nq_cont ?_ | refine nq_brk ?_ | refine ng_cont ?_ | refine ng_brk ?_); (try dsimp only)) | (k_unfold; (try dsimp only)) | walk1 | (dsimp only; walk1) | (leave1; walk_say "STEP leave1"; try dsimp only)))
        refine Stop.go (LCg.ListComp_U (F₀ := by assumption) (by with_unfolding_all rfl) (by decide) (by rfl) (by decide) (by rfl) ?_)
        ((try dsimp only); repeat' (first | ((with_reducible first | refine nq_next ?_ | refine nq_ret ?_ | refine ng_next ?_ | refine ng_ret ?_ | refine nq_cont ?_ | refine nq_brk ?_ | refine ng_cont ?_ | refine ng_brk ?_); (try dsimp only)) | (k_unfold; (try dsimp only)) | walk1 | (dsimp only; walk1) | (leave1; walk_say "STEP leave1"; try dsimp only)))
        refine Stop.go (LCg.CompSrc.ledger rfl (by assumption) (by assumption) (.tail _ (.tail _ (.tail _ (.tail _ (.tail _ (.head _)))))) (by size_fits) (fun g => comp_rest (fun i ys => IntsAre ys (up (((List.replicate ((ns.getD r 0).natAbs - x) f ++ List.replicate x c).take i).map fun b => 2 ^ b))) (.inr ⟨_, .tail _ (.tail _ (.tail _ (.tail _ (.tail _ (.head _))))), rfl, _, rfl⟩) ?turn4 ?fin4 _ _ _ (Nat.add_zero _) IntsAre.nil))
        case turn4 =>
          rintro i v ys I oI Cc oC D m₂ h tk E' hin hP hI hC hm F N off ne
          obtain ⟨t, rfl, hil, hmem⟩ := row_at hb2 (by simpa using hP)
          have h6 := hR6 _ hmem
          ((try dsimp only); repeat' (first | ((with_reducible first | refine nq_next ?_ | refine nq_ret ?_ | refine ng_next ?_ | refine ng_ret ?_ | refine nq_cont ?_ | refine nq_brk ?_ | refine ng_cont ?_ | refine ng_brk ?_); (try dsimp only)) | (k_unfold; (try dsimp only)) | walk1 | (dsimp only; walk1) | (leave1; walk_say "STEP leave1"; try dsimp only)))
          refine CEnd.at (by assumption) (by assumption) ?_
          rw [take_map_next hil, Int.toNat_natCast, two_pow_cast]
          exact hI.append (IntsAre.cons _ _ IntsAre.nil)
        case fin4 =>
          intro ps hps lp h tk F N off
          rw [List.size_toArray, hb2l, List.take_of_length_le (by rw [List.length_append, List.length_replicate, List.length_replicate]; omega)] at hps
          have hsum := up_sum ((List.replicate ((ns.getD r 0).natAbs - x) f ++ List.replicate x c).map fun b => 2 ^ b)
          rw [hRs] at hsum
          ((try dsimp only); repeat' (first | ((with_reducible first | refine nq_next ?_ | refine nq_ret ?_ | refine ng_next ?_ | refine ng_ret ?_ | refine nq_cont ?_ | refine nq_brk ?_ | refine ng_cont ?_ | refine ng_brk ?_); (try dsimp only)) | (k_unfold; (try dsimp only)) | walk1 | (dsimp only; walk1) | (leave1; walk_say "STEP leave1"; try dsimp only)))
          refine Stop.go ?_
          first | refine el9 (get17 (by assumption)) fun y1 y2 y3 y4 y5 y6 y7 y8 y9 => ?_ | obtain ⟨y1, y2, y3, y4, y5, y6, y7, y8, y9⟩ := get17 (by assumption)
          have N₇ := keep9 (by assumption)
          refine' it_list (σ := Go) (vs := hs) (fun c => [(_, lst c.vs c.cap)]) [_] _ (fun _ => []) [Str.ofString "state"] (fun i c => IntsAre c.vs (up (gli lg (ns.getD r 0).natAbs i))) ⟨[], _⟩
            rfl ?isl ?ne1 ?ne2 (fun _ => rfl) (by decide) ?off (by assumption) N₇ ?ps ?hi ?turn5 ?done5
          case isl => exact ⟨_, (N₇ _ (.tail _ (.head _))).1, rfl, _, rfl⟩
          case ne1 => exact (N₇ _ (.tail _ (.head _))).2.1
          case ne2 => simpa using Nat.ne_of_lt y1
          case off => (((repeat' (first | assumption | exact List.forall_mem_nil _ | exact off_nil | refine off_snoc ?_ ?_ | refine List.forall_mem_cons.mpr ⟨?_, ?_⟩)) <;> (try dsimp only) <;> first | assumption | exact Nat.ne_of_lt (by assumption) | exact Nat.ne_of_gt (by assumption) | exact Nat.ne_of_gt (by omega) | exact Nat.ne_of_lt (by omega) | exact allLt_ne (by assumption) | exact allLt_ne (rt1 (by assumption)) | exact allLt_ne (rt2 (by assumption)) | exact allLt_ne (rt3 (by assumption)) | exact allLt_ne (rt4 (by assumption)) | exact allLt_ne (rt5 (by assumption)) | exact fun p hp => Nat.ne_of_lt (‹∀ p ∈ _, p.1 < _› p hp) | exact fun p hp => Nat.ne_of_lt (Nat.lt_trans (‹∀ p ∈ _, p.1 < _› p hp) (by omega)) | exact allLt_ne2 (by assumption) (by omega) | exact allLt_ne2 (rt1 (by assumption)) (by omega) | exact allLt_ne2 (rt2 (by assumption)) (by omega) | exact allLt_ne2 (rt3 (by assumption)) (by omega)))
          case ps => ((repeat' (first | exact List.forall_mem_nil _ | refine List.forall_mem_cons.mpr ⟨by with_unfolding_all rfl, ?_⟩)))
          case hi => exact .nil
          case turn5 =>
            rintro i v ⟨us, cap⟩ u h tk rest' hin hv hI hoff' hsub' F N
            dsimp only [List.cons_append, List.nil_append] at *
            obtain ⟨t, rfl, hil, hmem⟩ := row_at hhs2 hv
            rw [T.tb.cnt] at hil
            first | refine el2 (sts_at T.tb hil) fun hq htr => ?_ | obtain ⟨hq, htr⟩ := sts_at T.tb hil
            first | refine el2 (off_cons hoff') fun of1 _ => ?_ | obtain ⟨of1, -⟩ := off_cons hoff'
            have hB := T.tb.base hq
            have N₆ := News.put N (News.put N (News.put N (News.put N (News.put N (News.put N (News.put N (drop0 N) (.tail _ (hsub' _ (.tail _ (.tail _ (.head _)))))) (.tail _ (hsub' _ (.tail _ (.head _))))) (.tail _ (hsub' _ (.tail _ (.tail _ (.tail _ (.tail _ (.tail _ (.tail _ (.tail _ (.head _))))))))))) (.tail _ (hsub' _ (.tail _ (.tail _ (.tail _ (.tail _ (.tail _ (.tail _ (.head _)))))))))) (.tail _ (hsub' _ (.tail _ (.tail _ (.tail _ (.tail _ (.tail _ (.head _))))))))) (.tail _ (hsub' _ (.tail _ (.tail _ (.tail _ (.tail _ (.head _)))))))) (.head _)
            clear N
            ((try dsimp only); repeat' (first | ((with_reducible first | refine nq_next ?_ | refine nq_ret ?_ | refine ng_next ?_ | refine ng_ret ?_ | refine nq_cont ?_ | refine nq_brk ?_ | refine ng_cont ?_ | refine ng_brk ?_); (try dsimp only)) | (k_unfold; (try dsimp only)) | walk1 | (dsimp only; walk1) | (leave1; walk_say "STEP leave1"; try dsimp only)))
            refine Stop.go (int_item (by assumption) (.tail _ (.tail _ (.head _))) T.aba (by omega) (by rw [up_len, List.length_map, List.length_range]; omega) (by omega) ?_)
            intro va ta hva
            have eva : va = (basF ns sy lg ((sts sy r).getD i 0) : Int) := by rw [hva]; exact up_map_getD hq
            ((try dsimp only); repeat' (first | ((with_reducible first | refine nq_next ?_ | refine nq_ret ?_ | refine ng_next ?_ | refine ng_ret ?_ | refine nq_cont ?_ | refine nq_brk ?_ | refine ng_cont ?_ | refine ng_brk ?_); (try dsimp only)) | (k_unfold; (try dsimp only)) | walk1 | (dsimp only; walk1) | (leave1; walk_say "STEP leave1"; try dsimp only)))
            refine Stop.go (int_item (by assumption) (.tail _ (.tail _ (.head _))) T.aba (by omega) (by rw [up_len, List.length_map, List.length_range]; omega) (by omega) ?_)
            intro vb tb hvb
            have evb : vb = (basF ns sy lg ((sts sy r).getD i 0) : Int) := by rw [hvb]; exact up_map_getD hq
            ((try dsimp only); repeat' (first | ((with_reducible first | refine nq_next ?_ | refine nq_ret ?_ | refine ng_next ?_ | refine ng_ret ?_ | refine nq_cont ?_ | refine nq_brk ?_ | refine ng_cont ?_ | refine ng_brk ?_); (try dsimp only)) | (k_unfold; (try dsimp only)) | walk1 | (dsimp only; walk1) | (leave1; walk_say "STEP leave1"; try dsimp only)))
            refine Stop.go (int_item (by assumption) (.tail _ (.head _)) T.abi (by omega) (by rw [up_len, List.length_map, List.length_range]; omega) (by omega) ?_)
            intro vc tc hvc
            have evc : vc = (bitF ns sy lg ((sts sy r).getD i 0) : Int) := by rw [hvc]; exact up_map_getD hq
            have hb6 : bitF ns sy lg ((sts sy r).getD i 0) ≤ 6 := by have := T.tb.l6; unfold bitF; omega
            ((try dsimp only); repeat' (first | ((with_reducible first | refine nq_next ?_ | refine nq_ret ?_ | refine ng_next ?_ | refine ng_ret ?_ | refine nq_cont ?_ | refine nq_brk ?_ | refine ng_cont ?_ | refine ng_brk ?_); (try dsimp only)) | (k_unfold; (try dsimp only)) | walk1 | (dsimp only; walk1) | (leave1; walk_say "STEP leave1"; try dsimp only)))
            refine Stop.go (rg2 (by assumption) (by assumption) ?_)
            intro ra h₆ tk₆ a₆ b₆ c₆ IR6 F₆ N₈
            have hgi := gli_succ lg (ns.getD r 0).natAbs i
            have hga : ga lg (ns.getD r 0).natAbs i = basF ns sy lg ((sts sy r).getD i 0) := by unfold ga basF bitF; rw [htr]
            have hgb : lg - ((ns.getD r 0).natAbs + i).log2 = bitF ns sy lg ((sts sy r).getD i 0) := by unfold bitF; rw [htr]
            rw [hga, hgb] at hgi
            have hgl := K.len (i := i + 1) (by omega)
            rw [hgi, List.length_append, List.length_range'] at hgl
            have hbb : basF ns sy lg ((sts sy r).getD i 0) + 2 ^ bitF ns sy lg ((sts sy r).getD i 0) ≤ 64 := by have := hB.1; have := hB.2; unfold basF; omega
            ((try dsimp only); repeat' (first | ((with_reducible first | refine nq_next ?_ | refine nq_ret ?_ | refine ng_next ?_ | refine ng_ret ?_ | refine nq_cont ?_ | refine nq_brk ?_ | refine ng_cont ?_ | refine ng_brk ?_); (try dsimp only)) | (k_unfold; (try dsimp only)) | walk1 | (dsimp only; walk1) | (leave1; walk_say "STEP leave1"; try dsimp only)))
            refine extend_range (a' := basF ns sy lg ((sts sy r).getD i 0)) (n := 2 ^ bitF ns sy lg ((sts sy r).getD i 0)) (ms := gli lg (ns.getD r 0).natAbs i) rfl (by assumption) (by assumption) (by (((repeat' (first | assumption | exact List.forall_mem_nil _ | exact off_nil | refine off_snoc ?_ ?_ | refine List.forall_mem_cons.mpr ⟨?_, ?_⟩)) <;> (try dsimp only) <;> first | assumption | exact Nat.ne_of_lt (by assumption) | exact Nat.ne_of_gt (by assumption) | exact Nat.ne_of_gt (by omega) | exact Nat.ne_of_lt (by omega) | exact allLt_ne (by assumption) | exact allLt_ne (rt1 (by assumption)) | exact allLt_ne (rt2 (by assumption)) | exact allLt_ne (rt3 (by assumption)) | exact allLt_ne (rt4 (by assumption)) | exact allLt_ne (rt5 (by assumption)) | exact fun p hp => Nat.ne_of_lt (‹∀ p ∈ _, p.1 < _› p hp) | exact fun p hp => Nat.ne_of_lt (Nat.lt_trans (‹∀ p ∈ _, p.1 < _› p hp) (by omega)) | exact allLt_ne2 (by assumption) (by omega) | exact allLt_ne2 (rt1 (by assumption)) (by omega) | exact allLt_ne2 (rt2 (by assumption)) (by omega) | exact allLt_ne2 (rt3 (by assumption)) (by omega)))) hI IR6 eva (by rw [evb, evc, Int.toNat_natCast, two_pow_cast, Int.natCast_add]) (by omega) (by omega) ?_
            intro us2 cap2 h₇ k₇ F₇ N₉ hI2
            ((try dsimp only); repeat' (first | ((with_reducible first | refine nq_next ?_ | refine nq_ret ?_ | refine ng_next ?_ | refine ng_ret ?_ | refine nq_cont ?_ | refine nq_brk ?_ | refine ng_cont ?_ | refine ng_brk ?_); (try dsimp only)) | (k_unfold; (try dsimp only)) | walk1 | (dsimp only; walk1) | (leave1; walk_say "STEP leave1"; try dsimp only)))
            refine FEnd.at ⟨us2, cap2⟩ (by assumption) (drop1 (drop1 (drop1 (drop1 (drop1 (drop1 (by assumption))))))) (by ((repeat' (first | exact List.forall_mem_nil _ | refine List.forall_mem_cons.mpr ⟨by with_unfolding_all rfl, ?_⟩)))) (by (((repeat (first | (with_reducible exact fun _ _ _ => rfl) | ((with_reducible refine same_lay ?nz53 ?_); (case nz53 => rfl)) | ((with_reducible refine same_kst ?nz53 ?_); (case nz53 => rfl)))); done))) ?_
            show IntsAre us2 (up (gli lg (ns.getD r 0).natAbs (i + 1)))
            rw [hgi]; exact hI2
          case done5 =>
            rintro ⟨us, cap⟩ u h tk hI F N
            dsimp only [List.cons_append, List.nil_append] at *
            rw [hhl, ← gl_gli, K.gl] at hI
            ((try dsimp only); repeat' (first | ((with_reducible first | refine nq_next ?_ | refine nq_ret ?_ | refine ng_next ?_ | refine ng_ret ?_ | refine nq_cont ?_ | refine nq_brk ?_ | refine ng_cont ?_ | refine ng_brk ?_); (try dsimp only)) | (k_unfold; (try dsimp only)) | walk1 | (dsimp only; walk1) | (leave1; walk_say "STEP leave1"; try dsimp only)))
            refine Stop.go (so_rot (z := 2 ^ lg) (by have := T.tb.l5; have := T.tb.l6; rcases (by omega : lg = 5 ∨ lg = 6) with rfl | rfl <;> simp) K.kl K.kev (by assumption) (by assumption) (.head _) hI ?_)
            intro lg2 us2 cg2 h₆ F₆ N₈ og hg2
            ((try dsimp only); repeat' (first | ((with_reducible first | refine nq_next ?_ | refine nq_ret ?_ | refine ng_next ?_ | refine ng_ret ?_ | refine nq_cont ?_ | refine nq_brk ?_ | refine ng_cont ?_ | refine ng_brk ?_); (try dsimp only)) | (k_unfold; (try dsimp only)) | walk1 | (dsimp only; walk1) | (leave1; walk_say "STEP leave1"; try dsimp only)))
            refine Stop.go (rg1 (by assumption) (by assumption) ?_)
            intro ra h₇ tk₇ a₇ b₇ c₇ IR7 F₇ N₉
            ((try dsimp only); repeat' (first | ((with_reducible first | refine nq_next ?_ | refine nq_ret ?_ | refine ng_next ?_ | refine ng_ret ?_ | refine nq_cont ?_ | refine nq_brk ?_ | refine ng_cont ?_ | refine ng_brk ?_); (try dsimp only)) | (k_unfold; (try dsimp only)) | walk1 | (dsimp only; walk1) | (leave1; walk_say "STEP leave1"; try dsimp only)))
            rw [show decide (up (List.range (2 ^ lg)) = rangeKs 0 (((2 ^ lg : Nat) : Int) - 0).toNat) = true from decide_eq_true (up_rangeKs _)]
            exact hret _ _ (by assumption) (drop0 (drop0 (drop0 (drop0 (drop0 (drop0 (drop0 (drop0 (drop0 (drop0 (drop0 (by assumption))))))))))))
end Kstates_right_
theorem states_right_ {w : World} {mean : ExcName → Option Value} {mg : Str → Option Value} {mb : Str → Option Value} {dp : Nat} {un : Nat} {gd : Option (List Code)} {cn : Str} {cs : Scope} {a : Addr} {ccd : Value} {cl : List (Str × Addr)} {outer : List Env} {A₀ : Around} {base : Heap} {h₀ : Heap} {L : Addr} {m : Str → Option Value} {news : List (Addr × Obj)} {s : Shared} {Q : Value → Shared → Prop} {E : Value → Shared → Prop} : states_right_S w mean mg mb dp un gd cn cs a ccd cl outer A₀ base h₀ L m news s Q E := pm_all (P := fun p => states_right_S p.w p.mean p.mg p.mb p.dp p.un p.gd p.cn p.cs p.a p.ccd p.cl p.outer p.A₀ p.base p.h₀ p.L p.m p.news p.s p.Q p.E) Kstates_right_.walk { pmD with w := w, mean := mean, mg := mg, mb := mb, dp := dp, un := un, gd := gd, cn := cn, cs := cs, a := a, ccd := ccd, cl := cl, outer := outer, A₀ := A₀, base := base, h₀ := h₀, L := L, m := m, news := news, s := s, Q := Q, E := E }
end
section -- E27
theorem walk_off_E27 : True := by
  w_top off
  exact trivial
local macro_rules | `(tactic| walk_at "CompSrc") => `(tactic| refine stop_of ?_)
local macro_rules | `(tactic| walk_at "call builtin:sorted") => `(tactic| refine stop_of ?_)
local macro_rules | `(tactic| walk_at "call builtin:len") => `(tactic| refine stop_of ?_)
local macro_rules | `(tactic| walk_at "call builtin:len") => `(tactic| refine stop_of ?_)
section
variable {w : World} {mean : ExcName → Option Value} {mg mb : Str → Option Value} {dp un : Nat} {gd : Option (List Code)} {cn : Str} {cs : Scope} {a : Addr} {ccd : Value} {cl : List (Str × Addr)} {outer : List Env} {A₀ : Around} {base h₀ : Heap} {L : Addr} {m : Str → Option Value} {rest news : List (Addr × Obj)} {s : Shared} {Q E : Value → Shared → Prop}
theorem ne_cell {h₀ h : Heap} {L a c : Addr} {news : List (Addr × Obj)} {vs : List Value} {e : Nat} {o : Obj} {v : Option Value} (N : News h₀ L h news) (h1 : (a, lst vs e) ∈ news) (h2 : (c, o) ∈ news) (hd : o.data = .cell v) : @Ne Nat c a := fun q => by
  have e1 := (N _ h1).1
  have e2 := (N _ h2).1
  dsimp only at e1 e2
  rw [q, e1] at e2
  have := Option.some.inj e2
  rw [← this] at hd
  cases hd
theorem ne_len {h₀ h : Heap} {L a c : Addr} {news : List (Addr × Obj)} {vs ws : List Value} {e e' : Nat} (N : News h₀ L h news) (h1 : (a, lst vs e) ∈ news) (h2 : (c, lst ws e') ∈ news) (hl : vs.length ≠ ws.length) : @Ne Nat c a := fun q => by
  have e1 := (N _ h1).1
  have e2 := (N _ h2).1
  dsimp only at e1 e2
  rw [q, e1] at e2
  have := Option.some.inj e2
  have hd := congrArg Obj.data this
  injection hd with hv _
  exact hl (by have := congrArg Array.size hv; simpa using this)
theorem counts_two {ns : List Int} {z : Nat} (hc : CountsOk ns z) (hz : 1 ≤ z) : 2 ≤ ns.length := by
  match ns, hc with
  | [], hc => have := hc.sum; simp at this; omega
  | [c], hc => have := hc.sum; have q := hc.lt c (.head _); simp at this; omega
  | _ :: _ :: _, _ => simp
theorem news_comm {h₀ h : Heap} {L : Addr} {l r : List (Addr × Obj)} (N : News h₀ L h (l ++ r)) : News h₀ L h (r ++ l) := cb_drop N fun p hp => by
  rcases List.mem_append.mp hp with hp | hp
  · exact List.mem_append_right _ hp
  · exact List.mem_append_left _ hp
theorem mn_next {ns : List Int} {i : Nat} {c : Int} (h : ns[i]? = some c) : up ((mn ns).take (i + 1)) = up ((mn ns).take i) ++ [if c < 0 then -c else c] := by
  have : (mn ns)[i]? = some c.natAbs := by unfold mn; rw [List.getElem?_map, h]; rfl
  rw [take_succ_get this, up_snoc]
  congr 2
  split <;> omega
def poss (ns : List Int) (i : Nat) : List Nat := (List.range i).filter fun s => decide (1 ≤ (ns.getD s 0).natAbs)
theorem poss_succ (ns : List Int) (i : Nat) : poss ns (i + 1) = if 1 ≤ (ns.getD i 0).natAbs then poss ns i ++ [i] else poss ns i := by
  unfold poss
  rw [List.range_succ, List.filter_append]
  by_cases h : 1 ≤ (ns.getD i 0).natAbs
  · rw [if_pos h]; simp only [List.filter_cons, h, decide_true, if_true, List.filter_nil]
  · rw [if_neg h]; simp only [List.filter_cons, h, decide_false, Bool.false_eq_true, if_false, List.filter_nil, List.append_nil]
theorem poss_len (ns : List Int) (i : Nat) : (poss ns i).length ≤ i := by
  have := List.length_filter_le (fun s => decide (1 ≤ (ns.getD s 0).natAbs)) (List.range i)
  unfold poss; rwa [List.length_range] at this
theorem poss_mem {ns : List Int} {i s : Nat} (h : s ∈ poss ns i) : s < i ∧ 1 ≤ (ns.getD s 0).natAbs := by
  unfold poss at h
  rw [List.mem_filter, List.mem_range] at h
  exact ⟨h.1, of_decide_eq_true h.2⟩
theorem poss_ne {ns : List Int} {z : Nat} (hc : CountsOk ns z) (hz : 1 ≤ z) : 1 ≤ (poss ns ns.length).length := by
  apply List.length_pos_iff.mpr
  intro q
  have all : ∀ c ∈ ns, c.natAbs = 0 := by
    intro c hm
    obtain ⟨i, hi, rfl⟩ := List.getElem_of_mem hm
    have : i ∉ poss ns ns.length := by rw [q]; exact List.not_mem_nil
    unfold poss at this
    rw [List.mem_filter, List.mem_range] at this
    have e : ns.getD i 0 = ns[i] := by rw [List.getD_eq_getElem?_getD, List.getElem?_eq_getElem hi]; rfl
    rw [e] at this
    rcases Nat.eq_zero_or_pos (ns[i]).natAbs with h | h
    · exact h
    · exact absurd ⟨hi, decide_eq_true h⟩ this
  have : (ns.map Int.natAbs).sum = 0 := by
    have : ns.map Int.natAbs = List.replicate ns.length 0 := List.eq_replicate_iff.mpr ⟨by simp, fun b hb => by obtain ⟨c, hm, rfl⟩ := List.mem_map.mp hb; exact all c hm⟩
    rw [this]; simp
  rw [hc.sum] at this
  omega
theorem rotX {h₀ h : Heap} {L : Addr} {a b c d e : Addr × Obj} {r : List (Addr × Obj)} (N : News h₀ L h (a :: b :: c :: d :: e :: r)) : News h₀ L h (e :: d :: a :: b :: c :: r) := cb_drop N (by (((repeat' (first | exact List.forall_mem_nil _ | refine subC (by ((repeat (first | assumption | exact List.Mem.head _ | exact List.mem_append_left _ (by assumption) | refine List.Mem.tail _ ?_ | refine List.mem_append_right _ ?_)))) ?_ | refine subA ?_ ?_)) <;> (intro p hp; ((repeat (first | assumption | exact List.Mem.head _ | exact List.mem_append_left _ (by assumption) | refine List.Mem.tail _ ?_ | refine List.mem_append_right _ ?_)))))))
theorem subX {a b c d e : Addr × Obj} {r : List (Addr × Obj)} : ∀ p ∈ [a, b, c] ++ ([d] ++ (e :: r)), p ∈ d :: e :: a :: b :: c :: r := by
  intro p hp
  simp only [List.cons_append, List.nil_append, List.mem_cons] at hp ⊢
  rcases hp with h | h | h | h | h | h <;> simp [h]
structure Pn where
  n : Int
  t : Tok
  e : Nat
theorem sorted_row (row : List Nat) : (row.mergeSort (fun a b => decide (a ≤ b))).Pairwise (· ≤ ·) :=
  (List.pairwise_mergeSort (fun a b c h1 h2 => by simp only [decide_eq_true_eq] at *; omega) (fun a b => by simp only [Bool.or_eq_true, decide_eq_true_eq]; omega) row).imp fun h => of_decide_eq_true h
theorem gen_du {P : Nat → Nat → Prop} (h : ∀ dp un, dp + 30 < recursionLimit → un + 8 * 30 < cLine → P dp un) : P 302 7 := h 302 7 (by decide) (by decide)
set_option maxRecDepth 100000 in
set_option maxHeartbeats 8000000 in
theorem tst : PySem.Challenge.rw_pq1208_01.Holds := by
  refine Hd.hdd ?_
  intro w s₀ s₁ mg mb G Y fa o pm cd doc dV kV ho hd hcd hD hmg hg args vals as hpre hlay hrd hwl hlo
  have KX : (Hd.hd.heap_1 w.params).In s₁.heap := Y
  refine Ground.open G ?_
  intro T B D TE TW
  first | refine el4 (based_of_top T rfl hmg ho hd) fun Xc Xp he B0 => ?_ | obtain ⟨Xc, Xp, he, B0⟩ := based_of_top T rfl hmg ho hd
  have he' : cd = _ := he
  subst he'
  clear he
  have K0 : Below callerA s₁.heap [] s₁.heap := below_caller _
  have he := Dflts.none hD rfl
  subst he
  have he := Dflts.noKw hD
  subst he
  clear hD hmg
  dsimp only [PySem.Calls.docDef] at hd
  dsimp only at hcd
  wrow_args hpre hlay hrd hwl hlo
  rename_i ss _ _ _ _ _ _ _ sa vs _ hL _ _ _ hI _ hlen _
  intro p
  refine Sem.wp_mono _ _ _ (fun _ _ _ q => q) (fun _ _ _ (q : False) => q.elim) p _ (wp_of_G (E := fun _ _ => False) ?_ p)
  have fin : ∀ (L : Addr) (h : Heap) (m : Str → Option Value) (tk : Nat), Fr s₁.heap L h m → GoodWG PySem.Challenge.rw_pq1208_01.row.claim (classAt s₀.heap) (ExcName.means s₀.heap) [ofPy (PyData.list (List.map PyData.int ss))] s₁ (Except.ok (Flow.ret (.bool true))) { s₁ with heap := h, toks := tk } := by
    intro L h m tk F
    exact goodWG_reads (by assumption) (by assumption) (by row_bare) (raisesW_false (by wrow_none_raised)) (by w_reads) (by exact unshared_nil) (postW_of (by wrow_shape) (by wtm_val) (by w_fin)) (by row_os)
  generalize GoodWG PySem.Challenge.rw_pq1208_01.row.claim (classAt s₀.heap) (ExcName.means s₀.heap) [ofPy (PyData.list (List.map PyData.int ss))] s₁ = Q at fin ⊢
  refine wpG_call ?_
  refine codeG_topC T ho hd hcd (by decide) (BindsTo.of_eq rfl) (by exact rfl) (by decide +kernel) ?_ rfl rfl rfl
  intro L' h' tk' cells' F' N' Y'
  clear hd hcd Y TE TW D B
  k_cells Y'
  (try simp only [List.cons_append, List.nil_append] at N')
  obtain ⟨s, hs⟩ : ∃ s : Shared, { s₁ with heap := h', toks := tk' } = s := ⟨_, rfl⟩
  have fin' : ∀ (h : Heap) (m : Str → Option Value) (tk : Nat), Fr s₁.heap L' h m → Q (Except.ok (Flow.ret (.bool true))) { s with heap := h, toks := tk } := by
    subst hs; exact fun h m tk F => fin L' h m tk F
  have hh : s.heap = h' := by subst hs; rfl
  rw [hs]
  clear hs fin
  subst hh
  refine gen_du (P := fun dp un => wpG _ (ktrTop dp un (some []) _ _ L' fa (.ref Xc) _ []) _ _ _) fun dp un hd30 hu30 => ?_
  clear B0 hg ho
  generalize s₁.heap = h₀ at *
  (try dsimp only)
  (try k_fold)
  (((try dsimp only); (repeat (with_reducible first | refine nq_next ?_ | refine nq_ret ?_ | refine ng_next ?_ | refine ng_ret ?_ | refine nq_cont ?_ | refine nq_brk ?_ | refine ng_cont ?_ | refine ng_brk ?_)); (with_reducible refine execsG_any ?_); ((try dsimp only); repeat' (first | ((with_reducible first | refine nq_next ?_ | refine nq_ret ?_ | refine ng_next ?_ | refine ng_ret ?_ | refine nq_cont ?_ | refine nq_brk ?_ | refine ng_cont ?_ | refine ng_brk ?_); (try dsimp only)) | (k_unfold; (try dsimp only)) | walk1 | (dsimp only; walk1) | (leave1; walk_say "STEP leave1"; try dsimp only)))))
  refine Stop.go (LCg.ListComp_U (F₀ := by assumption) (by with_unfolding_all rfl) (by decide) (by rfl) (by decide) (by rfl) ?_)
  ((try dsimp only); repeat' (first | ((with_reducible first | refine nq_next ?_ | refine nq_ret ?_ | refine ng_next ?_ | refine ng_ret ?_ | refine nq_cont ?_ | refine nq_brk ?_ | refine ng_cont ?_ | refine ng_brk ?_); (try dsimp only)) | (k_unfold; (try dsimp only)) | walk1 | (dsimp only; walk1) | (leave1; walk_say "STEP leave1"; try dsimp only)))
  have hvl : vs.length ≤ 63 := by rw [hI.length]; omega
  refine Stop.go (LCg.CompSrc.base rfl (by assumption) (by assumption) hL (by size_fits) (fun g => comp_rest (fun i ys => ys.length = i ∧ ∃ ns, IntsAre ys ns) (.inl hL) ?turn ?fin _ _ _ (Nat.add_zero _) ⟨rfl, [], IntsAre.nil⟩))
  case turn =>
    rintro i v ys I oI Cc oC D m₂ h tk E' hin hP ⟨hyl, ns, hn⟩ hC hm F N off ne
    obtain ⟨c, t, rfl, hc⟩ := IntsAre.at hI i v (by simpa using hP)
    ((try dsimp only); repeat' (first | ((with_reducible first | refine nq_next ?_ | refine nq_ret ?_ | refine ng_next ?_ | refine ng_ret ?_ | refine nq_cont ?_ | refine nq_brk ?_ | refine ng_cont ?_ | refine ng_brk ?_); (try dsimp only)) | (k_unfold; (try dsimp only)) | walk1 | (dsimp only; walk1) | (leave1; walk_say "STEP leave1"; try dsimp only)))
    refine CEnd.at (by assumption) (by assumption) ⟨by rw [List.length_append]; simp [hyl], ns ++ [_], hn.append (IntsAre.cons _ _ IntsAre.nil)⟩
  case fin =>
    rintro ys ⟨hyl, ns, hn⟩ D h tk F N off
    rw [List.size_toArray] at hyl
    ((try dsimp only); repeat' (first | ((with_reducible first | refine nq_next ?_ | refine nq_ret ?_ | refine ng_next ?_ | refine ng_ret ?_ | refine nq_cont ?_ | refine nq_brk ?_ | refine ng_cont ?_ | refine ng_brk ?_); (try dsimp only)) | (k_unfold; (try dsimp only)) | walk1 | (dsimp only; walk1) | (leave1; walk_say "STEP leave1"; try dsimp only)))
    have N₂ := drop1 (by assumption)
    ((try dsimp only); repeat' (first | ((with_reducible first | refine nq_next ?_ | refine nq_ret ?_ | refine ng_next ?_ | refine ng_ret ?_ | refine nq_cont ?_ | refine nq_brk ?_ | refine ng_cont ?_ | refine ng_brk ?_); (try dsimp only)) | (k_unfold; (try dsimp only)) | walk1 | (dsimp only; walk1) | (leave1; walk_say "STEP leave1"; try dsimp only)))
    (((try dsimp only); (repeat (with_reducible first | refine nq_next ?_ | refine nq_ret ?_ | refine ng_next ?_ | refine ng_ret ?_ | refine nq_cont ?_ | refine nq_brk ?_ | refine ng_cont ?_ | refine ng_brk ?_)); (with_reducible refine execsG_any ?_); ((try dsimp only); repeat' (first | ((with_reducible first | refine nq_next ?_ | refine nq_ret ?_ | refine ng_next ?_ | refine ng_ret ?_ | refine nq_cont ?_ | refine nq_brk ?_ | refine ng_cont ?_ | refine ng_brk ?_); (try dsimp only)) | (k_unfold; (try dsimp only)) | walk1 | (dsimp only; walk1) | (leave1; walk_say "STEP leave1"; try dsimp only)))))
    have N₃ := rot1 (by assumption)
    refine Stop.go (digit_ (by (exact ⟨by assumption, by assumption, by assumption, by assumption, rfl, by (first | omega | ((try simp only [depth_under_make, units_under_make, depth_in1, units_in1, depth_deeper, units_deeper]); (try dsimp only [ktrTop]); omega)), by (first | omega | ((try simp only [depth_under_make, units_under_make, depth_in1, units_in1, depth_deeper, units_deeper]); (try dsimp only [ktrTop]); omega))⟩)) N₃ (by (((repeat' (first | assumption | exact List.forall_mem_nil _ | exact off_nil | refine off_snoc ?_ ?_ | refine List.forall_mem_cons.mpr ⟨?_, ?_⟩)) <;> (try dsimp only) <;> first | assumption | exact Nat.ne_of_lt (by assumption) | exact Nat.ne_of_gt (by assumption) | exact Nat.ne_of_gt (by omega) | exact Nat.ne_of_lt (by omega) | exact allLt_ne (by assumption) | exact allLt_ne (rt1 (by assumption)) | exact allLt_ne (rt2 (by assumption)) | exact allLt_ne (rt3 (by assumption)) | exact allLt_ne (rt4 (by assumption)) | exact allLt_ne (rt5 (by assumption)) | exact fun p hp => Nat.ne_of_lt (‹∀ p ∈ _, p.1 < _› p hp) | exact fun p hp => Nat.ne_of_lt (Nat.lt_trans (‹∀ p ∈ _, p.1 < _› p hp) (by omega)) | exact allLt_ne2 (by assumption) (by omega) | exact allLt_ne2 (rt1 (by assumption)) (by omega) | exact allLt_ne2 (rt2 (by assumption)) (by omega) | exact allLt_ne2 (rt3 (by assumption)) (by omega)))) (by omega) (by omega) ?_)
    intro t₁ t₂ e₁ h₁ k₁ F₁ N₄
    ((try dsimp only); repeat' (first | ((with_reducible first | refine nq_next ?_ | refine nq_ret ?_ | refine ng_next ?_ | refine ng_ret ?_ | refine nq_cont ?_ | refine nq_brk ?_ | refine ng_cont ?_ | refine ng_brk ?_); (try dsimp only)) | (k_unfold; (try dsimp only)) | walk1 | (dsimp only; walk1) | (leave1; walk_say "STEP leave1"; try dsimp only)))
    refine Stop.go (int_item (ns := [6, 5]) (by assumption) (.tail _ (.head _)) (IntsAre.cons _ _ (IntsAre.cons _ _ IntsAre.nil)) (by omega) (by show _ < ((2 : Nat) : Int); omega) (by omega) ?_)
    intro lgv tl hlg
    obtain ⟨lg, hl, rfl⟩ : ∃ lg : Nat, (lg = 5 ∨ lg = 6) ∧ lgv = (lg : Int) := by
      rcases (by omega : (1 + ns.sum) % 2 = 0 ∨ (1 + ns.sum) % 2 = 1) with q | q
      · exact ⟨6, .inr rfl, by rw [hlg, q]; rfl⟩
      · exact ⟨5, .inl rfl, by rw [hlg, q]; rfl⟩
    clear hlg
    generalize (1 + ns.sum) / 2 = n₁ at *
    ((try dsimp only); repeat' (first | ((with_reducible first | refine nq_next ?_ | refine nq_ret ?_ | refine ng_next ?_ | refine ng_ret ?_ | refine nq_cont ?_ | refine nq_brk ?_ | refine ng_cont ?_ | refine ng_brk ?_); (try dsimp only)) | (k_unfold; (try dsimp only)) | walk1 | (dsimp only; walk1) | (leave1; walk_say "STEP leave1"; try dsimp only)))
    have e1 : (2 : Int) ^ (lg : Int).toNat = ((2 ^ lg : Nat) : Int) := by rw [Int.toNat_natCast, two_pow_cast]
    have hz8 : 32 ≤ 2 ^ lg ∧ 2 ^ lg ≤ 64 := by rcases hl with rfl | rfl <;> decide
    (((try dsimp only); (repeat (with_reducible first | refine nq_next ?_ | refine nq_ret ?_ | refine ng_next ?_ | refine ng_ret ?_ | refine nq_cont ?_ | refine nq_brk ?_ | refine ng_cont ?_ | refine ng_brk ?_)); (with_reducible refine execsG_any ?_); ((try dsimp only); repeat' (first | ((with_reducible first | refine nq_next ?_ | refine nq_ret ?_ | refine ng_next ?_ | refine ng_ret ?_ | refine nq_cont ?_ | refine nq_brk ?_ | refine ng_cont ?_ | refine ng_brk ?_); (try dsimp only)) | (k_unfold; (try dsimp only)) | walk1 | (dsimp only; walk1) | (leave1; walk_say "STEP leave1"; try dsimp only)))))
    rw [e1]
    refine Stop.go (counts_ (by (exact ⟨by assumption, by assumption, by assumption, by assumption, rfl, by (first | omega | ((try simp only [depth_under_make, units_under_make, depth_in1, units_in1, depth_deeper, units_deeper]); (try dsimp only [ktrTop]); omega)), by (first | omega | ((try simp only [depth_under_make, units_under_make, depth_in1, units_in1, depth_deeper, units_deeper]); (try dsimp only [ktrTop]); omega))⟩)) (drop1 (by assumption)) (by (((repeat' (first | assumption | exact List.forall_mem_nil _ | exact off_nil | refine off_snoc ?_ ?_ | refine List.forall_mem_cons.mpr ⟨?_, ?_⟩)) <;> (try dsimp only) <;> first | assumption | exact Nat.ne_of_lt (by assumption) | exact Nat.ne_of_gt (by assumption) | exact Nat.ne_of_gt (by omega) | exact Nat.ne_of_lt (by omega) | exact allLt_ne (by assumption) | exact allLt_ne (rt1 (by assumption)) | exact allLt_ne (rt2 (by assumption)) | exact allLt_ne (rt3 (by assumption)) | exact allLt_ne (rt4 (by assumption)) | exact allLt_ne (rt5 (by assumption)) | exact fun p hp => Nat.ne_of_lt (‹∀ p ∈ _, p.1 < _› p hp) | exact fun p hp => Nat.ne_of_lt (Nat.lt_trans (‹∀ p ∈ _, p.1 < _› p hp) (by omega)) | exact allLt_ne2 (by assumption) (by omega) | exact allLt_ne2 (rt1 (by assumption)) (by omega) | exact allLt_ne2 (rt2 (by assumption)) (by omega) | exact allLt_ne2 (rt3 (by assumption)) (by omega)))) (by omega) (by omega) ?_)
    intro r vs ns n₂ t₃ e₂ e₃ h₂ k₂ hc hi F₂ N₅
    have hvc : vs.length = ns.length := hi.length
    have hcl := hc.len
    have hcl2 := counts_two hc (by omega)
    have q1 := ne_len N₅ (.head _) (.tail _ (.head _)) (by rw [hvc]; show _ ≠ 1; omega)
    have q2 := ne_cell N₅ (.head _) (.tail _ (.tail _ (.head _))) (by assumption)
    have q3 := ne_cell N₅ (.head _) (.tail _ (.tail _ (.tail _ (.head _)))) (by assumption)
    have q4 := ne_cell N₅ (.head _) (.tail _ (.tail _ (.tail _ (.tail _ (.head _))))) (by assumption)
    ((try dsimp only); repeat' (first | ((with_reducible first | refine nq_next ?_ | refine nq_ret ?_ | refine ng_next ?_ | refine ng_ret ?_ | refine nq_cont ?_ | refine nq_brk ?_ | refine ng_cont ?_ | refine ng_brk ?_); (try dsimp only)) | (k_unfold; (try dsimp only)) | walk1 | (dsimp only; walk1) | (leave1; walk_say "STEP leave1"; try dsimp only)))
    (((try dsimp only); (repeat (with_reducible first | refine nq_next ?_ | refine nq_ret ?_ | refine ng_next ?_ | refine ng_ret ?_ | refine nq_cont ?_ | refine nq_brk ?_ | refine ng_cont ?_ | refine ng_brk ?_)); (with_reducible refine execsG_any ?_); ((try dsimp only); repeat' (first | ((with_reducible first | refine nq_next ?_ | refine nq_ret ?_ | refine ng_next ?_ | refine ng_ret ?_ | refine nq_cont ?_ | refine nq_brk ?_ | refine ng_cont ?_ | refine ng_brk ?_); (try dsimp only)) | (k_unfold; (try dsimp only)) | walk1 | (dsimp only; walk1) | (leave1; walk_say "STEP leave1"; try dsimp only)))))
    refine Stop.go (table_new (by (exact ⟨by assumption, by assumption, by assumption, by assumption, rfl, by (first | omega | ((try simp only [depth_under_make, units_under_make, depth_in1, units_in1, depth_deeper, units_deeper]); (try dsimp only [ktrTop]); omega)), by (first | omega | ((try simp only [depth_under_make, units_under_make, depth_in1, units_in1, depth_deeper, units_deeper]); (try dsimp only [ktrTop]); omega))⟩)) (by assumption) (by (((repeat' (first | assumption | exact List.forall_mem_nil _ | exact off_nil | refine off_snoc ?_ ?_ | refine List.forall_mem_cons.mpr ⟨?_, ?_⟩)) <;> (try dsimp only) <;> first | assumption | exact Nat.ne_of_lt (by assumption) | exact Nat.ne_of_gt (by assumption) | exact Nat.ne_of_gt (by omega) | exact Nat.ne_of_lt (by omega) | exact allLt_ne (by assumption) | exact allLt_ne (rt1 (by assumption)) | exact allLt_ne (rt2 (by assumption)) | exact allLt_ne (rt3 (by assumption)) | exact allLt_ne (rt4 (by assumption)) | exact allLt_ne (rt5 (by assumption)) | exact fun p hp => Nat.ne_of_lt (‹∀ p ∈ _, p.1 < _› p hp) | exact fun p hp => Nat.ne_of_lt (Nat.lt_trans (‹∀ p ∈ _, p.1 < _› p hp) (by omega)) | exact allLt_ne2 (by assumption) (by omega) | exact allLt_ne2 (rt1 (by assumption)) (by omega) | exact allLt_ne2 (rt2 (by assumption)) (by omega) | exact allLt_ne2 (rt3 (by assumption)) (by omega)))) hi hc hl ?_)
    intro o sy tb h₃ k₃ Tt ot F₃ N₆
    have t1 : ∀ p ∈ tb, p.1 ≠ r := fun p hp => ot p hp _ (.head _)
    have t2 := fun p hp => ot p hp _ (.tail _ (.head _))
    have t3 := fun p hp => ot p hp _ (.tail _ (.tail _ (.head _)))
    have t4 := fun p hp => ot p hp _ (.tail _ (.tail _ (.tail _ (.head _))))
    have t5 := fun p hp => ot p hp _ (.tail _ (.tail _ (.tail _ (.tail _ (.head _)))))
    dsimp only at t2 t3 t4 t5
    have N₇ := news_comm N₆
    simp only [List.cons_append, List.nil_append] at N₇
    ((try dsimp only); repeat' (first | ((with_reducible first | refine nq_next ?_ | refine nq_ret ?_ | refine ng_next ?_ | refine ng_ret ?_ | refine nq_cont ?_ | refine nq_brk ?_ | refine ng_cont ?_ | refine ng_brk ?_); (try dsimp only)) | (k_unfold; (try dsimp only)) | walk1 | (dsimp only; walk1) | (leave1; walk_say "STEP leave1"; try dsimp only)))
    (((try dsimp only); (repeat (with_reducible first | refine nq_next ?_ | refine nq_ret ?_ | refine ng_next ?_ | refine ng_ret ?_ | refine nq_cont ?_ | refine nq_brk ?_ | refine ng_cont ?_ | refine ng_brk ?_)); (with_reducible refine execsG_any ?_); ((try dsimp only); repeat' (first | ((with_reducible first | refine nq_next ?_ | refine nq_ret ?_ | refine ng_next ?_ | refine ng_ret ?_ | refine nq_cont ?_ | refine nq_brk ?_ | refine ng_cont ?_ | refine ng_brk ?_); (try dsimp only)) | (k_unfold; (try dsimp only)) | walk1 | (dsimp only; walk1) | (leave1; walk_say "STEP leave1"; try dsimp only)))))
    refine Stop.go (wpAny_Assign_Name ?_)
    ((try dsimp only); repeat' (first | ((with_reducible first | refine nq_next ?_ | refine nq_ret ?_ | refine ng_next ?_ | refine ng_ret ?_ | refine nq_cont ?_ | refine nq_brk ?_ | refine ng_cont ?_ | refine ng_brk ?_); (try dsimp only)) | (k_unfold; (try dsimp only)) | walk1 | (dsimp only; walk1) | (leave1; walk_say "STEP leave1"; try dsimp only)))
    refine Stop.go (LCg.ListComp_U (F₀ := by assumption) (by with_unfolding_all rfl) (by decide) (by rfl) (by decide) (by rfl) ?_)
    ((try dsimp only); repeat' (first | ((with_reducible first | refine nq_next ?_ | refine nq_ret ?_ | refine ng_next ?_ | refine ng_ret ?_ | refine nq_cont ?_ | refine nq_brk ?_ | refine ng_cont ?_ | refine ng_brk ?_); (try dsimp only)) | (k_unfold; (try dsimp only)) | walk1 | (dsimp only; walk1) | (leave1; walk_say "STEP leave1"; try dsimp only)))
    refine Stop.go (LCg.CompSrc.ledger rfl (by assumption) (by assumption) (.head _) (by size_fits) (fun g => comp_rest (fun i ys => IntsAre ys (up ((mn ns).take i))) (.inr ⟨_, .head _, rfl, _, rfl⟩) ?turn1 ?fin1 _ _ _ (Nat.add_zero _) IntsAre.nil))
    case turn1 =>
      rintro i v ys I oI Cc oC D m₂ h tk E' hin hP hy hC hm F N off ne
      obtain ⟨c, t, rfl, hc'⟩ := IntsAre.at hi i v (by simpa using hP)
      ((try dsimp only); repeat' (first | ((with_reducible first | refine nq_next ?_ | refine nq_ret ?_ | refine ng_next ?_ | refine ng_ret ?_ | refine nq_cont ?_ | refine nq_brk ?_ | refine ng_cont ?_ | refine ng_brk ?_); (try dsimp only)) | (k_unfold; (try dsimp only)) | walk1 | (dsimp only; walk1) | (leave1; walk_say "STEP leave1"; try dsimp only)))
      refine CEnd.at (by assumption) (by assumption) ?_
      rw [mn_next hc']
      exact hy.append (IntsAre.cons _ _ IntsAre.nil)
    case fin1 =>
      intro va hva lm h tk F N off
      rw [List.size_toArray, hvc, List.take_of_length_le (by simp [mn])] at hva
      first | refine el6 (off) fun a1 a2 a3 a4 a5 a6 => ?_ | obtain ⟨a1, a2, a3, a4, a5, a6⟩ := off
      ((try dsimp only); repeat' (first | ((with_reducible first | refine nq_next ?_ | refine nq_ret ?_ | refine ng_next ?_ | refine ng_ret ?_ | refine nq_cont ?_ | refine nq_brk ?_ | refine ng_cont ?_ | refine ng_brk ?_); (try dsimp only)) | (k_unfold; (try dsimp only)) | walk1 | (dsimp only; walk1) | (leave1; walk_say "STEP leave1"; try dsimp only)))
      (((try dsimp only); (repeat (with_reducible first | refine nq_next ?_ | refine nq_ret ?_ | refine ng_next ?_ | refine ng_ret ?_ | refine nq_cont ?_ | refine nq_brk ?_ | refine ng_cont ?_ | refine ng_brk ?_)); (with_reducible refine execsG_any ?_); ((try dsimp only); repeat' (first | ((with_reducible first | refine nq_next ?_ | refine nq_ret ?_ | refine ng_next ?_ | refine ng_ret ?_ | refine nq_cont ?_ | refine nq_brk ?_ | refine ng_cont ?_ | refine ng_brk ?_); (try dsimp only)) | (k_unfold; (try dsimp only)) | walk1 | (dsimp only; walk1) | (leave1; walk_say "STEP leave1"; try dsimp only)))))
      refine Stop.go (wpAny_Assign_Name ?_)
      ((try dsimp only); repeat' (first | ((with_reducible first | refine nq_next ?_ | refine nq_ret ?_ | refine ng_next ?_ | refine ng_ret ?_ | refine nq_cont ?_ | refine nq_brk ?_ | refine ng_cont ?_ | refine ng_brk ?_); (try dsimp only)) | (k_unfold; (try dsimp only)) | walk1 | (dsimp only; walk1) | (leave1; walk_say "STEP leave1"; try dsimp only)))
      refine Stop.go (LCt.ListComp_T (F₀ := by assumption) (by with_unfolding_all rfl) (by decide) (by rfl) (by decide) (by rfl) ?_)
      ((try dsimp only); repeat' (first | ((with_reducible first | refine nq_next ?_ | refine nq_ret ?_ | refine ng_next ?_ | refine ng_ret ?_ | refine nq_cont ?_ | refine nq_brk ?_ | refine ng_cont ?_ | refine ng_brk ?_); (try dsimp only)) | (k_unfold; (try dsimp only)) | walk1 | (dsimp only; walk1) | (leave1; walk_say "STEP leave1"; try dsimp only)))
      refine Stop.go (len_led (vs := vs) (cap := e₃) (by assumption) (.tail _ (.head _)) (by omega) ?_)
      intro kl tk1 tk2 hkl
      rw [hvc] at hkl
      subst hkl
      ((try dsimp only); repeat' (first | ((with_reducible first | refine nq_next ?_ | refine nq_ret ?_ | refine ng_next ?_ | refine ng_ret ?_ | refine nq_cont ?_ | refine nq_brk ?_ | refine ng_cont ?_ | refine ng_brk ?_); (try dsimp only)) | (k_unfold; (try dsimp only)) | walk1 | (dsimp only; walk1) | (leave1; walk_say "STEP leave1"; try dsimp only)))
      refine Stop.go (rg1 (by assumption) (by assumption) ?_)
      intro ra h₄ tk₄ a₇ b₇ c₇ IR F₄ N₈
      dsimp only
      refine LCt.CompSrcT.range (n := ns.length) rfl (by assumption) (by assumption) IR ?sm ?sz (by rw [sizeLine_eq]; omega) (fun g => comp_restT (fun i ys => IntsAre ys (up (poss ns i))) trivial ?turn2 ?fin2 _ _ _ (Nat.add_zero _) IntsAre.nil)
      case sm => exact rsm (by omega)
      case sz => exact rsz
      case turn2 =>
        rintro i v ys I oI Cc oC D m₂ h tk E' hin ⟨t, rfl⟩ hy hC hm F N off ne
        ((try dsimp only); repeat' (first | ((with_reducible first | refine nq_next ?_ | refine nq_ret ?_ | refine ng_next ?_ | refine ng_ret ?_ | refine nq_cont ?_ | refine nq_brk ?_ | refine ng_cont ?_ | refine ng_brk ?_); (try dsimp only)) | (k_unfold; (try dsimp only)) | walk1 | (dsimp only; walk1) | (leave1; walk_say "STEP leave1"; try dsimp only)))
        refine Stop.go (int_item (ns := up (mn ns)) (by assumption) (.tail _ (.tail _ (.tail _ (.head _)))) hva (by omega) (by rw [mn_len]; omega) (by omega) ?_)
        intro vm tm hvm
        have evm : vm = (((ns.getD i 0).natAbs : Nat) : Int) := by rw [hvm, show (0 + (i : Int)).toNat = i by omega]; exact mn_get hin
        subst evm
        ((try dsimp only); repeat' (first | ((with_reducible first | refine nq_next ?_ | refine nq_ret ?_ | refine ng_next ?_ | refine ng_ret ?_ | refine nq_cont ?_ | refine nq_brk ?_ | refine ng_cont ?_ | refine ng_brk ?_); (try dsimp only)) | (k_unfold; (try dsimp only)) | walk1 | (dsimp only; walk1) | (leave1; walk_say "STEP leave1"; try dsimp only)))
        · refine CEnd.at (by assumption) (by assumption) ?_
          rw [poss_succ, if_pos (by omega), up_snoc, show (0 + (i : Int)) = (i : Int) by omega]
          exact hy.append (IntsAre.cons _ _ IntsAre.nil)
        · refine CEnd.at (by assumption) (by assumption) ?_
          rw [poss_succ, if_neg (by omega)]
          exact hy
      case fin2 =>
        intro vb hvb lb h tk F N off
        first | refine el7 (off) fun b1 b2 b3 b4 b5 b6 b7 => ?_ | obtain ⟨b1, b2, b3, b4, b5, b6, b7⟩ := off
        have hbl : vb.length = (poss ns ns.length).length := by rw [hvb.length, up_len]
        have hbl1 := poss_ne hc (by omega)
        have hbl2 := poss_len ns ns.length
        ((try dsimp only); repeat' (first | ((with_reducible first | refine nq_next ?_ | refine nq_ret ?_ | refine ng_next ?_ | refine ng_ret ?_ | refine nq_cont ?_ | refine nq_brk ?_ | refine ng_cont ?_ | refine ng_brk ?_); (try dsimp only)) | (k_unfold; (try dsimp only)) | walk1 | (dsimp only; walk1) | (leave1; walk_say "STEP leave1"; try dsimp only)))
        (((try dsimp only); (repeat (with_reducible first | refine nq_next ?_ | refine nq_ret ?_ | refine ng_next ?_ | refine ng_ret ?_ | refine nq_cont ?_ | refine nq_brk ?_ | refine ng_cont ?_ | refine ng_brk ?_)); (with_reducible refine execsG_any ?_); ((try dsimp only); repeat' (first | ((with_reducible first | refine nq_next ?_ | refine nq_ret ?_ | refine ng_next ?_ | refine ng_ret ?_ | refine nq_cont ?_ | refine nq_brk ?_ | refine ng_cont ?_ | refine ng_brk ?_); (try dsimp only)) | (k_unfold; (try dsimp only)) | walk1 | (dsimp only; walk1) | (leave1; walk_say "STEP leave1"; try dsimp only)))))
        refine Stop.go ?_
        rename_i oS FS N₉ dS
        have hvb : IntsAre vb (up (poss ns ns.length)) := by assumption
        refine' it_list (σ := Unit) (vs := vb) (fun _ => []) [] _ (fun _ => []) [Str.ofString "symbol"] (fun _ _ => True) ()
          rfl ?isl ?ne1 (by simp) (fun _ => rfl) (by decide) (by simp) (by assumption) N₉ ?ps trivial ?turn3 ?done3
        case isl => exact ⟨_, (N₉ _ (.head _)).1, rfl, _, rfl⟩
        case ne1 => exact (N₉ _ (.head _)).2.1
        case ps => ((repeat' (first | exact List.forall_mem_nil _ | refine List.forall_mem_cons.mpr ⟨by with_unfolding_all rfl, ?_⟩)))
        case turn3 =>
          rintro i v - u h tk rest' hin hv - - hsub' F N
          dsimp only [List.cons_append, List.nil_append] at *
          obtain ⟨t, rfl, hil, hmem⟩ := row_at hvb hv
          first | refine el2 (poss_mem hmem) fun hm1 hm2 => ?_ | obtain ⟨hm1, hm2⟩ := poss_mem hmem
          have hm3 : (ns.getD ((poss ns ns.length).getD i 0) 0).natAbs < 2 ^ lg := by
            rw [List.getD_eq_getElem?_getD, List.getElem?_eq_getElem hm1]; exact hc.lt _ (List.getElem_mem hm1)
          have N₆ := News.put N (News.put N N (hsub' _ (.tail _ (.tail _ (.tail _ (.tail _ (.tail _ (.head _)))))))) (hsub' _ (.tail _ (.head _)))
          clear N
          ((try dsimp only); repeat' (first | ((with_reducible first | refine nq_next ?_ | refine nq_ret ?_ | refine ng_next ?_ | refine ng_ret ?_ | refine nq_cont ?_ | refine nq_brk ?_ | refine ng_cont ?_ | refine ng_brk ?_); (try dsimp only)) | (k_unfold; (try dsimp only)) | walk1 | (dsimp only; walk1) | (leave1; walk_say "STEP leave1"; try dsimp only)))
          refine Stop.go (int_item (ns := up (mn ns)) (by assumption) (.head _) hva (by omega) (by rw [mn_len]; omega) (by omega) ?_)
          intro vm tm hvm
          have evm : vm = (((ns.getD ((poss ns ns.length).getD i 0) 0).natAbs : Nat) : Int) := by rw [hvm]; exact mn_get hm1
          subst evm
          ((try dsimp only); repeat' (first | ((with_reducible first | refine nq_next ?_ | refine nq_ret ?_ | refine ng_next ?_ | refine ng_ret ?_ | refine nq_cont ?_ | refine nq_brk ?_ | refine ng_cont ?_ | refine ng_brk ?_); (try dsimp only)) | (k_unfold; (try dsimp only)) | walk1 | (dsimp only; walk1) | (leave1; walk_say "STEP leave1"; try dsimp only)))
          rw [e1]
          refine Stop.go (states_right_ (o := o) (by (exact ⟨by assumption, by assumption, by assumption, by assumption, rfl, by (first | omega | ((try simp only [depth_under_make, units_under_make, depth_in1, units_in1, depth_deeper, units_deeper]); (try dsimp only [ktrTop]); omega)), by (first | omega | ((try simp only [depth_under_make, units_under_make, depth_in1, units_in1, depth_deeper, units_deeper]); (try dsimp only [ktrTop]); omega))⟩)) (by assumption) (Tt.mono (fun p hp => .tail _ (.tail _ (hsub' p (.tail _ (.tail _ (.tail _ (.tail _ (.tail _ (.tail _ (.tail _ hp))))))))))) hcl hm2 hm3 ?_)
          intro h₅ k₅ F₅ N₁₀
          ((try dsimp only); repeat' (first | ((with_reducible first | refine nq_next ?_ | refine nq_ret ?_ | refine ng_next ?_ | refine ng_ret ?_ | refine nq_cont ?_ | refine nq_brk ?_ | refine ng_cont ?_ | refine ng_brk ?_); (try dsimp only)) | (k_unfold; (try dsimp only)) | walk1 | (dsimp only; walk1) | (leave1; walk_say "STEP leave1"; try dsimp only)))
          refine FEnd.at () (by assumption) (drop0 (drop0 (by assumption))) (by ((repeat' (first | exact List.forall_mem_nil _ | refine List.forall_mem_cons.mpr ⟨by with_unfolding_all rfl, ?_⟩)))) (by (((repeat (first | (with_reducible exact fun _ _ _ => rfl) | ((with_reducible refine same_lay ?nz55 ?_); (case nz55 => rfl)) | ((with_reducible refine same_kst ?nz55 ?_); (case nz55 => rfl)))); done))) trivial
        case done3 =>
          rintro - u h tk - F N
          dsimp only [List.cons_append, List.nil_append] at *
          change News h₀ L' h _ at N
          change Fr h₀ L' h _ at F
          have N₆ := rot3 N
          clear N
          (((try dsimp only); (repeat (with_reducible first | refine nq_next ?_ | refine nq_ret ?_ | refine ng_next ?_ | refine ng_ret ?_ | refine nq_cont ?_ | refine nq_brk ?_ | refine ng_cont ?_ | refine ng_brk ?_)); (with_reducible refine execsG_any ?_); ((try dsimp only); repeat' (first | ((with_reducible first | refine nq_next ?_ | refine nq_ret ?_ | refine ng_next ?_ | refine ng_ret ?_ | refine nq_cont ?_ | refine nq_brk ?_ | refine ng_cont ?_ | refine ng_brk ?_); (try dsimp only)) | (k_unfold; (try dsimp only)) | walk1 | (dsimp only; walk1) | (leave1; walk_say "STEP leave1"; try dsimp only)))))
          refine Stop.go (LCg.Assign_ListComp_U (F₀ := by assumption) rfl (by with_unfolding_all rfl) (by with_unfolding_all rfl) (by decide) (by rfl) (by decide) (by rfl) (by rfl) (by rfl) ?_)
          ((try dsimp only); repeat' (first | ((with_reducible first | refine nq_next ?_ | refine nq_ret ?_ | refine ng_next ?_ | refine ng_ret ?_ | refine nq_cont ?_ | refine nq_brk ?_ | refine ng_cont ?_ | refine ng_brk ?_); (try dsimp only)) | (k_unfold; (try dsimp only)) | walk1 | (dsimp only; walk1) | (leave1; walk_say "STEP leave1"; try dsimp only)))
          have s1 : @Ne Nat lb _ := Ne.symm b3
          have s2 : @Ne Nat lm _ := Ne.symm a2
          have s3 : @Ne Nat r _ := Ne.symm q1
          refine Stop.go (digit_ (by (exact ⟨by assumption, by assumption, by assumption, by assumption, rfl, by (first | omega | ((try simp only [depth_under_make, units_under_make, depth_in1, units_in1, depth_deeper, units_deeper]); (try dsimp only [ktrTop]); omega)), by (first | omega | ((try simp only [depth_under_make, units_under_make, depth_in1, units_in1, depth_deeper, units_deeper]); (try dsimp only [ktrTop]); omega))⟩)) (by assumption) (by (((repeat' (first | assumption | exact List.forall_mem_nil _ | exact off_nil | refine off_snoc ?_ ?_ | refine List.forall_mem_cons.mpr ⟨?_, ?_⟩)) <;> (try dsimp only) <;> first | assumption | exact Nat.ne_of_lt (by assumption) | exact Nat.ne_of_gt (by assumption) | exact Nat.ne_of_gt (by omega) | exact Nat.ne_of_lt (by omega) | exact allLt_ne (by assumption) | exact allLt_ne (rt1 (by assumption)) | exact allLt_ne (rt2 (by assumption)) | exact allLt_ne (rt3 (by assumption)) | exact allLt_ne (rt4 (by assumption)) | exact allLt_ne (rt5 (by assumption)) | exact fun p hp => Nat.ne_of_lt (‹∀ p ∈ _, p.1 < _› p hp) | exact fun p hp => Nat.ne_of_lt (Nat.lt_trans (‹∀ p ∈ _, p.1 < _› p hp) (by omega)) | exact allLt_ne2 (by assumption) (by omega) | exact allLt_ne2 (rt1 (by assumption)) (by omega) | exact allLt_ne2 (rt2 (by assumption)) (by omega) | exact allLt_ne2 (rt3 (by assumption)) (by omega)))) (by omega) (by omega) ?_)
          intro t₄ t₅ e₄ h₅ k₅ F₅ N₁₀
          ((try dsimp only); repeat' (first | ((with_reducible first | refine nq_next ?_ | refine nq_ret ?_ | refine ng_next ?_ | refine ng_ret ?_ | refine nq_cont ?_ | refine nq_brk ?_ | refine ng_cont ?_ | refine ng_brk ?_); (try dsimp only)) | (k_unfold; (try dsimp only)) | walk1 | (dsimp only; walk1) | (leave1; walk_say "STEP leave1"; try dsimp only)))
          refine Stop.go (rg1 (by assumption) (by assumption) ?_)
          intro ra h₆ tk₆ a₇ b₇ c₇ IR F₆ N₁₁
          obtain ⟨k, hk, hk1, hk12⟩ : ∃ k : Nat, 1 + n₂ % 12 = (k : Int) ∧ 1 ≤ k ∧ k ≤ 12 := ⟨(1 + n₂ % 12).toNat, by omega, by omega, by omega⟩
          rw [hk] at IR
          dsimp only
          refine LCg.CompSrc.range (n := k) rfl (by assumption) N₁₁ IR ?sm4 ?sz4 (by rw [sizeLine_eq]; omega) (fun g => comp_gen (σ := Pn) (fun c => [(_, lst [.int c.n c.t] c.e)]) (fun i ys c => ∃ row : List Nat, row.length = i ∧ (∀ s ∈ row, 1 ≤ (ns.getD s 0).natAbs) ∧ IntsAre ys (up row)) (fun _ => trivial) ?turn4 ?fin4 _ _ _ ⟨n₂ / 12, t₅, e₄⟩ (Nat.add_zero _) ⟨[], rfl, by simp, IntsAre.nil⟩)
          case sm4 => exact rsm (by omega)
          case sz4 => exact rsz
          case turn4 =>
            rintro i v ys ⟨np, tp, ep⟩ I oI Cc oC D m₂ h tk E' hin ⟨t, rfl⟩ ⟨row, hrl, hrm, hri⟩ hC hm F N off ne
            dsimp only [List.cons_append, List.nil_append] at N off ⊢
            obtain ⟨⟨d1, d2, d3⟩, -⟩ := id off
            have N₁₂ := rotX N
            clear N
            ((try dsimp only); repeat' (first | ((with_reducible first | refine nq_next ?_ | refine nq_ret ?_ | refine ng_next ?_ | refine ng_ret ?_ | refine nq_cont ?_ | refine nq_brk ?_ | refine ng_cont ?_ | refine ng_brk ?_); (try dsimp only)) | (k_unfold; (try dsimp only)) | walk1 | (dsimp only; walk1) | (leave1; walk_say "STEP leave1"; try dsimp only)))
            refine Stop.go (len_led (vs := vb) (cap := vb.length) (by assumption) (.head _) (by omega) ?_)
            intro kl tk1 tk2 hkl
            rw [hbl] at hkl
            subst hkl
            ((try dsimp only); repeat' (first | ((with_reducible first | refine nq_next ?_ | refine nq_ret ?_ | refine ng_next ?_ | refine ng_ret ?_ | refine nq_cont ?_ | refine nq_brk ?_ | refine ng_cont ?_ | refine ng_brk ?_); (try dsimp only)) | (k_unfold; (try dsimp only)) | walk1 | (dsimp only; walk1) | (leave1; walk_say "STEP leave1"; try dsimp only)))
            have s4 := Ne.symm d1
            have s5 := Ne.symm d2
            have s6 := Ne.symm d3
            have w1 : 0 ≤ np % ((poss ns ns.length).length : Int) := Int.emod_nonneg _ (by omega)
            have w2 : np % ((poss ns ns.length).length : Int) < (poss ns ns.length).length := Int.emod_lt_of_pos _ (by omega)
            refine Stop.go (digit_ (by (exact ⟨by assumption, by assumption, by assumption, by assumption, rfl, by (first | omega | ((try simp only [depth_under_make, units_under_make, depth_in1, units_in1, depth_deeper, units_deeper]); (try dsimp only [ktrTop]); omega)), by (first | omega | ((try simp only [depth_under_make, units_under_make, depth_in1, units_in1, depth_deeper, units_deeper]); (try dsimp only [ktrTop]); omega))⟩)) (rot1 N₁₂) (by (((repeat' (first | assumption | exact List.forall_mem_nil _ | exact off_nil | refine off_snoc ?_ ?_ | refine List.forall_mem_cons.mpr ⟨?_, ?_⟩)) <;> (try dsimp only) <;> first | assumption | exact Nat.ne_of_lt (by assumption) | exact Nat.ne_of_gt (by assumption) | exact Nat.ne_of_gt (by omega) | exact Nat.ne_of_lt (by omega) | exact allLt_ne (by assumption) | exact allLt_ne (rt1 (by assumption)) | exact allLt_ne (rt2 (by assumption)) | exact allLt_ne (rt3 (by assumption)) | exact allLt_ne (rt4 (by assumption)) | exact allLt_ne (rt5 (by assumption)) | exact fun p hp => Nat.ne_of_lt (‹∀ p ∈ _, p.1 < _› p hp) | exact fun p hp => Nat.ne_of_lt (Nat.lt_trans (‹∀ p ∈ _, p.1 < _› p hp) (by omega)) | exact allLt_ne2 (by assumption) (by omega) | exact allLt_ne2 (rt1 (by assumption)) (by omega) | exact allLt_ne2 (rt2 (by assumption)) (by omega) | exact allLt_ne2 (rt3 (by assumption)) (by omega)))) (by omega) (by omega) ?_)
            intro t₆ t₇ e₅ h₇ k₇ F₇ N₁₃
            generalize np % ((poss ns ns.length).length : Int) = q at *
            ((try dsimp only); repeat' (first | ((with_reducible first | refine nq_next ?_ | refine nq_ret ?_ | refine ng_next ?_ | refine ng_ret ?_ | refine nq_cont ?_ | refine nq_brk ?_ | refine ng_cont ?_ | refine ng_brk ?_); (try dsimp only)) | (k_unfold; (try dsimp only)) | walk1 | (dsimp only; walk1) | (leave1; walk_say "STEP leave1"; try dsimp only)))
            refine Stop.go (int_item (ns := up (poss ns ns.length)) (by assumption) (.tail _ (.head _)) hvb w1 (by rw [up_len]; exact w2) (by omega) ?_)
            intro vm tm hvm
            rw [up_getD] at hvm
            subst hvm
            ((try dsimp only); repeat' (first | ((with_reducible first | refine nq_next ?_ | refine nq_ret ?_ | refine ng_next ?_ | refine ng_ret ?_ | refine nq_cont ?_ | refine nq_brk ?_ | refine ng_cont ?_ | refine ng_brk ?_); (try dsimp only)) | (k_unfold; (try dsimp only)) | walk1 | (dsimp only; walk1) | (leave1; walk_say "STEP leave1"; try dsimp only)))
            refine CEndG.at ⟨_, t₇, e₅⟩ (by assumption) N₁₃ subX off ⟨row ++ [(poss ns ns.length).getD q.toNat 0], by rw [List.length_append, hrl]; rfl, ?_, by rw [up_snoc]; exact hri.append (IntsAre.cons _ _ IntsAre.nil)⟩
            intro s hs
            rcases List.mem_append.mp hs with hs | hs
            · exact hrm s hs
            · rw [List.mem_singleton.mp hs]
              exact (poss_mem (getD_mem (by omega))).2
          case fin4 =>
            rintro vr ⟨np, tp, ep⟩ ⟨row, hrl, hrm, hri⟩ lr h tk F N off
            dsimp only [List.cons_append, List.nil_append] at N off ⊢
            have N₁₃ := rot1 N
            clear N
            first | refine el8 (off) fun r1 r2 r3 r4 r5 r6 r7 r8 => ?_ | obtain ⟨r1, r2, r3, r4, r5, r6, r7, r8⟩ := off
            ((try dsimp only); repeat' (first | ((with_reducible first | refine nq_next ?_ | refine nq_ret ?_ | refine ng_next ?_ | refine ng_ret ?_ | refine nq_cont ?_ | refine nq_brk ?_ | refine ng_cont ?_ | refine ng_brk ?_); (try dsimp only)) | (k_unfold; (try dsimp only)) | walk1 | (dsimp only; walk1) | (leave1; walk_say "STEP leave1"; try dsimp only)))
            (((try dsimp only); (repeat (with_reducible first | refine nq_next ?_ | refine nq_ret ?_ | refine ng_next ?_ | refine ng_ret ?_ | refine nq_cont ?_ | refine nq_brk ?_ | refine ng_cont ?_ | refine ng_brk ?_)); with_reducible refine execsG_cons ?_))
            refine G_For ?_
            ((try dsimp only); repeat' (first | ((with_reducible first | refine nq_next ?_ | refine nq_ret ?_ | refine ng_next ?_ | refine ng_ret ?_ | refine nq_cont ?_ | refine nq_brk ?_ | refine ng_cont ?_ | refine ng_brk ?_); (try dsimp only)) | (k_unfold; (try dsimp only)) | walk1 | (dsimp only; walk1) | (leave1; walk_say "STEP leave1"; try dsimp only)))
            refine Stop.go ?_
            have hvr : vr.length = k := by rw [hri.length, up_len, hrl]
            k_dflt (refine' sl_rev (row := row) ?F ?N (.tail _ (.head _)) hri (by omega) ?_ ?s ?t; (case F => k_asm); (case N => k_asm); (case s => with_unfolding_all rfl); (case t => kmk_pure); k_whole)
            intro D1 w1 h₄ F₄ N₁₄ o1 a1
            ((try dsimp only); repeat' (first | ((with_reducible first | refine nq_next ?_ | refine nq_ret ?_ | refine ng_next ?_ | refine ng_ret ?_ | refine nq_cont ?_ | refine nq_brk ?_ | refine ng_cont ?_ | refine ng_brk ?_); (try dsimp only)) | (k_unfold; (try dsimp only)) | walk1 | (dsimp only; walk1) | (leave1; walk_say "STEP leave1"; try dsimp only)))
            have sp := List.mergeSort_perm row (fun a b => decide (a ≤ b))
            have ss2 : (row.mergeSort (fun a b => decide (a ≤ b))).Pairwise (· ≤ ·) := sorted_row row
            refine Stop.go (so_led (L := row) (by assumption) N₁₄ (.tail _ (.tail _ (.head _))) hri (by omega) sp.symm ss2 ?_)
            generalize row.mergeSort (fun a b => decide (a ≤ b)) = srow at *
            intro D2 w2 c2 h₅ F₅ N₁₅ o2 a2'
            ((try dsimp only); repeat' (first | ((with_reducible first | refine nq_next ?_ | refine nq_ret ?_ | refine ng_next ?_ | refine ng_ret ?_ | refine nq_cont ?_ | refine nq_brk ?_ | refine ng_cont ?_ | refine ng_brk ?_); (try dsimp only)) | (k_unfold; (try dsimp only)) | walk1 | (dsimp only; walk1) | (leave1; walk_say "STEP leave1"; try dsimp only)))
            rename_i FL NL _
            refine Stop.go ?_
            have hvb2 : IntsAre vb (up (poss ns ns.length)) := hvb
            have RW0 : Rw ns row := ⟨fun q => by rw [q] at hrl; simp at hrl; omega, by omega, hrm⟩
            have RW1 : Rw ns row.reverse := ⟨by simpa using RW0.ne, by rw [List.length_reverse]; omega, fun s hs => hrm s (List.mem_reverse.mp hs)⟩
            have RW2 : Rw ns srow := ⟨fun q => RW0.ne (by have := sp.length_eq; rw [q] at this; exact List.length_eq_zero_iff.mp this.symm), by rw [sp.length_eq]; omega, fun s hs => hrm s (sp.mem_iff.mp hs)⟩
            refine' it_listG (σ := Unit) (vs := [.ref lr, .ref D1, .ref D2]) (cap := 0) (fun _ => []) [] _ (fun _ => []) [Str.ofString "told"] (fun _ _ => True) ()
              rfl (by rfl) (by rfl) (.head _) (fun _ => rfl) (by decide) (by simp) (by assumption) NL ?ps5 trivial ?turn5 ?done5
            case ps5 => ((repeat' (first | exact List.forall_mem_nil _ | refine List.forall_mem_cons.mpr ⟨by with_unfolding_all rfl, ?_⟩)))
            case turn5 =>
              rintro i v - u h tk rest' hin hv - - hsub' F N
              dsimp only [List.cons_append, List.nil_append] at *
              change News h₀ L' h _ at N
              change Fr h₀ L' h _ at F
              obtain ⟨lt, vt, ct, rt, rfl, hmt, hit, hRt⟩ : ∃ lt vt ct rt, v = .ref lt ∧ (lt, lst vt ct) ∈ rest' ∧ IntsAre vt (up rt) ∧ Rw ns rt := by
                match i, hin, hv with
                | 0, _, hv => exact ⟨lr, vr, _, row, (Option.some.inj hv).symm, hsub' _ (.tail _ (.tail _ (.tail _ (.tail _ (.head _))))), hri, RW0⟩
                | 1, _, hv => exact ⟨D1, w1, _, _, (Option.some.inj hv).symm, hsub' _ (.tail _ (.tail _ (.head _))), a1, RW1⟩
                | 2, _, hv => exact ⟨D2, w2, _, _, (Option.some.inj hv).symm, hsub' _ (.tail _ (.head _)), a2', RW2⟩
                | n + 3, hin, _ => exact absurd hin (by simp)
              have N₆ := News.put N N (hsub' _ (.tail _ (.tail _ (.tail _ (.tail _ (.tail _ (.tail _ (.tail _ (.tail _ (.tail _ (.head _)))))))))))
              clear N
              (((try dsimp only); (repeat (with_reducible first | refine nq_next ?_ | refine nq_ret ?_ | refine ng_next ?_ | refine ng_ret ?_ | refine nq_cont ?_ | refine nq_brk ?_ | refine ng_cont ?_ | refine ng_brk ?_)); with_reducible refine execsG_cons ?_))
              refine G_If ?_
              refine G_isTrue_not ?_
              refine G_isTrue_plain ?_
              refine G_Call ?_
              ((try dsimp only); repeat' (first | ((with_reducible first | refine nq_next ?_ | refine nq_ret ?_ | refine ng_next ?_ | refine ng_ret ?_ | refine nq_cont ?_ | refine nq_brk ?_ | refine ng_cont ?_ | refine ng_brk ?_); (try dsimp only)) | (k_unfold; (try dsimp only)) | walk1 | (dsimp only; walk1) | (leave1; walk_say "STEP leave1"; try dsimp only)))
              ((k_dflt (first | (refine' gc_K0' ?k1z54 ?k3z54 ?k2z54 ?_; (case k1z54 => k_asm); (case k3z54 => k_asm); (case k2z54 => k_is)) | (refine' gc_K ?k1z54 ?k2z54 ?_; (case k1z54 => k_asm); (case k2z54 => k_is)))))
              ((try dsimp only); repeat' (first | ((with_reducible first | refine nq_next ?_ | refine nq_ret ?_ | refine ng_next ?_ | refine ng_ret ?_ | refine nq_cont ?_ | refine nq_brk ?_ | refine ng_cont ?_ | refine ng_brk ?_); (try dsimp only)) | (k_unfold; (try dsimp only)) | walk1 | (dsimp only; walk1) | (leave1; walk_say "STEP leave1"; try dsimp only)))
              refine row_right_ (o := o) (by (exact ⟨by assumption, by assumption, by assumption, by assumption, rfl, by (first | omega | ((try simp only [depth_under_make, units_under_make, depth_in1, units_in1, depth_deeper, units_deeper]); (try dsimp only [ktrTop]); omega)), by (first | omega | ((try simp only [depth_under_make, units_under_make, depth_in1, units_in1, depth_deeper, units_deeper]); (try dsimp only [ktrTop]); omega))⟩)) (by assumption) (Tt.mono (fun p hp => .tail _ (hsub' p (.tail _ (.tail _ (.tail _ (.tail _ (.tail _ (.tail _ (.tail _ (.tail _ (.tail _ (.tail _ (.tail _ hp)))))))))))))) hcl (.tail _ hmt) hit (.tail _ (hsub' _ (.tail _ (.tail _ (.tail _ (.tail _ (.tail _ (.tail _ (.head _))))))))) hva hRt ?_
              intro h₇ k₇ F₇ N₁₆
              ((try dsimp only); repeat' (first | ((with_reducible first | refine nq_next ?_ | refine nq_ret ?_ | refine ng_next ?_ | refine ng_ret ?_ | refine nq_cont ?_ | refine nq_brk ?_ | refine ng_cont ?_ | refine ng_brk ?_); (try dsimp only)) | (k_unfold; (try dsimp only)) | walk1 | (dsimp only; walk1) | (leave1; walk_say "STEP leave1"; try dsimp only)))
              (((try dsimp only); (repeat (with_reducible first | refine nq_next ?_ | refine nq_ret ?_ | refine ng_next ?_ | refine ng_ret ?_ | refine nq_cont ?_ | refine nq_brk ?_ | refine ng_cont ?_ | refine ng_brk ?_)); (with_reducible refine execsG_nil ?_); (try dsimp only); (repeat (with_reducible first | refine nq_next ?_ | refine nq_ret ?_ | refine ng_next ?_ | refine ng_ret ?_ | refine nq_cont ?_ | refine nq_brk ?_ | refine ng_cont ?_ | refine ng_brk ?_)); (try dsimp only); ((try dsimp only); repeat' (first | ((with_reducible first | refine nq_next ?_ | refine nq_ret ?_ | refine ng_next ?_ | refine ng_ret ?_ | refine nq_cont ?_ | refine nq_brk ?_ | refine ng_cont ?_ | refine ng_brk ?_); (try dsimp only)) | (k_unfold; (try dsimp only)) | walk1 | (dsimp only; walk1) | (leave1; walk_say "STEP leave1"; try dsimp only)))))
              (((try dsimp only); (repeat (with_reducible first | refine nq_next ?_ | refine nq_ret ?_ | refine ng_next ?_ | refine ng_ret ?_ | refine nq_cont ?_ | refine nq_brk ?_ | refine ng_cont ?_ | refine ng_brk ?_)); (with_reducible refine execsG_nil ?_); (try dsimp only); (repeat (with_reducible first | refine nq_next ?_ | refine nq_ret ?_ | refine ng_next ?_ | refine ng_ret ?_ | refine nq_cont ?_ | refine nq_brk ?_ | refine ng_cont ?_ | refine ng_brk ?_)); (try dsimp only); ((try dsimp only); repeat' (first | ((with_reducible first | refine nq_next ?_ | refine nq_ret ?_ | refine ng_next ?_ | refine ng_ret ?_ | refine nq_cont ?_ | refine nq_brk ?_ | refine ng_cont ?_ | refine ng_brk ?_); (try dsimp only)) | (k_unfold; (try dsimp only)) | walk1 | (dsimp only; walk1) | (leave1; walk_say "STEP leave1"; try dsimp only)))))
              refine FEnd.at () (by assumption) (drop0 (by assumption)) (by ((repeat' (first | exact List.forall_mem_nil _ | refine List.forall_mem_cons.mpr ⟨by with_unfolding_all rfl, ?_⟩)))) (by (((repeat (first | (with_reducible exact fun _ _ _ => rfl) | ((with_reducible refine same_lay ?nz56 ?_); (case nz56 => rfl)) | ((with_reducible refine same_kst ?nz56 ?_); (case nz56 => rfl)))); done))) trivial
            case done5 =>
              rintro - u h tk - F N
              dsimp only [List.cons_append, List.nil_append] at *
              change News h₀ L' h _ at N
              change Fr h₀ L' h _ at F
              (((try dsimp only); (repeat (with_reducible first | refine nq_next ?_ | refine nq_ret ?_ | refine ng_next ?_ | refine ng_ret ?_ | refine nq_cont ?_ | refine nq_brk ?_ | refine ng_cont ?_ | refine ng_brk ?_)); (with_reducible refine execsG_any ?_); ((try dsimp only); repeat' (first | ((with_reducible first | refine nq_next ?_ | refine nq_ret ?_ | refine ng_next ?_ | refine ng_ret ?_ | refine nq_cont ?_ | refine nq_brk ?_ | refine ng_cont ?_ | refine ng_brk ?_); (try dsimp only)) | (k_unfold; (try dsimp only)) | walk1 | (dsimp only; walk1) | (leave1; walk_say "STEP leave1"; try dsimp only)))))
              exact fin' _ _ _ (by assumption)
end
end
end
end
end Mine
theorem PySem.Challenge.cw_pq1208_01_holds : PySem.Challenge.rw_pq1208_01.Holds :=
  Mine.tst
