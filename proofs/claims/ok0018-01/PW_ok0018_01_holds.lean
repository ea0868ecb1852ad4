import PyProof.Rows.All
import Wide.All
import OpenK.AllK
import Wide.FinOn
import Lean
import PySem.Challenge.RW_ok0018_01
set_option Elab.async false
set_option maxRecDepth 100000
set_option linter.all false
section
open PySem PySem.Spec PySem.Calls PyProof.Rows PySem.W PySem.W.X

/-- the caller's own context: the machine starts there -/
noncomputable def Mine.g0 : PySem.Ctx := ⟨.builtin "claim.caller" {}, none, none, [], none⟩

theorem Mine.runs_from {c : ClaimW} {tree : List Value → Sem Fin} {w : World} {s : Shared} {free : Addr → Prop} {gens : Prop} {kept : Heap → Prop}
    (hz : s.asleep) (hg : s.gens = #[])
    (spec : ∀ args, c.pre args = true → WData.layableAll args = true → ∀ ord : List DictEntry → List DictEntry, (∀ l, (ord l).Perm l) →
      ∃ vs s₁, layAllW c.records (classAt s.heap) w.params ord args s = some (vs, s₁) ∧
        Sem.wp (model c.prog w) Mine.g0 (tree vs)
          (fun fin _ s' => ∃ f, fin = .done f ∧ c.Ends s args vs s₁ (.ok f) s' ∧ s'.os = s.os ∧ AllBare s'.gens ∧ kept s'.heap)
          (fun e _ s' => c.Ends s args vs s₁ (.error e) s' ∧ s'.os = s.os ∧ AllBare s'.gens ∧ kept s'.heap) default s₁) :
    c.CallFrom (fun vs => ⟨tree vs, .builtin "claim.caller" {}, default, []⟩) w free gens kept s := by
  intro args hp hl ord ho
  obtain ⟨vs, s₁, lay, W⟩ := spec args hp hl ord ho
  have al := layAllW_rest _ _ _ lay
  have W' : Sem.wp (model c.prog w) Mine.g0 (tree vs)
      (Sem.finPost (model c.prog w) Mine.g0 fun r s' => (c.Ends s args vs s₁ r s' ∧ s'.os = s.os ∧ kept s'.heap) ∧ leftWithCleanup s'.gens = false)
      (fun e _ s' => (c.Ends s args vs s₁ (.error e) s' ∧ s'.os = s.os ∧ kept s'.heap) ∧ leftWithCleanup s'.gens = false) default s₁ := by
    refine Sem.wp_mono _ _ _ (fun fin _ s' h => ?_) (fun e _ s' h => ?_) _ _ W
    · obtain ⟨f, rfl, h1, h2, h3, h4⟩ := h
      exact ⟨⟨h1, h2, h4⟩, leftWithCleanup_false_of_bare h3⟩
    · exact ⟨⟨h.1, h.2.1, h.2.2.2⟩, leftWithCleanup_false_of_bare h.2.2.1⟩
  obtain ⟨k, r, s'', s', hsched, hrun, hfo, hc, hos, hk⟩ := wp_halts_full (M := model c.prog w) (Shared.asleep_of_life al.2.2.2 hz) W'
  obtain ⟨eh, _, _, eo, _⟩ := Shared.forget_eq hfo
  have hc' := hc.congr eh
  have hk' : kept s'.heap := by rw [eh]; exact hk
  rw [← eo] at hos
  refine ⟨vs, s₁, lay, k, _, s', hsched, ?_, fun _ i x hx => by rw [hg] at hx; simp at hx, hk', by rw [(runN_life _ _ _ hrun).trans al.2.2.2], Shared.rest_eq hos⟩
  rcases hc' with ⟨v, rfl, d1, d2, d3, d4, d5⟩ | ⟨e, ob, cls, rfl, d1, d2, d3, d4, d5⟩
  · exact .inl ⟨v, rfl, d1, d2, d3, fun b o y _ => d4 b o y, d5⟩
  · exact .inr ⟨e, ob, cls, rfl, d1, d2, d3, d4, fun b o y _ => d5 b o y⟩

/-- what is to be walked: the call of the law from the caller's own context -/
noncomputable abbrev Mine.Walk0 (q : Program) (loose : List Str) (XP : (Str → Option Value) → Heap → Prop) {α : Type} (Yf : Shared → α) (Ya : World → α) (r : RowW) (d : DefRec) (kwd : List (Str × Expr)) : Prop :=
  ∀ (w : World) (s₀ s₁ : Shared) (mg mb : Str → Option Value), Ground q loose r.records XP w s₀ mg mb s₁.heap → Yf s₀ = Ya w → ∀ (a : Addr) (o : Obj) (pm cd doc dV kV : Value), s₁.heap.get? a = some o →
    o.data = .func { docDef d.name d.params d.body d.scope pm cd doc with defaults := dV, kwdefaults := kV } → s₁.heap.CodeRec cd d.name → Dflts mg s₁.heap d.params kwd dV kV → mg d.name = some (.ref a) → s₁.gens = #[] →
    ∀ (args : List WData) (vals : List Value) (as : List Addr), Laid r.records w s₀ s₁ args vals as → r.claim.pre args = true → WData.layableAll args = true → ReadsAllW r.records (classAt s₀.heap) s₁.heap vals args as → WellAll w.params s₁.heap vals args → (∀ a ∈ as, (a == sysModules) = false) →
      ∀ p, Sem.wp (model r.prog w) Mine.g0 (PySem.call (.ref a) vals) (fun v _ s' => GoodWG r.claim (classAt s₀.heap) (ExcName.means s₀.heap) args s₁ (.ok (.ret v)) s')
        (fun e _ s' => GoodWG r.claim (classAt s₀.heap) (ExcName.means s₀.heap) args s₁ (.error e) s') p s₁

theorem Mine.PySem.W.holds_openX {r : OpenRow} {q : Program} {loose : List Str} {Xt : Shared → Bool} {XP : (Str → Option Value) → Heap → Prop} {α : Type} {Yf : Shared → α} {Ya : World → α} {d : DefRec} {kwd : List (Str × Expr)} {N : Nat}
    (left : LeftO r.prog q loose Xt Yf Ya N)
    (hX : ∀ s, Xt s = true → XP (s.heap.nsMap mainGlobals) s.heap) (hXk : ∀ mg h h', XP mg h → (∀ b o, h.get? b = some o → h'.get? b = some o) → XP mg h')
    (hdef : defOf q r.name = some (d, kwd)) (hp : r.prog.theDef r.name = some (d.params, d.body, d.scope)) (hk : kwWritten? d.params.kwonlyargs d.params.kw_defaults = some kwd) (hRf : ∀ s, Xt s = true → RecFacts r.records s.heap) (hwr : (!r.writes || r.records.isEmpty) = true)
    (k1 : r.wellSaid = true) (ok : (chainsOk q && opensWell r.prog && (frees r.toRowW && r.within.isEmpty)) = true) (hb : r.prog.bare) (hw : r.toRowW.promised)
    (walk : Mine.Walk0 q loose XP Yf Ya r.toRowW d kwd) : r.Holds := by
  refine ⟨k1, hw, ?_⟩
  obtain ⟨ok, kf⟩ := Bool.and_eq_true_iff.mp ok
  obtain ⟨kc, ko⟩ := Bool.and_eq_true_iff.mp ok
  obtain ⟨kf, kwi⟩ := Bool.and_eq_true_iff.mp kf
  obtain ⟨hsame, hu, ha, hap, hm⟩ := frees_parts kf
  refine ⟨⟨hb, ko, by show r.makers.map _ = []; rw [hm]; rfl⟩, hw.witness, fun w => ?_⟩
  have LB := left.behind (XP := fun mg h => XP mg h ∧ RecFacts r.records h) (fun s hs => ⟨hX s hs, hRf s hs⟩) kc w
  refine ⟨LB.1, fun s' hs' => ?_⟩
  obtain ⟨s₀, hf, hg0, s, hT, hz, hgn, hg, G1, y⟩ := LB.2 s' hs'
  have G0 : Ground q loose [] XP w s (s.heap.nsMap mainGlobals) (s.heap.nsMap builtinsNs) s.heap := ⟨G1.T, G1.B, G1.D, G1.TE, G1.TD, G1.W, G1.X.1, G1.cls, G1.has, G1.apart, G1.once, G1.K⟩
  have RF := G1.X.2
  have hgn : s.gens = #[] := Array.eq_empty_of_size_eq_zero (beq_iff_eq.mp hgn)
  have G : Ground q loose r.records XP w s _ _ s.heap := RF.ground G0
  refine ⟨s₀, hf, hg0, s, hT, fun n hn => ?_, RF.1, RF.2.1, ?_⟩
  · obtain rfl : n = r.name := by
      revert hn
      show n ∈ (if r.pinned then [r.name] else []) → _
      split <;> simp
    exact pinned_of_view hg G0 hdef hp hk
  · refine Mine.runs_from (c := r.claim) hz hgn fun args hpre hlay ord hord => ?_
    obtain ⟨⟨vs, s₁⟩, lay⟩ := Option.isSome_iff_exists.mp (layAllW_isSome (P := w.params) (ord := ord) G.has args r.args s (pre_splitW hpre).1)
    have keeps := layAllW_keeps _ _ _ lay
    have al := layAllW_rest _ _ _ lay
    obtain ⟨as, hrd, hin, hold⟩ := reads_layAllW hord _ _ _ lay hlay s₁.heap (fun _ _ e => e)
    have L : Laid r.records w s s₁ args vs as := ⟨⟨ord, hord, lay⟩, hrd, hin, hold, keeps, al.1.trans hgn, al.2.2.1⟩
    have GL := G.keeps hXk keeps
    refine ⟨vs, s₁, lay, ?_⟩
    obtain ⟨a, o, pm, cd, doc, dV, kV, h1, h2, h3, h4, h5⟩ := GL.fn hdef
    have W := walk w s s₁ _ _ GL y a o pm cd doc dV kV h2 h3 h4 h5 (defOf_name hdef ▸ h1) L.gens args vs as L hpre hlay L.reads L.well (L.low G.low)
    have hi := ident_freeW hu ha hap
    have hwi : r.claim.within = [] := List.isEmpty_iff.mp kwi
    have key : ∀ res s', GoodWG r.claim (classAt s.heap) (ExcName.means s.heap) args s₁ res s' → r.claim.Ends s args vs s₁ res s' ∧ s'.os = s.os ∧ AllBare s'.gens ∧
        (r.writes = true → namesKept r.claim.prog r.keeps s.heap s'.heap ∧ ∀ x ∈ r.claim.records, ∀ a, classAt s.heap x.1 = some a → recordClass s'.heap a x.1 (x.2.map (·.1)) = true) := fun res s' g => by
      have z := g.laid (c := r.claim) hsame hwi hi L
      exact ⟨z.1, z.2.1, z.2.2, fun q => ⟨namesKept_of hT hg r.keeps keeps g.2.1.old, noTable hwr q⟩⟩
    have tree : ∀ p, Sem.wp (model r.prog w) Mine.g0 (do match ← nsGet mainNs r.name with
        | some f => do ret (← PySem.call f vs)
        | none => unsupported "claim.caller:no-such-global" : Sem Fin) (fun fin _ s' => ∃ f, fin = .done f ∧ GoodWG r.claim (classAt s.heap) (ExcName.means s.heap) args s₁ (.ok f) s')
          (fun e _ s' => GoodWG r.claim (classAt s.heap) (ExcName.means s.heap) args s₁ (.error e) s') p s₁ := fun p => by
      rw [Sem.wp_bind']
      refine (Sem.wp_nsGet _ _ _ p s₁ GL.T.g r.name _).mpr ?_
      rw [h1]
      show Sem.wp _ _ (PySem.call (.ref a) vs >>= fun v => ret v) _ _ _ _
      rw [Sem.wp_bind']
      exact Sem.wp_mono _ _ _ (fun v _ s' g => ⟨_, rfl, g⟩) (fun _ _ _ g => g) _ _ (W p)
    exact Sem.wp_mono _ _ _ (fun fin _ s' ⟨f, e, g⟩ => ⟨f, e, key _ _ g⟩) (fun e _ s' g => key _ _ g) _ _ (tree default)
end
section
open PySem PySem.W PySem.W.X
namespace Mine

/-! ### the quick twins of the machine's trees -/
noncomputable def den : Code → Sem Fin := PySem.W.Fast.tw11892475500146522536 PySem.W.Fast.tw14364793385576792824
theorem den_eq : denote table = den := by
  unfold den
  rw [table_eq_tree, ← PySem.W.Fast.te14364793385576792824]
  exact congrFun PySem.W.Fast.te11892475500146522536 _

noncomputable def qt (c : Code) : Bool := match PySem.W.Fast.tw15578638425004381011 ⟨.pure (.again c), c, default, []⟩ with
  | true => false
  | false => true
theorem qt_ok {c : Code} (h : qt c = true) : c.quiet = true := by
  unfold qt at h
  rw [← PySem.W.Fast.te15578638425004381011] at h
  unfold Code.quiet Thread.loud
  cases q : Thread.atCollectorCode ⟨.pure (.again c), c, default, []⟩ with
  | true => rw [q] at h; cases h
  | false => rfl

/-- the world's two rows that are asked, laid open -/
noncomputable def fol (P : Params) (b1 b2 : Bool) : Params :=
  { P with followText := fun r => cond (PySem.W.S.eqLit (PySem.code "special-get-raises") r) b1 (cond (PySem.W.S.eqLit (PySem.code "comprehension-iter-twice") r) b2 (P.followText r)) }
theorem fol_self (P : Params) : fol P (P.followText "special-get-raises") (P.followText "comprehension-iter-twice") = P := by
  obtain ⟨a1, a2, a3, a4, a5, fT, a6, a7, a8, a9, a10, a11, a12, a13, a14, a15, a16, a17, a18, a19, a20, a21, a22, a23, a24⟩ := P
  unfold fol
  congr 1
  funext r
  have e1 := congrFun (PySem.W.S.eqLit_eq "special-get-raises" _ rfl) r
  have e2 := congrFun (PySem.W.S.eqLit_eq "comprehension-iter-twice" _ rfl) r
  rw [← e1, ← e2]
  by_cases h1 : r = "special-get-raises"
  · subst h1; simp
  · by_cases h2 : r = "comprehension-iter-twice"
    · subst h2; simp
    · rw [show (r == "special-get-raises") = false from beq_eq_false_iff_ne.mpr h1, show (r == "comprehension-iter-twice") = false from beq_eq_false_iff_ne.mpr h2]; rfl

/-! ### the memory: objects by their number -/
theorem put_get (o : Obj) : ∀ (f : Nat) (t : KT) (i j : Nat), i + 1 < 2 ^ f → (KT.put f t i o).get j = if j = i then some o else t.get j := by
  intro f
  induction f with
  | zero => intro t i j h; omega
  | succ f ih =>
    intro t i j h
    have hn : ∀ (v : Option Obj) (l r : KT), (KT.put (f + 1) (.node v l r) i o).get j = if j = i then some o else (KT.node v l r).get j := by
      intro v l r
      unfold KT.put
      rw [BT.beq_eq, BT.beq_eq]
      by_cases h0 : i = 0
      · subst h0
        simp only [decide_true, KT.get_node]
        by_cases hj : j = 0 <;> simp [hj]
      · rw [decide_eq_false h0]
        by_cases p : i % 2 = 1
        · rw [decide_eq_true p]
          simp only [KT.get_node]
          rw [ih l (i / 2) (j / 2) (by rw [Nat.pow_succ] at h; omega)]
          by_cases hj : j = 0
          · simp [hj, Ne.symm h0]
          · by_cases pj : j % 2 = 1
            · simp only [hj, pj, if_true, if_false]
              by_cases e : j = i
              · simp [e]
              · have : j / 2 ≠ i / 2 := by omega
                simp [e, this]
            · have : j ≠ i := fun q => pj (q ▸ p)
              simp [hj, pj, this]
        · rw [decide_eq_false p]
          simp only [KT.get_node]
          rw [ih r (i / 2 - 1) (j / 2 - 1) (by rw [Nat.pow_succ] at h; omega)]
          by_cases hj : j = 0
          · simp [hj, Ne.symm h0]
          · by_cases pj : j % 2 = 1
            · have : j ≠ i := fun q => p (q ▸ pj)
              simp [hj, pj, this]
            · simp only [hj, pj, if_false]
              by_cases e : j = i
              · simp [e]
              · have : j / 2 - 1 ≠ i / 2 - 1 := by omega
                simp [e, this]
    cases t with
    | node v l r => exact hn v l r
    | nil =>
      have e1 : KT.put (f + 1) .nil i o = KT.put (f + 1) (.node none .nil .nil) i o := by
        unfold KT.put
        rw [BT.beq_eq, BT.beq_eq]
      rw [e1, hn]
      by_cases q : j = i
      · simp [q]
      · simp only [q, if_false, KT.get_node]
        by_cases hj : j = 0
        · simp [hj, KT.get]
        · by_cases pj : j % 2 = 1 <;> simp [hj, pj, KT.get]

noncomputable def pt (t : KT) (i : Nat) (o : Obj) : KT := KT.put 24 t i o
theorem pt_get (t : KT) (i j : Nat) (o : Obj) (h : i < 2 ^ 20) : (pt t i o).get j = if j = i then some o else t.get j :=
  put_get o 24 t i j (by omega)

/-- the address of the object of a number: the regions, the newest first (its first number, its shift) -/
noncomputable def ad : List (Nat × Nat) → Nat → Nat
  | [], j => j
  | x :: rs, j => match Nat.ble x.1 j with
    | true => Nat.add x.2 j
    | false => ad rs j

noncomputable def Mono (rs : List (Nat × Nat)) : Prop := ∀ i j, i < j → ad rs i < ad rs j
theorem Mono.nil : Mono [] := fun _ _ h => h
theorem Mono.inj {rs : List (Nat × Nat)} (m : Mono rs) {i j : Nat} (h : ad rs i = ad rs j) : i = j := by
  rcases Nat.lt_trichotomy i j with q | q | q
  · have := m _ _ q; omega
  · exact q
  · have := m _ _ q; omega
theorem ad_cons (s d : Nat) (rs : List (Nat × Nat)) (j : Nat) : ad ((s, d) :: rs) j = if s ≤ j then d + j else ad rs j := by
  show (match Nat.ble s j with | true => Nat.add d j | false => ad rs j) = _
  cases h : Nat.ble s j with
  | true => rw [if_pos (Nat.le_of_ble_eq_true h)]; rfl
  | false => rw [if_neg (fun q => by rw [Nat.ble_eq_true_of_le q] at h; cases h)]
theorem Mono.cons {rs : List (Nat × Nat)} (m : Mono rs) {s d : Nat} (h : ad rs s ≤ d + s) : Mono ((s, d) :: rs) := by
  intro i j hij
  rw [ad_cons, ad_cons]
  by_cases hi : s ≤ i
  · rw [if_pos hi, if_pos (by omega)]; omega
  · rw [if_neg hi]
    by_cases hj : s ≤ j
    · rw [if_pos hj]
      have := m i s (by omega)
      omega
    · rw [if_neg hj]; exact m _ _ hij

/-! ### what is called: a stack of what waits -/
inductive K where
  | base
  | ret (Γ : PySem.Ctx) (p : Pos) (k : Result → Sem Fin) (κ : K)

noncomputable def endK (M : Model) (R : Result → Shared → Prop) : K → Result → Shared → Prop
  | .base => R
  | .ret Γ p k κ => fun r s' => Sem.wp M Γ (k r) (Sem.finPost M Γ (endK M R κ)) (fun e _ s'' => endK M R κ (.error e) s'') p s'
noncomputable def Good (M : Model) (R : Result → Shared → Prop) (κ : K) (Γ : PySem.Ctx) (p : Pos) (t : Sem Fin) (s : Shared) : Prop :=
  Sem.wp M Γ t (Sem.finPost M Γ (endK M R κ)) (fun e _ s' => endK M R κ (.error e) s') p s

/-- how a run ends: it gives a result, or it turns to another code -/
inductive End where
  | res (r : Result)
  | turn (Γ : PySem.Ctx) (p : Pos)

/-- a step of a built-in, known ahead: when, how many tokens, what -/
structure Op where
  cond : Option Prop
  use : Option Nat
  res : Nat → Result
noncomputable def Op.Fits (prog : Program) (w : World) (c : Code) (lk : Nat → Option Obj) (o : Op) : Prop := (∀ c, o.cond = some c → c) → ∀ (Γ : PySem.Ctx) (p : Pos) (s : Shared) (R : Result → Shared → Prop), Γ.code = c →
  (∀ a x, lk a = some x → s.heap.get? a = some x) →
  (match o.use with
    | some k => R (o.res s.toks) { s with toks := s.toks + k }
    | none => ∀ x t, s.toks ≤ t → R (o.res x) { s with toks := t }) → wpCode (model prog w) Γ R p s

/-- the same, where the context is known -/
noncomputable def Op.FitsG (prog : Program) (w : World) (Γ : PySem.Ctx) (lk : Nat → Option Obj) (o : Op) : Prop := (∀ c, o.cond = some c → c) → ∀ (p : Pos) (s : Shared) (R : Result → Shared → Prop),
  (∀ a x, lk a = some x → s.heap.get? a = some x) →
  (match o.use with
    | some k => R (o.res s.toks) { s with toks := s.toks + k }
    | none => ∀ x t, s.toks ≤ t → R (o.res x) { s with toks := t }) → wpCode (model prog w) Γ R p s
theorem Op.Fits.at {prog : Program} {w : World} {Γ : PySem.Ctx} {lk : Nat → Option Obj} {o : Op} (h : o.Fits prog w Γ.code lk) : o.FitsG prog w Γ lk := fun hc p s R hl H => h hc Γ p s R rfl hl H

/-- how the heap grows: from a written size to a written one; from a written one to an unknown one, what is below the second being written; anyhow -/
inductive Gr where
  | lit (n n' : Nat)
  | grow (n n' : Nat)
  | any

/-- a promise of a code: what it wants, what it leaves -/
structure Con where
  code : Code
  ok : PySem.Ctx → Bool
  need : List (Nat × Obj)
  hp : Gr
  tk : Option (Nat × Nat)
  res : Nat → (Nat → Nat) → Result
  post : Nat → (Nat → Nat) → List (Nat × Obj)

inductive H where
  | at (j : Nat)
  | con (k : Nat)
  | stop
  | op (k : Nat)
  | opAt (k j : Nat)

/-- the hints ahead, and the unknowns met so far (the newest first) -/
structure Hs where
  l : List (Nat × H)
  ts : List (Nat × (Nat → Nat))
noncomputable def Hs.push (h : Hs) (a : Nat) (x : Nat → Nat) : Hs := ⟨h.l, (a, x) :: h.ts⟩

/-- what stands still in a run -/
structure St where
  prog : Program
  w : World
  P : Params
  old : KT
  lo : Nat
  hi : Nat
  U : List Nat
  A : Nat → Nat
  st : Nat
  js : List Nat
  F : End → Nat → List (Nat × Nat) → Nat → Nat → List (Option Obj) → Prop
  cons : Nat → List (Nat × (Nat → Nat)) → List (Nat × Nat) → Nat → Nat → Nat → Con
  ops : Nat → PySem.Ctx → (Nat → Option Obj) → Option Op
  ops2 : Nat → Code → (Nat → Option Obj) → Nat → Obj → Option Op

noncomputable def hasN : List Nat → Nat → Bool
  | [], _ => false
  | x :: l, a => match Nat.beq x a with
    | true => true
    | false => hasN l a
theorem hasN_iff : ∀ {l : List Nat} {a : Nat}, hasN l a = true ↔ a ∈ l
  | [], a => by simp [hasN]
  | x :: l, a => by
    unfold hasN
    rw [BT.beq_eq]
    by_cases h : x = a
    · simp [h]
    · rw [decide_eq_false h]; simp [hasN_iff, Ne.symm h]

/-- the hint at hand: is it for this step? -/
noncomputable def hint (f : Nat) (hs : Hs) : Option (H × Hs) := match hs with
  | ⟨l, ts⟩ => match l with
    | [] => none
    | x :: l => match Nat.beq x.1 f with
      | true => some (x.2, ⟨l, ts⟩)
      | false => none

noncomputable def needs (mem : KT) : List (Nat × Obj) → Prop
  | [] => True
  | x :: l => (mem.get x.1 = some x.2) ∧ needs mem l
theorem needs_iff {mem : KT} : ∀ {l : List (Nat × Obj)}, needs mem l ↔ ∀ x ∈ l, mem.get x.1 = some x.2
  | [] => by simp [needs]
  | x :: l => by simp [needs, needs_iff]
noncomputable def puts (mem : KT) : List (Nat × Obj) → KT
  | [] => mem
  | x :: l => puts (pt mem x.1 x.2) l
/-- may this number be written? -/
noncomputable def may (S : St) (j : Nat) : Bool := match Nat.ble S.st j with
  | true => true
  | false => hasN S.U j
noncomputable def mays (S : St) (n : Nat) : List (Nat × Obj) → Bool
  | [] => true
  | x :: l => match Nat.blt x.1 n with
    | true => match Nat.blt x.1 1048576 with
      | true => match Nat.ble S.lo x.1 with
        | true => match may S x.1 with
          | true => mays S n l
          | false => false
        | false => false
      | false => false
    | false => false

noncomputable abbrev SimTy := Hs → List (Nat × Nat) → Nat → KT → Nat → Nat → PySem.Ctx → Pos → K → Sem Fin → Prop

noncomputable def retS (S : St) (ih : SimTy) (r : Result) (hs : Hs) (rs : List (Nat × Nat)) (τ : Nat) (mem : KT) (n i : Nat) (κ : K) : Prop := match κ with
  | .base => S.F (.res r) n rs τ i (S.js.map mem.get)
  | .ret Γ p k κ' => ih hs rs τ mem n i Γ p κ' (k r)

noncomputable def conS (S : St) (ih : SimTy) (C : Con) (c : Code) (Γ : PySem.Ctx) (hs : Hs) (rs : List (Nat × Nat)) (τ : Nat) (mem : KT) (n i : Nat) (κ : K) : Prop := match C.ok Γ with
  | true => c = C.code ∧ needs mem C.need ∧ (match C.hp with
    | .lit a b => match Nat.beq a n with
      | true => match Nat.ble n b with
        | true => match rs with
          | [] => match C.tk with
            | some y => match Nat.beq y.1 i with
              | true => match Nat.ble i y.2 with
                | true => match mays S b (C.post τ fun _ => 0) with
                  | true => retS S ih (C.res τ fun _ => 0) hs [] τ (puts mem (C.post τ fun _ => 0)) b y.2 κ
                  | false => False
                | false => False
              | false => False
            | none => match Nat.ble 690 i with
              | true => ∀ τ' t, match mays S b (C.post τ' t) with
                | true => retS S ih (C.res τ' t) (hs.push τ' t) [] τ' (puts mem (C.post τ' t)) b i κ
                | false => False
              | false => False
          | _ :: _ => False
        | false => False
      | false => False
    | .grow a b => match Nat.beq a n with
      | true => match Nat.ble n b with
        | true => match Nat.ble S.hi b with
          | true => match rs with
            | [] => match C.tk with
              | some _ => False
              | none => match Nat.ble 690 i with
                | true => ∀ d τ' t, match mays S b (C.post τ' t) with
                  | true => retS S ih (C.res τ' t) (hs.push τ' t) [(b, d)] τ' (puts mem (C.post τ' t)) b i κ
                  | false => False
                | false => False
            | _ :: _ => False
          | false => False
        | false => False
      | false => False
    | .any => match C.tk with
      | some _ => False
      | none => match Nat.ble S.hi n with
        | true => match Nat.ble 690 i with
          | true => ∀ d τ' t, match mays S n (C.post τ' t) with
            | true => retS S ih (C.res τ' t) (hs.push τ' t) ((n, d) :: rs) τ' (puts mem (C.post τ' t)) n i κ
            | false => False
          | false => False
        | false => False)
  | false => False

/-- what is known at a written address -/
noncomputable def litS (S : St) (mem : KT) (a : Nat) : Option Obj := match Nat.blt a S.lo with
  | true => S.old.get a
  | false => match Nat.blt a S.hi with
    | true => mem.get a
    | false => none

noncomputable def lookS (S : St) (rs : List (Nat × Nat)) (mem : KT) (a : Nat) (X : Nat → Obj → Prop) (Y : Obj → Prop) : Option Nat → Prop
  | some j => a = ad rs j ∧ (match mem.get j with
    | some o => X j o
    | none => False)
  | none => match Nat.blt a S.lo with
    | true => match S.old.get a with
      | some o => Y o
      | none => False
    | false => match Nat.blt a S.hi with
      | true => match mem.get a with
        | some o => X a o
        | none => False
      | false => False

noncomputable def opS (ih : SimTy) (o : Op) (hs : Hs) (rs : List (Nat × Nat)) (τ : Nat) (mem : KT) (n i : Nat) (Γ : PySem.Ctx) (p : Pos) (κ : K) (k : Result → Sem Fin) : Prop := match o.use with
  | some u => ih hs rs τ mem n (Nat.add i u) Γ p κ (k (o.res (Nat.add τ i)))
  | none => ∀ τ' x, ih (hs.push τ' fun _ => x) rs τ' mem n i Γ p κ (k (o.res x))

noncomputable def stepS (S : St) (f : Nat) (ih : SimTy) : SimTy := fun hs rs τ mem n i Γ p κ t => match t with
  | .pure fin => match fin with
    | .done fl => retS S ih (.ok fl) hs rs τ mem n i κ
    | .again c => match hint f hs with
      | some x => match x.1 with
        | .con k => match qt c with
          | true => conS S ih (S.cons k x.2.ts rs τ n i) c (Γ.goto c) x.2 rs τ mem n i κ
          | false => False
        | .stop => match κ with
          | .base => match qt c with
            | true => S.F (.turn (Γ.goto c) p) n rs τ i (S.js.map mem.get)
            | false => False
          | .ret .. => False
        | .at _ => False
        | .op _ => False
        | .opAt .. => False
      | none => match qt c with
        | true => ih hs rs τ mem n i (Γ.goto c) p κ (den c)
        | false => False
  | .raise e => retS S ih (.error e) hs rs τ mem n i κ
  | .rule _ k => ih hs rs τ mem n i Γ p κ (k ())
  | .at q k => ih hs rs τ mem n i Γ q κ (k ())
  | .point _ k => ih hs rs τ mem n i Γ p κ (k ())
  | .ask k => ih hs rs τ mem n i Γ p κ (k ⟨S.prog, S.P⟩)
  | .fresh k => ih hs rs τ mem n (Nat.add i 1) Γ p κ (k (Nat.add τ i))
  | .stack k => ih hs rs τ mem n i Γ p κ (k ((Γ.code, p) :: Γ.below))
  | .handled own k => ih hs rs τ mem n i Γ p κ (k (match own with | true => Γ.own | false => Γ.handled))
  | .load a _ k => match hint f hs with
    | some x => match x.1 with
      | .at j => lookS S rs mem a (fun _ o => ih x.2 rs τ mem n i Γ p κ (k o)) (fun o => ih x.2 rs τ mem n i Γ p κ (k o)) (some j)
      | .con _ => False
      | .stop => False
      | .op _ => False
      | .opAt .. => False
    | none => lookS S rs mem a (fun _ o => ih hs rs τ mem n i Γ p κ (k o)) (fun o => ih hs rs τ mem n i Γ p κ (k o)) none
  | .loadIfAlive a k => match hint f hs with
    | some x => match x.1 with
      | .at j => lookS S rs mem a (fun _ o => ih x.2 rs τ mem n i Γ p κ (k (some o))) (fun o => ih x.2 rs τ mem n i Γ p κ (k (some o))) (some j)
      | .con _ => False
      | .stop => False
      | .op _ => False
      | .opAt .. => False
    | none => lookS S rs mem a (fun _ o => ih hs rs τ mem n i Γ p κ (k (some o))) (fun o => ih hs rs τ mem n i Γ p κ (k (some o))) none
  | .update a _ g k =>
    let X := fun (hs : Hs) (j : Nat) (o : Obj) => match may S j with
      | true => match (g o).isFreed with
        | false => match Nat.blt j 1048576 with
          | true => ih hs rs τ (pt mem j (g o)) n i Γ p κ (k ())
          | false => False
        | true => False
      | false => False
    match hint f hs with
    | some x => match x.1 with
      | .at j => lookS S rs mem a (X x.2) (fun _ => False) (some j)
      | .con _ => False
      | .stop => False
      | .op _ => False
      | .opAt .. => False
    | none => lookS S rs mem a (X hs) (fun _ => False) none
  | .alloc o k => match o.isFreed with
    | false => match Nat.blt n 1048576 with
      | true => ih hs rs τ (pt mem n o) (Nat.add n 1) i Γ p κ (k (ad rs n))
      | false => False
    | true => False
  | .call c h _ _ k => match hint f hs with
    | some x => match x.1 with
      | .op j => match h with
        | none => match S.ops j (Γ.enter c none p) (litS S mem) with
          | some o => match o.cond with
            | some q => q ∧ opS ih o x.2 rs τ mem n i Γ p κ k
            | none => opS ih o x.2 rs τ mem n i Γ p κ k
          | none => False
        | some _ => False
      | .opAt j b => match h with
        | none => match mem.get b with
          | some y => match S.ops2 j c (litS S mem) (ad rs b) y with
            | some o => match o.cond with
              | some q => q ∧ opS ih o x.2 rs τ mem n i Γ p κ k
              | none => opS ih o x.2 rs τ mem n i Γ p κ k
            | none => False
          | none => False
        | some _ => False
      | .con j => conS S ih (S.cons j x.2.ts rs τ n i) c (Γ.enter c h p) x.2 rs τ mem n i (.ret Γ p k κ)
      | .at _ => False
      | .stop => False
    | none => ih hs rs τ mem n i (Γ.enter c h p) p (.ret Γ p k κ) (den c)
  | _ => False

noncomputable def sim (S : St) : Nat → SimTy
  | 0 => fun _ _ _ _ _ _ _ _ _ _ => False
  | f + 1 => stepS S f (sim S f)

end Mine
end
section
open PySem PySem.W PySem.W.X
namespace Mine

theorem Mono.ge {rs : List (Nat × Nat)} (m : Mono rs) : ∀ j, j ≤ ad rs j
  | 0 => Nat.zero_le _
  | j + 1 => by have := m.ge j; have := m j (j + 1) (Nat.lt_succ_self _); omega

/-- what a promise says -/
structure Con.Left (C : Con) (rs : List (Nat × Nat)) (τ : Nat) (x : Nat → Nat) (s s' : Shared) : Prop where
  post : ∀ y ∈ C.post τ x, s'.heap.get? (ad rs y.1) = some y.2
  keep : ∀ b o, (∀ y ∈ C.post τ x, b ≠ ad rs y.1) → s.heap.get? b = some o → s'.heap.get? b = some o
  gens : s'.gens = #[]
  os : s'.os = s.os
noncomputable def Con.Here (C : Con) (S : St) (rs : List (Nat × Nat)) (n i : Nat) : Prop :=
  (match C.hp with | .lit a _ => n = a ∧ rs = [] | .grow a _ => n = a ∧ rs = [] | .any => S.hi ≤ n) ∧ (match C.tk with | some y => i = y.1 | none => 690 ≤ i)
noncomputable def Con.Post (C : Con) (rs : List (Nat × Nat)) (τ i : Nat) (s : Shared) (r : Result) (s' : Shared) : Prop :=
  ∃ τ' x, r = C.res τ' x ∧ C.Left rs τ' x s s' ∧ s.toks ≤ s'.toks ∧
    (match C.hp with | .lit _ b => s'.heap.objs.size = b | .grow _ b => b ≤ s'.heap.objs.size | .any => s.heap.objs.size ≤ s'.heap.objs.size) ∧
    (match C.tk with | some y => τ' = τ ∧ x = (fun _ => 0) ∧ s'.toks = τ + y.2 | none => s'.toks = τ' + i)
noncomputable def Con.Valid (S : St) (rs : List (Nat × Nat)) (τ : Nat) (C : Con) : Prop := ∀ (n i : Nat) (Γ : PySem.Ctx) (p : Pos) (s : Shared),
  Γ.code = C.code → C.ok Γ = true → Mono rs → (∀ j, j < S.hi → ad rs j = j) → C.Here S rs n i →
  (∀ a o, a < S.lo → S.old.get a = some o → s.heap.get? a = some o) → (∀ x ∈ C.need, s.heap.get? (ad rs x.1) = some x.2) →
  s.heap.objs.size = ad rs n → s.toks = τ + i → s.gens = #[] →
  wpCode (model S.prog S.w) Γ (C.Post rs τ i s) p s

structure Rep (S : St) (h₀ : Heap) (rs : List (Nat × Nat)) (mem : KT) (n : Nat) (h : Heap) : Prop where
  size : h.objs.size = ad rs n
  old : ∀ a o, a < S.lo → S.old.get a = some o → h.get? a = some o
  mem : ∀ j o, mem.get j = some o → j < n ∧ S.lo ≤ j ∧ h.get? (ad rs j) = some o
  keep : ∀ b o, (∀ u ∈ S.U, b ≠ S.A u) → h₀.get? b = some o → h.get? b = some o

structure Ground (S : St) (h₀ : Heap) (rs : List (Nat × Nat)) (n : Nat) : Prop where
  mono : Mono rs
  low : ∀ j, j < S.hi → ad rs j = j
  base : h₀.objs.size ≤ ad rs S.st
  stn : S.st ≤ n
  succ : ∀ j, n ≤ j → ad rs (j + 1) = ad rs j + 1
  lowA : ∀ j, j < S.st → ad rs j = S.A j

/-- a look-up with one place more -/
noncomputable def plus (lk : Nat → Option Obj) (b : Nat) (y : Obj) (a : Nat) : Option Obj := if a = b then some y else lk a
structure St.Ok (S : St) : Prop where
  P : S.P = S.w.params
  U : ∀ u ∈ S.U, S.lo ≤ u ∧ u < S.st
  lh : S.lo ≤ S.hi
  ls : S.lo ≤ S.st
  ops : ∀ j Γ lk o, S.ops j Γ lk = some o → o.FitsG S.prog S.w Γ lk
  ops2 : ∀ j c lk b y o, S.ops2 j c lk b y = some o → o.Fits S.prog S.w c (plus lk b y)
  cons : ∀ k ts rs τ n i, (S.cons k ts rs τ n i).Valid S rs τ

section
variable {S : St} {h₀ : Heap} {rs : List (Nat × Nat)} {mem : KT} {n : Nat} {h : Heap}

theorem blt_t {a b : Nat} (h : Nat.blt a b = true) : a < b := Nat.le_of_ble_eq_true h
theorem blt_f {a b : Nat} (h : Nat.blt a b = false) : b ≤ a := by
  apply Nat.le_of_not_lt
  intro q
  have : Nat.blt a b = true := Nat.ble_eq_true_of_le q
  rw [this] at h; cases h

theorem may_ok {j : Nat} (hm : may S j = true) : S.st ≤ j ∨ j ∈ S.U := by
  unfold may at hm
  cases q : Nat.ble S.st j with
  | true => exact .inl (Nat.le_of_ble_eq_true q)
  | false => rw [q] at hm; exact .inr (hasN_iff.mp hm)

theorem Rep.update (D : Rep S h₀ rs mem n h) (G : Ground S h₀ rs n) (O : S.Ok) {j : Nat} {o : Obj} {g : Obj → Obj} (e : mem.get j = some o) (hm : may S j = true) (hf : (g o).isFreed = false) (hj : j < 1048576) :
    Rep S h₀ rs (pt mem j (g o)) n (h.update (ad rs j) g) := by
  obtain ⟨h1, h2, h3⟩ := D.mem j o e
  have hs : Heap.SameBut (ad rs j) h (h.update (ad rs j) g) := Heap.SameBut.update ..
  refine ⟨by rw [hs.1, D.size], fun a o' ha e' => ?_, fun j' o' e' => ?_, fun b o' hb e' => ?_⟩
  · refine (hs.2 a (Nat.ne_of_lt ?_)).trans (D.old a o' ha e')
    have := G.mono.ge j
    show (a : Nat) < ad rs j
    omega
  · rw [pt_get _ _ _ _ hj] at e'
    by_cases q : j' = j
    · subst q
      rw [if_pos rfl] at e'
      cases e'
      exact ⟨h1, h2, Heap.get?_update_self g h3 hf⟩
    · rw [if_neg q] at e'
      obtain ⟨y1, y2, y3⟩ := D.mem j' o' e'
      exact ⟨y1, y2, (hs.2 _ fun z => q (G.mono.inj z)).trans y3⟩
  · refine (hs.2 b ?_).trans (D.keep b o' hb e')
    rcases may_ok hm with q | q
    · refine Nat.ne_of_lt ?_
      show (b : Nat) < ad rs j
      have h4 : (b : Nat) < h₀.objs.size := Heap.lt_size e'
      have h5 : ad rs S.st ≤ ad rs j := by
        rcases Nat.lt_or_ge S.st j with z | z
        · exact Nat.le_of_lt (G.mono _ _ z)
        · have : j = S.st := by omega
          rw [this]; exact Nat.le_refl _
      have := G.base
      omega
    · rw [G.lowA j (O.U j q).2]
      exact hb j q

theorem Rep.push (D : Rep S h₀ rs mem n h) (G : Ground S h₀ rs n) (O : S.Ok) {o : Obj} (hf : o.isFreed = false) (hn : n < 1048576) : Rep S h₀ rs (pt mem n o) (n + 1) (h.push o) := by
  refine ⟨by rw [Heap.size_push, D.size, G.succ n (Nat.le_refl _)], fun a o' ha e' => Heap.get?_push_of_some _ (D.old a o' ha e'), fun j o' e' => ?_, fun b o' hb e' => Heap.get?_push_of_some _ (D.keep b o' hb e')⟩
  rw [pt_get _ _ _ _ hn] at e'
  by_cases q : j = n
  · subst q
    rw [if_pos rfl] at e'
    cases e'
    refine ⟨Nat.lt_succ_self _, Nat.le_trans O.ls G.stn, ?_⟩
    rw [← D.size]
    exact Heap.get?_push_size _ hf
  · rw [if_neg q] at e'
    obtain ⟨y1, y2, y3⟩ := D.mem j o' e'
    exact ⟨Nat.lt_succ_of_lt y1, y2, Heap.get?_push_of_some _ y3⟩

theorem ad_ge {rs : List (Nat × Nat)} (m : Mono rs) {i j : Nat} (h : i ≤ j) : ad rs i ≤ ad rs j := by
  rcases Nat.lt_or_ge i j with q | q
  · exact Nat.le_of_lt (m _ _ q)
  · have : i = j := by omega
    rw [this]; exact Nat.le_refl _

theorem mays_ok {m : Nat} : ∀ {l : List (Nat × Obj)}, mays S m l = true → ∀ y ∈ l, y.1 < m ∧ y.1 < 1048576 ∧ S.lo ≤ y.1 ∧ may S y.1 = true
  | [], _, _, hy => by cases hy
  | x :: l, H, y, hy => by
    unfold mays at H
    split at H
    · rename_i q1
      split at H
      · rename_i q2
        split at H
        · rename_i q3
          split at H
          · rename_i q4
            rcases List.mem_cons.mp hy with rfl | hy
            · exact ⟨blt_t q1, blt_t q2, Nat.le_of_ble_eq_true q3, q4⟩
            · exact mays_ok H y hy
          · cases H
        · cases H
      · cases H
    · cases H

theorem puts_get : ∀ (l : List (Nat × Obj)) (mem : KT) (j : Nat) (o : Obj), (∀ y ∈ l, y.1 < 1048576) → (puts mem l).get j = some o → ((j, o) ∈ l) ∨ ((∀ y ∈ l, y.1 ≠ j) ∧ mem.get j = some o)
  | [], _, _, _, _, e => .inr ⟨fun _ h => (nomatch h), e⟩
  | x :: l, mem, j, o, hl, e => by
    unfold puts at e
    rcases puts_get l (pt mem x.1 x.2) j o (fun y hy => hl y (.tail _ hy)) e with q | ⟨q1, q2⟩
    · exact .inl (.tail _ q)
    · rw [pt_get _ _ _ _ (hl x (.head _))] at q2
      by_cases z : j = x.1
      · rw [if_pos z] at q2
        cases q2
        left
        rw [z]
        exact .head _
      · rw [if_neg z] at q2
        refine .inr ⟨fun y hy => ?_, q2⟩
        rcases List.mem_cons.mp hy with rfl | hy
        · exact fun w => z w.symm
        · exact q1 y hy

theorem retS_sound {ih : SimTy} {os₀ : OsState} {T : Nat} {R : Result → Shared → Prop}
    (hF : ∀ e n rs τ i mem (s : Shared), Rep S h₀ rs mem n s.heap → Ground S h₀ rs n → s.toks = τ + i → T ≤ s.toks → s.gens = #[] → s.os = os₀ → S.F e n rs τ i (S.js.map mem.get) →
      match e with | .res r => R r s | .turn Γ p => wpCode (model S.prog S.w) Γ R p s)
    (IH : ∀ hs rs τ mem n i Γ p κ t (s : Shared), ih hs rs τ mem n i Γ p κ t → Rep S h₀ rs mem n s.heap → Ground S h₀ rs n → s.toks = τ + i → T ≤ s.toks → s.gens = #[] → s.os = os₀ → Good (model S.prog S.w) R κ Γ p t s)
    {r : Result} {hs : Hs} {τ i : Nat} {κ : K} {s : Shared} (H : retS S ih r hs rs τ mem n i κ) (D : Rep S h₀ rs mem n s.heap) (G : Ground S h₀ rs n) (ht : s.toks = τ + i) (hT : T ≤ s.toks) (hg : s.gens = #[]) (ho : s.os = os₀) :
    endK (model S.prog S.w) R κ r s := by
  cases κ with
  | base => exact hF (.res r) n rs τ i mem s D G ht hT hg ho H
  | ret Γ p k κ => exact IH _ _ _ _ _ _ _ _ _ _ _ H D G ht hT hg ho

theorem conS_sound {ih : SimTy} {os₀ : OsState} {T : Nat} {R : Result → Shared → Prop} (O : S.Ok)
    (hF : ∀ e n rs τ i mem (s : Shared), Rep S h₀ rs mem n s.heap → Ground S h₀ rs n → s.toks = τ + i → T ≤ s.toks → s.gens = #[] → s.os = os₀ → S.F e n rs τ i (S.js.map mem.get) →
      match e with | .res r => R r s | .turn Γ p => wpCode (model S.prog S.w) Γ R p s)
    (IH : ∀ hs rs τ mem n i Γ p κ t (s : Shared), ih hs rs τ mem n i Γ p κ t → Rep S h₀ rs mem n s.heap → Ground S h₀ rs n → s.toks = τ + i → T ≤ s.toks → s.gens = #[] → s.os = os₀ → Good (model S.prog S.w) R κ Γ p t s)
    {q : Nat} {ts : List (Nat × (Nat → Nat))} {n' i' : Nat} {c : Code} {Γ : PySem.Ctx} (hΓ : Γ.code = c) {hs : Hs} {τ i : Nat} {κ : K} {p : Pos} {s : Shared} (H : conS S ih (S.cons q ts rs τ n' i') c Γ hs rs τ mem n i κ) (D : Rep S h₀ rs mem n s.heap) (G : Ground S h₀ rs n) (ht : s.toks = τ + i) (hT : T ≤ s.toks) (hg : s.gens = #[]) (ho : s.os = os₀) :
    wpCode (model S.prog S.w) Γ (endK (model S.prog S.w) R κ) p s := by
  have V := O.cons q ts rs τ n' i'
  revert H V
  generalize S.cons q ts rs τ n' i' = C
  intro H V
  unfold conS at H
  split at H
  · rename_i hok
    obtain ⟨hc, hn, H⟩ := H
    have hn' := needs_iff.mp hn
    have need : ∀ x ∈ C.need, s.heap.get? (ad rs x.1) = some x.2 := fun x hx => (D.mem _ _ (hn' x hx)).2.2
    -- the memory behind a promise, the heap's size being written
    have lit : ∀ (a b : Nat) (τ' : Nat) (t : Nat → Nat) (s' : Shared), rs = [] → n ≤ b → mays S b (C.post τ' t) = true → C.Left rs τ' t s s' → s'.heap.objs.size = b →
        Rep S h₀ [] (puts mem (C.post τ' t)) b s'.heap ∧ Ground S h₀ [] b := by
      intro _ b τ' t s' hrs hle hm L hsz
      subst hrs
      refine ⟨⟨hsz, fun a o ha e => ?_, fun j o e => ?_, fun b o hb e => ?_⟩, ⟨G.mono, G.low, G.base, Nat.le_trans G.stn hle, fun _ _ => rfl, G.lowA⟩⟩
      · refine L.keep a o (fun y hy => ?_) (D.old a o ha e)
        have := (mays_ok hm y hy).2.2.1
        refine Nat.ne_of_lt ?_
        show (a : Nat) < y.1
        omega
      · rcases puts_get _ _ _ _ (fun y hy => (mays_ok hm y hy).2.1) e with z | ⟨z1, z2⟩
        · have := mays_ok hm _ z
          exact ⟨this.1, this.2.2.1, L.post _ z⟩
        · obtain ⟨y1, y2, y3⟩ := D.mem j o z2
          exact ⟨Nat.lt_of_lt_of_le y1 hle, y2, L.keep _ _ (fun y hy w => z1 y hy w.symm) y3⟩
      · refine L.keep b o (fun y hy w => ?_) (D.keep b o hb e)
        have := mays_ok hm y hy
        rcases may_ok this.2.2.2 with z | z
        · have h4 : (b : Nat) < h₀.objs.size := Heap.lt_size e
          have h5 := G.base
          have h6 : (b : Nat) = y.1 := w
          have h7 : ad [] S.st = S.st := rfl
          omega
        · exact hb _ z (w.trans (G.lowA _ (O.U _ z).2))
    split at H
    · rename_i a b hl
      split at H
      · rename_i e1
        split at H
        · rename_i e2
          have hx1 := Nat.eq_of_beq_eq_true e1
          have hle := Nat.le_of_ble_eq_true e2
          split at H
          · split at H
            · rename_i y hy
              split at H
              · rename_i e3
                split at H
                · rename_i e4
                  split at H
                  · rename_i hm
                    have W := V n i Γ p s (hΓ.trans hc) hok G.mono G.low ⟨by rw [hl]; exact ⟨hx1.symm, rfl⟩, by rw [hy]; exact (Nat.eq_of_beq_eq_true e3).symm⟩ D.old need D.size ht hg
                    refine wpCode_mono (fun r s' P => ?_) W
                    unfold Con.Post at P
                    rw [hl, hy] at P
                    obtain ⟨τ', t, rfl, L, htt, hsz, rfl, rfl, htk⟩ := P
                    obtain ⟨D', G'⟩ := lit a b _ _ s' rfl hle hm L hsz
                    exact retS_sound hF IH H D' G' htk (Nat.le_trans hT htt) L.gens (L.os.trans ho)
                  · cases H
                · cases H
              · cases H
            · rename_i hy
              split at H
              rotate_left
              · cases H
              rename_i h69
              have W := V n i Γ p s (hΓ.trans hc) hok G.mono G.low ⟨by rw [hl]; exact ⟨hx1.symm, rfl⟩, by rw [hy]; exact Nat.le_of_ble_eq_true h69⟩ D.old need D.size ht hg
              refine wpCode_mono (fun r s' P => ?_) W
              unfold Con.Post at P
              rw [hl, hy] at P
              obtain ⟨τ', t, rfl, L, htt, hsz, htk⟩ := P
              have H := H τ' t
              split at H
              · rename_i hm
                obtain ⟨D', G'⟩ := lit a b _ _ s' rfl hle hm L hsz
                exact retS_sound hF IH H D' G' htk (Nat.le_trans hT htt) L.gens (L.os.trans ho)
              · cases H
          · cases H
        · cases H
      · cases H
    · rename_i a b hl
      split at H
      · rename_i e1
        split at H
        · rename_i e2
          split at H
          · rename_i e3
            have hx1 := Nat.eq_of_beq_eq_true e1
            have hle := Nat.le_of_ble_eq_true e2
            have hhb := Nat.le_of_ble_eq_true e3
            split at H
            · split at H
              · cases H
              · rename_i hy
                split at H
                rotate_left
                · cases H
                rename_i h69
                have W := V n i Γ p s (hΓ.trans hc) hok G.mono G.low ⟨by rw [hl]; exact ⟨hx1.symm, rfl⟩, by rw [hy]; exact Nat.le_of_ble_eq_true h69⟩ D.old need D.size ht hg
                refine wpCode_mono (fun r s' P => ?_) W
                unfold Con.Post at P
                rw [hl, hy] at P
                obtain ⟨τ', t, rfl, L, htt, hsz, htk⟩ := P
                have H := H (s'.heap.objs.size - b) τ' t
                split at H
                · rename_i hm
                  have hs2 : s'.heap.objs.size - b + b = s'.heap.objs.size := Nat.sub_add_cancel hsz
                  have hcons : ∀ j, ad [(b, s'.heap.objs.size - b)] j = if b ≤ j then s'.heap.objs.size - b + j else j := fun j => ad_cons _ _ [] j
                  have adlt : ∀ j, j < b → ad [(b, s'.heap.objs.size - b)] j = j := fun j hj => by rw [hcons, if_neg (by omega)]
                  have G' : Ground S h₀ [(b, s'.heap.objs.size - b)] b := by
                    have h9 : S.st ≤ n := G.stn
                    refine ⟨Mono.nil.cons (by show b ≤ _; omega), fun j hj => adlt j (by omega), ?_, Nat.le_trans G.stn hle, fun j hj => ?_, fun j hj => (adlt j (by omega)).trans (G.lowA j hj)⟩
                    · rw [hcons]
                      have h5 : h₀.objs.size ≤ S.st := G.base
                      by_cases z : b ≤ S.st
                      · rw [if_pos z]; omega
                      · rw [if_neg z]; exact h5
                    · rw [hcons, hcons, if_pos hj, if_pos (by omega)]; omega
                  have D' : Rep S h₀ [(b, s'.heap.objs.size - b)] (puts mem (C.post τ' t)) b s'.heap := by
                    refine ⟨by rw [hcons, if_pos (Nat.le_refl _)]; omega, fun a o ha e => ?_, fun j o e => ?_, fun c o hb e => ?_⟩
                    · refine L.keep a o (fun y hy => ?_) (D.old a o ha e)
                      have := (mays_ok hm y hy).2.2.1
                      refine Nat.ne_of_lt ?_
                      show (a : Nat) < y.1
                      omega
                    · rcases puts_get _ _ _ _ (fun y hy => (mays_ok hm y hy).2.1) e with z | ⟨z1, z2⟩
                      · have := mays_ok hm _ z
                        exact ⟨this.1, this.2.2.1, by rw [adlt _ this.1]; exact L.post _ z⟩
                      · obtain ⟨y1, y2, y3⟩ := D.mem j o z2
                        exact ⟨Nat.lt_of_lt_of_le y1 hle, y2, by rw [adlt _ (Nat.lt_of_lt_of_le y1 hle)]; exact L.keep _ _ (fun y hy w => z1 y hy w.symm) y3⟩
                    · refine L.keep c o (fun y hy w => ?_) (D.keep c o hb e)
                      have := mays_ok hm y hy
                      rcases may_ok this.2.2.2 with z | z
                      · have h4 : (c : Nat) < h₀.objs.size := Heap.lt_size e
                        have h5 : h₀.objs.size ≤ S.st := G.base
                        have h6 : (c : Nat) = y.1 := w
                        omega
                      · exact hb _ z (w.trans (G.lowA _ (O.U _ z).2))
                  exact retS_sound hF IH H D' G' (by rw [htk]) (Nat.le_trans hT htt) L.gens (L.os.trans ho)
                · cases H
            · cases H
          · cases H
        · cases H
      · cases H
    · rename_i hl
      split at H
      · cases H
      · rename_i hy
        split at H
        · rename_i hh
          have hh' := Nat.le_of_ble_eq_true hh
          split at H
          rotate_left
          · cases H
          rename_i h69
          have W := V n i Γ p s (hΓ.trans hc) hok G.mono G.low ⟨by rw [hl]; exact hh', by rw [hy]; exact Nat.le_of_ble_eq_true h69⟩ D.old need D.size ht hg
          refine wpCode_mono (fun r s' P => ?_) W
          unfold Con.Post at P
          rw [hl, hy] at P
          obtain ⟨τ', x, rfl, L, htt, hsz, htk⟩ := P
          have H := H (s'.heap.objs.size - n) τ' x
          split at H
          · rename_i hm
            have h0 := G.mono.ge n
            have hsz0 := D.size
            have hs2 : s'.heap.objs.size - n + n = s'.heap.objs.size := by omega
            have hcons : ∀ j, ad ((n, s'.heap.objs.size - n) :: rs) j = if n ≤ j then s'.heap.objs.size - n + j else ad rs j := ad_cons _ _ _
            have G' : Ground S h₀ ((n, s'.heap.objs.size - n) :: rs) n := by
              have h9 : S.st ≤ n := G.stn
              refine ⟨G.mono.cons (by omega), fun j hj => ?_, ?_, G.stn, fun j hj => ?_, fun j hj => (by rw [hcons, if_neg (by omega)]; exact G.lowA j hj)⟩
              · rw [hcons, if_neg (by omega)]; exact G.low j hj
              · rw [hcons]
                have := G.base
                have h9 := G.stn
                by_cases z : n ≤ S.st
                · rw [if_pos z]
                  have e9 : S.st = n := by omega
                  have h10 : ad rs S.st = ad rs n := by rw [e9]
                  omega
                · rw [if_neg z]; exact G.base
              · rw [hcons, hcons, if_pos hj, if_pos (by omega)]; omega
            have adlt : ∀ j, j < n → ad ((n, s'.heap.objs.size - n) :: rs) j = ad rs j := fun j hj => by rw [hcons, if_neg (by omega)]
            have D' : Rep S h₀ ((n, s'.heap.objs.size - n) :: rs) (puts mem (C.post τ' x)) n s'.heap := by
              refine ⟨by rw [hcons, if_pos (Nat.le_refl _)]; omega, fun a o ha e => ?_, fun j o e => ?_, fun b o hb e => ?_⟩
              · refine L.keep a o (fun y hy => ?_) (D.old a o ha e)
                have := (mays_ok hm y hy).2.2.1
                have h8 := G.mono.ge y.1
                refine Nat.ne_of_lt ?_
                show (a : Nat) < ad rs y.1
                omega
              · rcases puts_get _ _ _ _ (fun y hy => (mays_ok hm y hy).2.1) e with z | ⟨z1, z2⟩
                · have := mays_ok hm _ z
                  exact ⟨this.1, this.2.2.1, by rw [adlt _ this.1]; exact L.post _ z⟩
                · obtain ⟨y1, y2, y3⟩ := D.mem j o z2
                  exact ⟨y1, y2, by rw [adlt _ y1]; exact L.keep _ _ (fun y hy w => z1 y hy (G.mono.inj w).symm) y3⟩
              · refine L.keep b o (fun y hy w => ?_) (D.keep b o hb e)
                have := mays_ok hm y hy
                rcases may_ok this.2.2.2 with z | z
                · have h4 : (b : Nat) < h₀.objs.size := Heap.lt_size e
                  have h5 := G.base
                  have h6 : (b : Nat) = ad rs y.1 := w
                  have h7 := ad_ge G.mono z
                  omega
                · exact hb _ z (w.trans (G.lowA _ (O.U _ z).2))
            exact retS_sound hF IH H D' G' htk (Nat.le_trans hT htt) L.gens (L.os.trans ho)
          · cases H
        · cases H
  · cases H

theorem look_sound {rs : List (Nat × Nat)} {mem : KT} {n : Nat} {h : Heap} (D : Rep S h₀ rs mem n h) (G : Ground S h₀ rs n) {a : Nat} {X : Nat → Obj → Prop} {Y : Obj → Prop} {j? : Option Nat} (H : lookS S rs mem a X Y j?) :
    (∃ j o, a = ad rs j ∧ mem.get j = some o ∧ h.get? a = some o ∧ X j o) ∨ (∃ o, h.get? a = some o ∧ Y o) := by
  unfold lookS at H
  split at H
  · rename_i j
    obtain ⟨ha, H⟩ := H
    split at H
    · rename_i o e
      exact .inl ⟨j, o, ha, e, by rw [ha]; exact (D.mem j o e).2.2, H⟩
    · cases H
  · split at H
    · rename_i hb
      split at H
      · rename_i o e
        exact .inr ⟨o, D.old a o (blt_t hb) e, H⟩
      · cases H
    · split at H
      · rename_i hb
        split at H
        · rename_i o e
          have hl := G.low a (blt_t hb)
          exact .inl ⟨a, o, hl.symm, e, by have := (D.mem a o e).2.2; rw [hl] at this; exact this, H⟩
        · cases H
      · cases H

theorem lit_sound {rs : List (Nat × Nat)} {mem : KT} {n : Nat} {h : Heap} (D : Rep S h₀ rs mem n h) (G : Ground S h₀ rs n) : ∀ a x, litS S mem a = some x → h.get? a = some x := by
  intro a x e
  unfold litS at e
  split at e
  · rename_i hb
    exact D.old a x (blt_t hb) e
  · split at e
    · rename_i hb
      have := (D.mem a x e).2.2
      rw [G.low a (blt_t hb)] at this
      exact this
    · cases e

theorem plus_sound {rs : List (Nat × Nat)} {mem : KT} {n : Nat} {h : Heap} (D : Rep S h₀ rs mem n h) (G : Ground S h₀ rs n) {b : Nat} {y : Obj} (hy : mem.get b = some y) : ∀ a x, plus (litS S mem) (ad rs b) y a = some x → h.get? a = some x := by
  intro a x e
  unfold plus at e
  split at e
  · rename_i q
    cases e
    rw [q]
    exact (D.mem b _ hy).2.2
  · exact lit_sound D G a x e

theorem sim_sound {os₀ : OsState} {T : Nat} {R : Result → Shared → Prop} (O : S.Ok)
    (hF : ∀ e n rs τ i mem (s : Shared), Rep S h₀ rs mem n s.heap → Ground S h₀ rs n → s.toks = τ + i → T ≤ s.toks → s.gens = #[] → s.os = os₀ → S.F e n rs τ i (S.js.map mem.get) →
      match e with | .res r => R r s | .turn Γ p => wpCode (model S.prog S.w) Γ R p s) :
    ∀ f hs rs τ mem n i Γ p κ t (s : Shared), sim S f hs rs τ mem n i Γ p κ t → Rep S h₀ rs mem n s.heap → Ground S h₀ rs n → s.toks = τ + i → T ≤ s.toks → s.gens = #[] → s.os = os₀ → Good (model S.prog S.w) R κ Γ p t s := by
  intro f
  induction f with
  | zero => intro hs rs τ mem n i Γ p κ t s H; cases H
  | succ f IH =>
    intro hs rs τ mem n i Γ p κ t s H D G ht hT hg ho
    have hden : (model S.prog S.w).den = den := den_eq
    unfold Good
    have H : stepS S f (sim S f) hs rs τ mem n i Γ p κ t := H
    cases t with
    | pure fin =>
      cases fin with
      | done fl => exact retS_sound hF IH (r := .ok fl) H D G ht hT hg ho
      | again c =>
        simp only [stepS] at H
        show c.quiet = true ∧ wpCode (model S.prog S.w) (Γ.goto c) (endK (model S.prog S.w) R κ) p s
        split at H
        · rename_i x hx
          split at H
          · rename_i k hk
            split at H
            · rename_i hq
              exact ⟨qt_ok hq, conS_sound O hF IH (Γ := Γ.goto c) (p := p) rfl H D G ht hT hg ho⟩
            · cases H
          · split at H
            · split at H
              · rename_i hq
                exact ⟨qt_ok hq, hF (.turn (Γ.goto c) p) n rs τ i mem s D G ht hT hg ho H⟩
              · cases H
            · cases H
          · cases H
          · cases H
          · cases H
        · split at H
          · rename_i hq
            refine ⟨qt_ok hq, (wpCode_iff_wp _ _ _ _ _).mpr ?_⟩
            rw [hden]
            exact IH _ _ _ _ _ _ _ _ _ _ _ H D G ht hT hg ho
          · cases H
    | raise e => exact retS_sound hF IH (r := .error e) H D G ht hT hg ho
    | rule tag k =>
      have Hx : sim S f hs rs τ mem n i Γ p κ (k ()) := H
      have z := IH _ _ _ _ _ _ _ _ _ _ _ Hx D G ht hT hg ho
      exact z
    | «at» q k =>
      have Hx : sim S f hs rs τ mem n i Γ q κ (k ()) := H
      have z := IH _ _ _ _ _ _ _ _ _ _ _ Hx D G ht hT hg ho
      exact z
    | point l k =>
      have Hx : sim S f hs rs τ mem n i Γ p κ (k ()) := H
      have z := IH _ _ _ _ _ _ _ _ _ _ _ Hx D G ht hT hg ho
      exact z
    | ask k =>
      have Hx : sim S f hs rs τ mem n i Γ p κ (k ⟨S.prog, S.P⟩) := H
      rw [O.P] at Hx
      have z := IH _ _ _ _ _ _ _ _ _ _ _ Hx D G ht hT hg ho
      exact z
    | fresh k =>
      have Hx : sim S f hs rs τ mem n (Nat.add i 1) Γ p κ (k (Nat.add τ i)) := H
      show Sem.wp _ Γ (k s.toks) _ _ p { s with toks := s.toks + 1 }
      rw [ht]
      exact IH _ _ _ _ _ _ _ _ _ _ { s with toks := τ + i + 1 } Hx D G (by show τ + i + 1 = τ + (i + 1); omega) (Nat.le_succ_of_le (by rw [← ht]; exact hT)) hg ho
    | stack k =>
      have Hx : sim S f hs rs τ mem n i Γ p κ (k ((Γ.code, p) :: Γ.below)) := H
      have z := IH _ _ _ _ _ _ _ _ _ _ _ Hx D G ht hT hg ho
      exact z
    | handled own k =>
      cases own with
      | true =>
        have Hx : sim S f hs rs τ mem n i Γ p κ (k Γ.own) := H
        have z := IH _ _ _ _ _ _ _ _ _ _ _ Hx D G ht hT hg ho
        exact z
      | false =>
        have Hx : sim S f hs rs τ mem n i Γ p κ (k Γ.handled) := H
        have z := IH _ _ _ _ _ _ _ _ _ _ _ Hx D G ht hT hg ho
        exact z
    | load a q k =>
      have key : ∀ hs' : Mine.Hs, ∀ j?, lookS S rs mem a (fun _ o => sim S f hs' rs τ mem n i Γ p κ (k o)) (fun o => sim S f hs' rs τ mem n i Γ p κ (k o)) j? → Sem.wp (model S.prog S.w) Γ (.load a q k) (Sem.finPost (model S.prog S.w) Γ (endK (model S.prog S.w) R κ)) (fun e _ s' => endK (model S.prog S.w) R κ (.error e) s') p s := fun hs' j? H => by
        rw [Sem.wp_load]
        rcases look_sound D G H with ⟨j, o, _, _, e, X⟩ | ⟨o, e, X⟩
        · exact ⟨o, e, IH _ _ _ _ _ _ _ _ _ _ _ X D G ht hT hg ho⟩
        · exact ⟨o, e, IH _ _ _ _ _ _ _ _ _ _ _ X D G ht hT hg ho⟩
      simp only [stepS] at H
      split at H
      · split at H
        · exact key _ _ H
        · cases H
        · cases H
        · cases H
        · cases H
      · exact key _ _ H
    | loadIfAlive a k =>
      have key : ∀ hs' : Mine.Hs, ∀ j?, lookS S rs mem a (fun _ o => sim S f hs' rs τ mem n i Γ p κ (k (some o))) (fun o => sim S f hs' rs τ mem n i Γ p κ (k (some o))) j? → Sem.wp (model S.prog S.w) Γ (.loadIfAlive a k) (Sem.finPost (model S.prog S.w) Γ (endK (model S.prog S.w) R κ)) (fun e _ s' => endK (model S.prog S.w) R κ (.error e) s') p s := fun hs' j? H => by
        rw [Sem.wp_loadIfAlive]
        rcases look_sound D G H with ⟨j, o, _, _, e, X⟩ | ⟨o, e, X⟩
        · rw [e]; exact IH _ _ _ _ _ _ _ _ _ _ _ X D G ht hT hg ho
        · rw [e]; exact IH _ _ _ _ _ _ _ _ _ _ _ X D G ht hT hg ho
      simp only [stepS] at H
      split at H
      · split at H
        · exact key _ _ H
        · cases H
        · cases H
        · cases H
        · cases H
      · exact key _ _ H
    | update a q g k =>
      have key : ∀ hs' : Mine.Hs, ∀ j?, lookS S rs mem a (fun j o => match may S j with
          | true => match (g o).isFreed with
            | false => match Nat.blt j 1048576 with
              | true => sim S f hs' rs τ (pt mem j (g o)) n i Γ p κ (k ())
              | false => False
            | true => False
          | false => False) (fun _ => False) j? → Sem.wp (model S.prog S.w) Γ (.update a q g k) (Sem.finPost (model S.prog S.w) Γ (endK (model S.prog S.w) R κ)) (fun e _ s' => endK (model S.prog S.w) R κ (.error e) s') p s := fun hs' j? H => by
        rw [Sem.wp_update]
        rcases look_sound D G H with ⟨j, o, ha, hm, e, X⟩ | ⟨o, e, X⟩
        · split at X
          · rename_i h1
            split at X
            · rename_i h2
              split at X
              · rename_i h3
                refine ⟨by rw [e]; rfl, ?_⟩
                have D' := D.update G O hm h1 h2 (blt_t h3)
                rw [← ha] at D'
                exact IH _ _ _ _ _ _ _ _ _ _ { s with heap := s.heap.update a g } X D' G ht hT hg ho
              · cases X
            · cases X
          · cases X
        · cases X
      simp only [stepS] at H
      split at H
      · split at H
        · exact key _ _ H
        · cases H
        · cases H
        · cases H
        · cases H
      · exact key _ _ H
    | alloc o k =>
      simp only [stepS] at H
      split at H
      · rename_i h1
        split at H
        · rename_i h2
          rw [Sem.wp_alloc, D.size]
          have G' : Ground S h₀ rs (n + 1) := ⟨G.mono, G.low, G.base, Nat.le_succ_of_le G.stn, fun j hj => G.succ j (by omega), G.lowA⟩
          exact IH _ _ _ _ _ _ _ _ _ _ { s with heap := s.heap.push o } H (D.push G O h1 (blt_t h2)) G' ht hT hg ho
        · cases H
      · cases H
    | call c hh g l k =>
      rw [Sem.wp_call]
      simp only [stepS] at H
      split at H
      · rename_i x hx
        split at H
        · rename_i j hj
          split at H
          · split at H
            · rename_i o hop
              have key : (∀ c, o.cond = some c → c) ∧ opS (sim S f) o x.2 rs τ mem n i Γ p κ k := by
                split at H
                · rename_i q hq
                  exact ⟨fun c hc => by rw [hq] at hc; cases hc; exact H.1, H.2⟩
                · rename_i hq
                  exact ⟨fun c hc => (by rw [hq] at hc; cases hc), H⟩
              refine O.ops _ _ _ _ hop key.1 p s _ (lit_sound D G) ?_
              have H := key.2
              unfold opS at H
              split
              · rename_i u hu
                rw [hu] at H
                rw [ht]
                exact IH _ _ _ _ _ _ _ _ _ _ { s with toks := τ + i + u } H D G (by show τ + i + u = τ + (i + u); omega) (by show T ≤ τ + i + u; rw [ht] at hT; omega) hg ho
              · rename_i hu
                rw [hu] at H
                intro y t htt
                have H := H (t - i) y
                exact IH _ _ _ _ _ _ _ _ _ _ { s with toks := t } H D G (by show t = t - i + i; omega) (Nat.le_trans hT htt) hg ho
            · cases H
          · cases H
        · rename_i j b hj
          split at H
          · split at H
            · rename_i y hy
              split at H
              · rename_i o hop
                have key : (∀ c, o.cond = some c → c) ∧ opS (sim S f) o x.2 rs τ mem n i Γ p κ k := by
                  split at H
                  · rename_i q hq
                    exact ⟨fun c hc => by rw [hq] at hc; cases hc; exact H.1, H.2⟩
                  · rename_i hq
                    exact ⟨fun c hc => (by rw [hq] at hc; cases hc), H⟩
                refine O.ops2 _ _ _ _ _ _ hop key.1 (Γ.enter c none p) p s _ rfl (plus_sound D G hy) ?_
                have H := key.2
                unfold opS at H
                split
                · rename_i u hu
                  rw [hu] at H
                  rw [ht]
                  exact IH _ _ _ _ _ _ _ _ _ _ { s with toks := τ + i + u } H D G (by show τ + i + u = τ + (i + u); omega) (by show T ≤ τ + i + u; rw [ht] at hT; omega) hg ho
                · rename_i hu
                  rw [hu] at H
                  intro y t htt
                  have H := H (t - i) y
                  exact IH _ _ _ _ _ _ _ _ _ _ { s with toks := t } H D G (by show t = t - i + i; omega) (Nat.le_trans hT htt) hg ho
              · cases H
            · cases H
          · cases H
        · have W := conS_sound O hF IH (κ := .ret Γ p k κ) (Γ := Γ.enter c hh p) (p := p) rfl H D G ht hT hg ho
          exact W
        · cases H
        · cases H
      · refine (wpCode_iff_wp _ _ _ _ _).mpr ?_
        rw [hden]
        exact IH _ _ _ _ _ _ _ _ _ _ _ H D G ht hT hg ho
    | _ => cases H
end
end Mine
end
section
open PySem PySem.W PySem.W.X
namespace Mine
noncomputable def isLit (n : Nat) (id : String) : Bool := PySem.W.S.eqLit n id

/-- a dict of texts: the value under a text -/
noncomputable def findS : List DictEntry → Str → Option Value
  | [], _ => none
  | e :: r, k => match e.key with
    | .str x _ => match PySem.W.Fast.sEq x k with
      | true => some e.val
      | false => findS r k
    | _ => none
noncomputable def strKeys : List DictEntry → Bool
  | [] => true
  | e :: r => match e.key with
    | .str .. => strKeys r
    | _ => false
noncomputable def opGet (c : Code) (lk : Nat → Option Obj) : Option Op := match c with
  | .call (.builtin id) ⟨[.ref d, .str k _, dv], []⟩ => match isLit 8459563503104322149 id with
    | true => match lk d with
      | some ⟨.type T, _, .dict es _, _⟩ => match isLit 1969515109 T with
        | true => match strKeys es.toList with
          | true => match Nat.beq d sysModules with
            | true => none
            | false => some ⟨none, some 1, fun _ => .ok (.ret (match findS es.toList k with | some v => v | none => dv))⟩
          | false => none
        | false => none
      | _ => none
    | false => none
  | _ => none
noncomputable def opLt (b : Bool) (c : Code) : Option Op := match c with
  | .call (.builtin id) ⟨[.int x _, .int y _], []⟩ => match isLit 455126531311803185852266 id with
    | true => some ⟨some (match b with | true => x < y | false => ¬ x < y), some 0, fun _ => .ok (.ret (.bool b))⟩
    | false => none
  | _ => none
noncomputable def opGt (b : Bool) (c : Code) : Option Op := match c with
  | .call (.builtin id) ⟨[.int x _, .int y _], []⟩ => match isLit 455126529904428302298986 id with
    | true => some ⟨some (match b with | true => x > y | false => ¬ x > y), some 0, fun _ => .ok (.ret (.bool b))⟩
    | false => none
  | _ => none
noncomputable def opLe (b : Bool) (c : Code) : Option Op := match c with
  | .call (.builtin id) ⟨[.int x _, .int y _], []⟩ => match isLit 455125450447892616933226 id with
    | true => some ⟨some (match b with | true => x ≤ y | false => ¬ x ≤ y), some 0, fun _ => .ok (.ret (.bool b))⟩
    | false => none
  | _ => none
noncomputable def opGe (b : Bool) (c : Code) : Option Op := match c with
  | .call (.builtin id) ⟨[.int x _, .int y _], []⟩ => match isLit 455125449040517733379946 id with
    | true => some ⟨some (match b with | true => x ≥ y | false => ¬ x ≥ y), some 0, fun _ => .ok (.ret (.bool b))⟩
    | false => none
  | _ => none
noncomputable def opEq (b : Bool) (c : Code) : Option Op := match c with
  | .call (.builtin id) ⟨[.int x _, .int y _], []⟩ => match isLit 455126313168696235093866 id with
    | true => some ⟨some (match b with | true => x = y | false => ¬ x = y), some 0, fun _ => .ok (.ret (.bool b))⟩
    | false => none
  | _ => none
noncomputable def opNe (b : Bool) (c : Code) : Option Op := match c with
  | .call (.builtin id) ⟨[.int x _, .int y _], []⟩ => match isLit 455125451010842570354538 id with
    | true => some ⟨some (match b with | true => x ≠ y | false => ¬ x ≠ y), some 0, fun _ => .ok (.ret (.bool b))⟩
    | false => none
  | _ => none
noncomputable def opBool (b : Bool) (c : Code) : Option Op := match c with
  | .call (.builtin id) ⟨[.int x _], []⟩ => match isLit 29827134633612522566320484202 id with
    | true => some ⟨some (match b with | true => x ≠ 0 | false => x = 0), some 0, fun _ => .ok (.ret (.bool b))⟩
    | false => none
  | _ => none
noncomputable def opAbs (c : Code) : Option Op := match c with
  | .call (.builtin id) ⟨[.int x _], []⟩ => match isLit 7627618 id with
    | true => some ⟨none, none, fun t => .ok (.ret (.int (x.natAbs : Int) t))⟩
    | false => none
  | _ => none
noncomputable def opDiv (c : Code) : Option Op := match c with
  | .call (.builtin id) ⟨[.int x _, .int y _], []⟩ => match isLit 128106770130096871752080967664072486762 id with
    | true => some ⟨some (y ≠ 0 ∧ Builtin.divisionGoesByPylong x y = false), some 1, fun t => .ok (.ret (.int (x.fdiv y) t))⟩
    | false => none
  | _ => none
noncomputable def opMod (c : Code) : Option Op := match c with
  | .call (.builtin id) ⟨[.int x _, .int y _], []⟩ => match isLit 116512097088030077292474218 id with
    | true => some ⟨some (y ≠ 0), some 1, fun t => .ok (.ret (.int (x.fmod y) t))⟩
    | false => none
  | _ => none
noncomputable def opMul (c : Code) : Option Op := match c with
  | .call (.builtin id) ⟨[.int x _, .int y _], []⟩ => match isLit 116512245094328231196454762 id with
    | true => some ⟨some (Builtin.Int.intTooBig (Builtin.Int.intBits x + Builtin.Int.intBits y) = false), some 1, fun t => .ok (.ret (.int (x * y) t))⟩
    | false => none
  | _ => none
noncomputable def ops (j : Nat) (c : Code) (lk : Nat → Option Obj) : Option Op := match j with
  | 0 => opGet c lk
  | 1 => opLt true c
  | 2 => opLt false c
  | 3 => opGt true c
  | 4 => opGt false c
  | 5 => opLe true c
  | 6 => opLe false c
  | 7 => opGe true c
  | 8 => opGe false c
  | 9 => opEq true c
  | 10 => opEq false c
  | 11 => opNe true c
  | 12 => opNe false c
  | 13 => opBool true c
  | 14 => opBool false c
  | 15 => opAbs c
  | 16 => opDiv c
  | 17 => opMod c
  | 18 => opMul c
  | _ => none
end Mine
end
section
open PySem PySem.W PySem.W.X
namespace Mine

theorem isLit_of {n : Nat} {b id : String} (hn : PySem.code b = n) (h : isLit n id = true) : id = b := by
  have e := congrFun (PySem.W.S.eqLit_eq b n hn) id
  unfold isLit at h
  rw [← e] at h
  exact eq_of_beq h

/-- a context is below its own measures -/
noncomputable def own (Γ : PySem.Ctx) : Around := ⟨Γ.handled, frameCount Γ.below, none, none, unitsOf Γ.below⟩
theorem own_below (Γ : PySem.Ctx) : Γ.Below (own Γ) := ⟨rfl, Nat.le_refl _, fun _ h => (nomatch h), fun _ h => (nomatch h), Nat.le_refl _⟩

theorem findS_eq {k : Str} : ∀ {l : List DictEntry}, strKeys l = true → findS l k = (l.find? fun e => e.key.isStr k).map (·.val)
  | [], _ => rfl
  | e :: r, h => by
    obtain ⟨hs, key, val⟩ := e
    cases key with
    | str x t =>
      have h' : strKeys r = true := h
      show (match PySem.W.Fast.sEq x k with | true => some val | false => findS r k) = _
      rw [List.find?_cons]
      show _ = Option.map _ (match (x == k) with | true => _ | false => _)
      cases q : PySem.W.Fast.sEq x k with
      | true =>
        have : x = k := PySem.W.Fast.sEq_iff.mp q
        simp [this]
      | false =>
        have : (x == k) = false := by
          rw [beq_eq_false_iff_ne]
          intro e
          rw [PySem.W.Fast.sEq_iff.mpr e] at q
          cases q
        rw [this]
        exact findS_eq h'
    | _ => cases h
theorem strKeys_all : ∀ {l : List DictEntry}, strKeys l = true → (l.all fun e => isExactStrKey e.key) = true
  | [], _ => rfl
  | e :: r, h => by
    obtain ⟨hs, key, val⟩ := e
    cases key with
    | str x t =>
      have h' : strKeys r = true := h
      rw [List.all_cons, strKeys_all h']; rfl
    | _ => cases h
theorem idx_find {p : DictEntry → Bool} : ∀ (l : List DictEntry), (match l.findIdx? p with | some i => (l[i]?).map (·.val) | none => none) = (l.find? p).map (·.val)
  | [] => rfl
  | e :: r => by
    rw [List.findIdx?_cons, List.find?_cons]
    cases h : p e with
    | true => simp
    | false =>
      have ih := idx_find (p := p) r
      rw [← ih]
      cases r.findIdx? p <;> simp

theorem arr_idx {p : DictEntry → Bool} (es : Array DictEntry) : es.toList.findIdx? p = es.findIdx? p := by
  obtain ⟨l⟩ := es
  exact (List.findIdx?_toArray p l).symm

theorem get_code {prog : Program} {w : World} {Γ : PySem.Ctx} {p : Pos} {s : Shared} {R : Result → Shared → Prop} {d : Addr} {k : Str} {t : Tok} {dv : Value} {di : Option Addr} {es : Array DictEntry} {ep : Nat} {sl : Array (Option Value)}
    (hc : Γ.code = .call (.builtin "dict.get") ⟨[.ref d, .str k t, dv], []⟩) (ho : s.heap.get? d = some ⟨.type "dict", di, .dict es ep, sl⟩) (hk : strKeys es.toList = true) (hd : (d == sysModules) = false)
    (h : R (.ok (.ret (match findS es.toList k with | some v => v | none => dv))) { s with toks := s.toks + 1 }) : wpCode (model prog w) Γ R p s := by
  have hT : s.TypeIs (.ref d) "dict" := ⟨_, ho, rfl⟩
  have ha : (es.all fun e => isExactStrKey e.key) = true := by rw [← Array.all_toList]; exact strKeys_all hk
  have body : wpAny (model prog w) (own Γ).in1 (Builtin.«dict.get» ⟨[.ref d, .str k t, dv], []⟩) (fun fin s' => ∃ v, fin = .done (.ret v) ∧ R (.ok (.ret v)) s') (fun e s' => R (.error e) s') s := by
    show wpAny _ _ (dictGet d (.str k t) >>= _) _ _ s
    refine wpAny_bind ?_
    unfold dictGet
    try with_reducible refine wpAny_holding ?_
    refine wpAny_bind (wpAny_pyHash_str ?_)
    refine wpAny_bind (PyProof.Rows.KTD.kt_dictFind_strs (s := { s with toks := s.toks + 1 }) ho rfl ha ?_)
    have e := idx_find (p := fun e => e.key.isStr k) es.toList
    rw [← findS_eq hk, arr_idx es] at e
    cases q : es.findIdx? (fun e => e.key.isStr k) with
    | none =>
      rw [q] at e
      rw [← e] at h
      refine wpAny_pure ?_
      show wpAny _ _ (Builtin.Dict.missed d _ >>= _) _ _ _
      exact wpAny_bind (wpAny_missed_other hd (wpAny_pure ⟨_, rfl, h⟩))
    | some i =>
      rw [q] at e
      refine wpAny_bind (wpAny_dictEntries (s := { s with toks := s.toks + 1 }) ho rfl (wpAny_pure ?_))
      obtain ⟨hlt, _, _⟩ := Array.findIdx?_eq_some_iff_getElem.mp q
      have e1 : es[i]? = some es[i] := Array.getElem?_eq_getElem hlt
      have e2 : es.toList[i]? = some es[i] := by rw [← e1]; simp
      rw [e1]
      have e3 : findS es.toList k = some es[i].val := by rw [← e]; show Option.map _ es.toList[i]? = _; rw [e2]; rfl
      rw [e3] at h
      exact wpAny_pure ⟨_, rfl, h⟩
  have A : codeAny (model prog w) (own Γ) (.call (.builtin "dict.get") ⟨[.ref d, .str k t, dv], []⟩) R s := by
    refine codeAny_call_builtin F.slot_dict_get.plain F.entry_dict_get (F.slot_dict_get.check _ _ _ _ _ _ _ _ hT (F.args_dict_get_3 _ _ _) (wpAny_mono body (fun fin s' h' => ?_) fun _ _ h' => h'))
    obtain ⟨v, rfl, hv⟩ := h'
    exact hv
  exact A Γ p hc (own_below Γ)

theorem entry_code {prog : Program} {w : World} {Γ : PySem.Ctx} {p : Pos} {s : Shared} {R : Result → Shared → Prop} {T : String} {name : Str} {id : String} {b : Builtin} {self : Value} {rest : List Value}
    (hs : Slot T name id) (hT : s.TypeIs self T) (hb : entryFor table id = some b) (ha : argsOk id ⟨self :: rest, []⟩) (hc : Γ.code = .call (.builtin id) ⟨self :: rest, []⟩)
    (body : wpAny (model prog w) (own Γ).in1 (b ⟨self :: rest, []⟩) (fun fin s' => ∃ v, fin = .done (.ret v) ∧ R (.ok (.ret v)) s') (fun e s' => R (.error e) s') s) : wpCode (model prog w) Γ R p s := by
  have A : codeAny (model prog w) (own Γ) (.call (.builtin id) ⟨self :: rest, []⟩) R s := by
    refine codeAny_call_builtin hs.plain hb (hs.check _ _ _ _ _ _ _ _ hT ha (wpAny_mono body (fun fin s' h' => ?_) fun _ _ h' => h'))
    obtain ⟨v, rfl, hv⟩ := h'
    exact hv
  exact A Γ p hc (own_below Γ)

theorem code_pure2 {prog : Program} {w : World} {Γ : PySem.Ctx} {p : Pos} {s : Shared} {R : Result → Shared → Prop} {c2 : Code} {f : Flow}
    (h1 : den Γ.code = .pure (.again c2)) (hq : qt c2 = true) (h2 : den c2 = .pure (.done f)) (H : R (.ok f) s) : wpCode (model prog w) Γ R p s := by
  have hd : (model prog w).den = den := den_eq
  refine (wpCode_iff_wp _ _ _ _ _).mpr ?_
  rw [hd, h1]
  refine ⟨qt_ok hq, (wpCode_iff_wp _ _ _ _ _).mpr ?_⟩
  show Sem.wp _ _ ((model prog w).den c2) _ _ _ _
  rw [hd, h2]
  exact H


theorem fun_code {prog : Program} {w : World} {Γ : PySem.Ctx} {p : Pos} {s : Shared} {R : Result → Shared → Prop} {id : String} {b : Builtin} {args : List Value}
    (hk : builtinKind id = none) (hp : plainId id = true) (hb : entryFor table id = some b) (ha : argsOk id ⟨args, []⟩) (hc : Γ.code = .call (.builtin id) ⟨args, []⟩)
    (body : wpAny (model prog w) (own Γ).in1 (b ⟨args, []⟩) (fun fin s' => ∃ v, fin = .done (.ret v) ∧ R (.ok (.ret v)) s') (fun e s' => R (.error e) s') s) : wpCode (model prog w) Γ R p s := by
  have A : codeAny (model prog w) (own Γ) (.call (.builtin id) ⟨args, []⟩) R s := by
    refine codeAny_call_builtin hp hb ?_
    have fin : wpAny (model prog w) (own Γ).in1 (b ⟨args, []⟩) (fun fin s' => match fin with
      | .done f => R (.ok f) s'
      | .again c' => c'.quiet = true ∧ codeAny (model prog w) (own Γ) c' R s') (fun e s' => R (.error e) s') s :=
      wpAny_mono body (fun fin s' h' => by obtain ⟨v, rfl, hv⟩ := h'; exact hv) fun _ _ h' => h'
    simp only [checkBuiltinCall, hk]
    cases hsig : Manifest.signature? id with
    | none => exact wpAny_pure fin
    | some sig =>
      simp only [argsOk, hsig] at ha
      have h2 : Bind.checkArgs id sig ⟨args, []⟩ = pure () := ha
      show wpAny _ (own Γ).in1 (Bind.checkArgs id sig ⟨args, []⟩) _ _ s
      rw [h2]
      exact wpAny_pure fin
  exact A Γ p hc (own_below Γ)

noncomputable def sLt : String := PySem.W.S.litE [PySem.W.S.mk8 105 rfl, PySem.W.S.mk8 110 rfl, PySem.W.S.mk8 116 rfl, PySem.W.S.mk8 46 rfl, PySem.W.S.mk8 95 rfl, PySem.W.S.mk8 95 rfl, PySem.W.S.mk8 108 rfl, PySem.W.S.mk8 116 rfl, PySem.W.S.mk8 95 rfl, PySem.W.S.mk8 95 rfl] [105, 110, 116, 46, 95, 95, 108, 116, 95, 95] rfl rfl
theorem sLt_eq : "int.__lt__" = sLt := PySem.W.S.litE_eq _ [105, 110, 116, 46, 95, 95, 108, 116, 95, 95] rfl rfl
noncomputable def sGt : String := PySem.W.S.litE [PySem.W.S.mk8 105 rfl, PySem.W.S.mk8 110 rfl, PySem.W.S.mk8 116 rfl, PySem.W.S.mk8 46 rfl, PySem.W.S.mk8 95 rfl, PySem.W.S.mk8 95 rfl, PySem.W.S.mk8 103 rfl, PySem.W.S.mk8 116 rfl, PySem.W.S.mk8 95 rfl, PySem.W.S.mk8 95 rfl] [105, 110, 116, 46, 95, 95, 103, 116, 95, 95] rfl rfl
theorem sGt_eq : "int.__gt__" = sGt := PySem.W.S.litE_eq _ [105, 110, 116, 46, 95, 95, 103, 116, 95, 95] rfl rfl
noncomputable def sLe : String := PySem.W.S.litE [PySem.W.S.mk8 105 rfl, PySem.W.S.mk8 110 rfl, PySem.W.S.mk8 116 rfl, PySem.W.S.mk8 46 rfl, PySem.W.S.mk8 95 rfl, PySem.W.S.mk8 95 rfl, PySem.W.S.mk8 108 rfl, PySem.W.S.mk8 101 rfl, PySem.W.S.mk8 95 rfl, PySem.W.S.mk8 95 rfl] [105, 110, 116, 46, 95, 95, 108, 101, 95, 95] rfl rfl
theorem sLe_eq : "int.__le__" = sLe := PySem.W.S.litE_eq _ [105, 110, 116, 46, 95, 95, 108, 101, 95, 95] rfl rfl
noncomputable def sGe : String := PySem.W.S.litE [PySem.W.S.mk8 105 rfl, PySem.W.S.mk8 110 rfl, PySem.W.S.mk8 116 rfl, PySem.W.S.mk8 46 rfl, PySem.W.S.mk8 95 rfl, PySem.W.S.mk8 95 rfl, PySem.W.S.mk8 103 rfl, PySem.W.S.mk8 101 rfl, PySem.W.S.mk8 95 rfl, PySem.W.S.mk8 95 rfl] [105, 110, 116, 46, 95, 95, 103, 101, 95, 95] rfl rfl
theorem sGe_eq : "int.__ge__" = sGe := PySem.W.S.litE_eq _ [105, 110, 116, 46, 95, 95, 103, 101, 95, 95] rfl rfl
noncomputable def sEq : String := PySem.W.S.litE [PySem.W.S.mk8 105 rfl, PySem.W.S.mk8 110 rfl, PySem.W.S.mk8 116 rfl, PySem.W.S.mk8 46 rfl, PySem.W.S.mk8 95 rfl, PySem.W.S.mk8 95 rfl, PySem.W.S.mk8 101 rfl, PySem.W.S.mk8 113 rfl, PySem.W.S.mk8 95 rfl, PySem.W.S.mk8 95 rfl] [105, 110, 116, 46, 95, 95, 101, 113, 95, 95] rfl rfl
theorem sEq_eq : "int.__eq__" = sEq := PySem.W.S.litE_eq _ [105, 110, 116, 46, 95, 95, 101, 113, 95, 95] rfl rfl
noncomputable def sNe : String := PySem.W.S.litE [PySem.W.S.mk8 105 rfl, PySem.W.S.mk8 110 rfl, PySem.W.S.mk8 116 rfl, PySem.W.S.mk8 46 rfl, PySem.W.S.mk8 95 rfl, PySem.W.S.mk8 95 rfl, PySem.W.S.mk8 110 rfl, PySem.W.S.mk8 101 rfl, PySem.W.S.mk8 95 rfl, PySem.W.S.mk8 95 rfl] [105, 110, 116, 46, 95, 95, 110, 101, 95, 95] rfl rfl
theorem sNe_eq : "int.__ne__" = sNe := PySem.W.S.litE_eq _ [105, 110, 116, 46, 95, 95, 110, 101, 95, 95] rfl rfl
noncomputable def sBool : String := PySem.W.S.litE [PySem.W.S.mk8 105 rfl, PySem.W.S.mk8 110 rfl, PySem.W.S.mk8 116 rfl, PySem.W.S.mk8 46 rfl, PySem.W.S.mk8 95 rfl, PySem.W.S.mk8 95 rfl, PySem.W.S.mk8 98 rfl, PySem.W.S.mk8 111 rfl, PySem.W.S.mk8 111 rfl, PySem.W.S.mk8 108 rfl, PySem.W.S.mk8 95 rfl, PySem.W.S.mk8 95 rfl] [105, 110, 116, 46, 95, 95, 98, 111, 111, 108, 95, 95] rfl rfl
theorem sBool_eq : "int.__bool__" = sBool := PySem.W.S.litE_eq _ [105, 110, 116, 46, 95, 95, 98, 111, 111, 108, 95, 95] rfl rfl
noncomputable def sAbs : String := PySem.W.S.litE [PySem.W.S.mk8 97 rfl, PySem.W.S.mk8 98 rfl, PySem.W.S.mk8 115 rfl] [97, 98, 115] rfl rfl
theorem sAbs_eq : "abs" = sAbs := PySem.W.S.litE_eq _ [97, 98, 115] rfl rfl
noncomputable def sIAbs : String := PySem.W.S.litE [PySem.W.S.mk8 105 rfl, PySem.W.S.mk8 110 rfl, PySem.W.S.mk8 116 rfl, PySem.W.S.mk8 46 rfl, PySem.W.S.mk8 95 rfl, PySem.W.S.mk8 95 rfl, PySem.W.S.mk8 97 rfl, PySem.W.S.mk8 98 rfl, PySem.W.S.mk8 115 rfl, PySem.W.S.mk8 95 rfl, PySem.W.S.mk8 95 rfl] [105, 110, 116, 46, 95, 95, 97, 98, 115, 95, 95] rfl rfl
theorem sIAbs_eq : "int.__abs__" = sIAbs := PySem.W.S.litE_eq _ [105, 110, 116, 46, 95, 95, 97, 98, 115, 95, 95] rfl rfl
noncomputable def sDiv : String := PySem.W.S.litE [PySem.W.S.mk8 105 rfl, PySem.W.S.mk8 110 rfl, PySem.W.S.mk8 116 rfl, PySem.W.S.mk8 46 rfl, PySem.W.S.mk8 95 rfl, PySem.W.S.mk8 95 rfl, PySem.W.S.mk8 102 rfl, PySem.W.S.mk8 108 rfl, PySem.W.S.mk8 111 rfl, PySem.W.S.mk8 111 rfl, PySem.W.S.mk8 114 rfl, PySem.W.S.mk8 100 rfl, PySem.W.S.mk8 105 rfl, PySem.W.S.mk8 118 rfl, PySem.W.S.mk8 95 rfl, PySem.W.S.mk8 95 rfl] [105, 110, 116, 46, 95, 95, 102, 108, 111, 111, 114, 100, 105, 118, 95, 95] rfl rfl
theorem sDiv_eq : "int.__floordiv__" = sDiv := PySem.W.S.litE_eq _ [105, 110, 116, 46, 95, 95, 102, 108, 111, 111, 114, 100, 105, 118, 95, 95] rfl rfl
noncomputable def sMod : String := PySem.W.S.litE [PySem.W.S.mk8 105 rfl, PySem.W.S.mk8 110 rfl, PySem.W.S.mk8 116 rfl, PySem.W.S.mk8 46 rfl, PySem.W.S.mk8 95 rfl, PySem.W.S.mk8 95 rfl, PySem.W.S.mk8 109 rfl, PySem.W.S.mk8 111 rfl, PySem.W.S.mk8 100 rfl, PySem.W.S.mk8 95 rfl, PySem.W.S.mk8 95 rfl] [105, 110, 116, 46, 95, 95, 109, 111, 100, 95, 95] rfl rfl
theorem sMod_eq : "int.__mod__" = sMod := PySem.W.S.litE_eq _ [105, 110, 116, 46, 95, 95, 109, 111, 100, 95, 95] rfl rfl
noncomputable def sMul : String := PySem.W.S.litE [PySem.W.S.mk8 105 rfl, PySem.W.S.mk8 110 rfl, PySem.W.S.mk8 116 rfl, PySem.W.S.mk8 46 rfl, PySem.W.S.mk8 95 rfl, PySem.W.S.mk8 95 rfl, PySem.W.S.mk8 109 rfl, PySem.W.S.mk8 117 rfl, PySem.W.S.mk8 108 rfl, PySem.W.S.mk8 95 rfl, PySem.W.S.mk8 95 rfl] [105, 110, 116, 46, 95, 95, 109, 117, 108, 95, 95] rfl rfl
theorem sMul_eq : "int.__mul__" = sMul := PySem.W.S.litE_eq _ [105, 110, 116, 46, 95, 95, 109, 117, 108, 95, 95] rfl rfl

theorem opLt_fits {prog : Program} {w : World} {b : Bool} {c : Code} {lk : Nat → Option Obj} {o : Op} (h : opLt b c = some o) : o.Fits prog w c lk := by
  unfold opLt at h
  split at h
  · rename_i id x t y u
    split at h
    · rename_i hl
      cases h
      have hid : id = sLt := (isLit_of (b := "int.__lt__") (by rfl) hl).trans sLt_eq
      subst hid
      intro hc Γ p s R hΓ _ H
      have hc := hc _ rfl
      have e : decide (x < y) = b := by
        cases b with
        | true => have hc : x < y := hc; simpa using hc
        | false => have hc : ¬ x < y := hc; simpa using hc
      refine code_pure2 (c2 := .builtin sLt ⟨[.int x t, .int y u], []⟩) (f := .ret (.bool (decide (x < y)))) (by rw [hΓ]; kernel_rfl) (by kernel_rfl) (by kernel_rfl) ?_
      rw [e]
      exact H
    · cases h
  · cases h

theorem opGt_fits {prog : Program} {w : World} {b : Bool} {c : Code} {lk : Nat → Option Obj} {o : Op} (h : opGt b c = some o) : o.Fits prog w c lk := by
  unfold opGt at h
  split at h
  · rename_i id x t y u
    split at h
    · rename_i hl
      cases h
      have hid : id = sGt := (isLit_of (b := "int.__gt__") (by rfl) hl).trans sGt_eq
      subst hid
      intro hc Γ p s R hΓ _ H
      have hc := hc _ rfl
      have e : decide (x > y) = b := by
        cases b with
        | true => have hc : x > y := hc; simpa using hc
        | false => have hc : ¬ x > y := hc; simpa using hc
      refine code_pure2 (c2 := .builtin sGt ⟨[.int x t, .int y u], []⟩) (f := .ret (.bool (decide (x > y)))) (by rw [hΓ]; kernel_rfl) (by kernel_rfl) (by kernel_rfl) ?_
      rw [e]
      exact H
    · cases h
  · cases h

theorem opLe_fits {prog : Program} {w : World} {b : Bool} {c : Code} {lk : Nat → Option Obj} {o : Op} (h : opLe b c = some o) : o.Fits prog w c lk := by
  unfold opLe at h
  split at h
  · rename_i id x t y u
    split at h
    · rename_i hl
      cases h
      have hid : id = sLe := (isLit_of (b := "int.__le__") (by rfl) hl).trans sLe_eq
      subst hid
      intro hc Γ p s R hΓ _ H
      have hc := hc _ rfl
      have e : decide (x ≤ y) = b := by
        cases b with
        | true => have hc : x ≤ y := hc; simpa using hc
        | false => have hc : ¬ x ≤ y := hc; simpa using hc
      refine code_pure2 (c2 := .builtin sLe ⟨[.int x t, .int y u], []⟩) (f := .ret (.bool (decide (x ≤ y)))) (by rw [hΓ]; kernel_rfl) (by kernel_rfl) (by kernel_rfl) ?_
      rw [e]
      exact H
    · cases h
  · cases h

theorem opGe_fits {prog : Program} {w : World} {b : Bool} {c : Code} {lk : Nat → Option Obj} {o : Op} (h : opGe b c = some o) : o.Fits prog w c lk := by
  unfold opGe at h
  split at h
  · rename_i id x t y u
    split at h
    · rename_i hl
      cases h
      have hid : id = sGe := (isLit_of (b := "int.__ge__") (by rfl) hl).trans sGe_eq
      subst hid
      intro hc Γ p s R hΓ _ H
      have hc := hc _ rfl
      have e : decide (x ≥ y) = b := by
        cases b with
        | true => have hc : x ≥ y := hc; simpa using hc
        | false => have hc : ¬ x ≥ y := hc; simpa using hc
      refine code_pure2 (c2 := .builtin sGe ⟨[.int x t, .int y u], []⟩) (f := .ret (.bool (decide (x ≥ y)))) (by rw [hΓ]; kernel_rfl) (by kernel_rfl) (by kernel_rfl) ?_
      rw [e]
      exact H
    · cases h
  · cases h

theorem opEq_fits {prog : Program} {w : World} {b : Bool} {c : Code} {lk : Nat → Option Obj} {o : Op} (h : opEq b c = some o) : o.Fits prog w c lk := by
  unfold opEq at h
  split at h
  · rename_i id x t y u
    split at h
    · rename_i hl
      cases h
      have hid : id = sEq := (isLit_of (b := "int.__eq__") (by rfl) hl).trans sEq_eq
      subst hid
      intro hc Γ p s R hΓ _ H
      have hc := hc _ rfl
      have e : (x == y) = b := by
        cases b with
        | true => have hc : x = y := hc; simpa using hc
        | false => have hc : ¬ x = y := hc; simpa using hc
      refine code_pure2 (c2 := .builtin sEq ⟨[.int x t, .int y u], []⟩) (f := .ret (.bool ((x == y)))) (by rw [hΓ]; kernel_rfl) (by kernel_rfl) (by kernel_rfl) ?_
      rw [e]
      exact H
    · cases h
  · cases h

theorem opNe_fits {prog : Program} {w : World} {b : Bool} {c : Code} {lk : Nat → Option Obj} {o : Op} (h : opNe b c = some o) : o.Fits prog w c lk := by
  unfold opNe at h
  split at h
  · rename_i id x t y u
    split at h
    · rename_i hl
      cases h
      have hid : id = sNe := (isLit_of (b := "int.__ne__") (by rfl) hl).trans sNe_eq
      subst hid
      intro hc Γ p s R hΓ _ H
      have hc := hc _ rfl
      have e : (x != y) = b := by
        cases b with
        | true => have hc : x ≠ y := hc; simpa using hc
        | false => have hc : ¬ x ≠ y := hc; simpa using hc
      refine code_pure2 (c2 := .builtin sNe ⟨[.int x t, .int y u], []⟩) (f := .ret (.bool ((x != y)))) (by rw [hΓ]; kernel_rfl) (by kernel_rfl) (by kernel_rfl) ?_
      rw [e]
      exact H
    · cases h
  · cases h

theorem opBool_fits {prog : Program} {w : World} {b : Bool} {c : Code} {lk : Nat → Option Obj} {o : Op} (h : opBool b c = some o) : o.Fits prog w c lk := by
  unfold opBool at h
  split at h
  · rename_i id x t
    split at h
    · rename_i hl
      cases h
      have hid : id = sBool := (isLit_of (b := "int.__bool__") (by rfl) hl).trans sBool_eq
      subst hid
      intro hc Γ p s R hΓ _ H
      have hc := hc _ rfl
      have e : (x != 0) = b := by
        cases b with
        | true => have hc : x ≠ 0 := hc; simpa using hc
        | false => have hc : x = 0 := hc; simpa using hc
      refine code_pure2 (c2 := .builtin sBool ⟨[.int x t], []⟩) (f := .ret (.bool (x != 0))) (by rw [hΓ]; kernel_rfl) (by kernel_rfl) (by kernel_rfl) ?_
      rw [e]
      exact H
    · cases h
  · cases h
theorem opMod_fits {prog : Program} {w : World} {c : Code} {lk : Nat → Option Obj} {o : Op} (h : opMod c = some o) : o.Fits prog w c lk := by
  unfold opMod at h
  split at h
  · rename_i id x t y u
    split at h
    · rename_i hl
      cases h
      obtain rfl := isLit_of (b := "int.__mod__") (by rfl) hl
      intro hc Γ p s R hΓ _ H
      have hb : y ≠ 0 := hc _ rfl
      refine entry_code PyProof.Rows.slot_int_mod (typeIs_int s x t) PyProof.Rows.entry_int_mod (PyProof.Rows.args_int_mod _ _) hΓ ?_
      have hb' : (y == 0) = false := by simpa using hb
      show wpAny _ _ (do
        if y == 0 then rule "int.mod.zero"; raiseError "ZeroDivisionError" "integer modulo by zero"
        ret (← mkInt (x.fmod y))) _ _ s
      simp only [hb', Bool.false_eq_true, if_false]
      exact wpAny_ret_mkInt H
    · cases h
  · cases h
theorem opDiv_fits {prog : Program} {w : World} {c : Code} {lk : Nat → Option Obj} {o : Op} (h : opDiv c = some o) : o.Fits prog w c lk := by
  unfold opDiv at h
  split at h
  · rename_i id x t y u
    split at h
    · rename_i hl
      cases h
      obtain rfl := isLit_of (b := "int.__floordiv__") (by rfl) hl
      intro hc Γ p s R hΓ _ H
      obtain ⟨hb, hp⟩ : y ≠ 0 ∧ Builtin.divisionGoesByPylong x y = false := hc _ rfl
      refine entry_code PyProof.Rows.slot_int_floordiv (typeIs_int s x t) PyProof.Rows.entry_int_floordiv (PyProof.Rows.args_int_floordiv _ _) hΓ ?_
      have hb' : (y == 0) = false := by simpa using hb
      show wpAny _ _ (do
        if y == 0 then rule "int.floordiv.zero"; raiseError "ZeroDivisionError" "integer division or modulo by zero"
        Builtin.roomForPylong x y
        ret (← mkInt (x.fdiv y))) _ _ s
      simp only [hb', Bool.false_eq_true, if_false]
      exact wpAny_bind (wpAny_roomForPylong (Or.inl hp) (wpAny_ret_mkInt H))
    · cases h
  · cases h
theorem opMul_fits {prog : Program} {w : World} {c : Code} {lk : Nat → Option Obj} {o : Op} (h : opMul c = some o) : o.Fits prog w c lk := by
  unfold opMul at h
  split at h
  · rename_i id x t y u
    split at h
    · rename_i hl
      cases h
      obtain rfl := isLit_of (b := "int.__mul__") (by rfl) hl
      intro hc Γ p s R hΓ _ H
      have hm : Builtin.Int.intTooBig (Builtin.Int.intBits x + Builtin.Int.intBits y) = false := hc _ rfl
      refine entry_code PyProof.Rows.slot_int_mul (typeIs_int s x t) PyProof.Rows.entry_int_mul (PyProof.Rows.args_int_mul _ _) hΓ ?_
      show wpAny _ _ (ite _ _ _ : Sem Fin) _ _ s
      rw [if_neg (by rw [hm]; simp)]
      exact (show wpAny _ _ (do ret (← mkInt (x * y))) _ _ s from wpAny_ret_mkInt H)
    · cases h
  · cases h
theorem opGet_fits {prog : Program} {w : World} {c : Code} {lk : Nat → Option Obj} {o : Op} (h : opGet c lk = some o) : o.Fits prog w c lk := by
  unfold opGet at h
  split at h
  · rename_i id d k t dv
    split at h
    · rename_i hl
      split at h
      · rename_i T di es ep sl hlk
        split at h
        · rename_i hT
          split at h
          · rename_i hk
            split at h
            · cases h
            · rename_i hs
              cases h
              obtain rfl := isLit_of (b := "dict.get") (by rfl) hl
              obtain rfl := isLit_of (b := "dict") (by rfl) hT
              intro _ Γ p s R hΓ hlook H
              refine get_code hΓ (hlook _ _ hlk) hk ?_ H
              cases q : (d == sysModules) with
              | false => rfl
              | true =>
                rw [eq_of_beq q] at hs
                exact absurd hs (by decide)
          · cases h
        · cases h
      · cases h
    · cases h
  · cases h
theorem opAbs_fits {prog : Program} {w : World} {c : Code} {lk : Nat → Option Obj} {o : Op} (h : opAbs c = some o) : o.Fits prog w c lk := by
  unfold opAbs at h
  split at h
  · rename_i id x t
    split at h
    · rename_i hl
      cases h
      obtain rfl := isLit_of (b := "abs") (by rfl) hl
      intro _ Γ p s R hΓ _ H
      refine fun_code PyProof.Rows.kind_abs PyProof.Rows.plain_abs PyProof.Rows.entry_abs (PyProof.Rows.args_abs _) hΓ ?_
      unfold Builtin.«abs»
      refine wpAny_bind (m := oneArg "abs" _) (wpAny_pure ?_)
      refine wpAny_bind (m := callSpecial? (.int x t) (Str.ofString "__abs__")) (wpAny_callSpecial?_slot (name := Str.ofString "__abs__") (typeIs_int s x t) PyProof.Rows.slot_int_abs
        (wpAny_call_entry PyProof.Rows.slot_int_abs (typeIs_int s x t) PyProof.Rows.entry_int_abs ?_ (PyProof.Rows.args_int_abs _)))
      show wpAny _ _ (if x < 0 then _ else _) _ _ s
      by_cases hneg : x < 0
      · have h' := H s.toks (s.toks + 1) (Nat.le_succ _)
        rw [show (x.natAbs : Int) = -x by omega] at h'
        rw [if_pos hneg]
        exact wpAny_ret_mkInt (wpAny_pure ⟨_, rfl, h'⟩)
      · have h' := H t s.toks (Nat.le_refl _)
        rw [show (x.natAbs : Int) = x by omega] at h'
        rw [if_neg hneg]
        exact wpAny_pure ⟨_, rfl, wpAny_pure ⟨_, rfl, h'⟩⟩
    · cases h
  · cases h
theorem ops_fit {prog : Program} {w : World} : ∀ j c lk o, ops j c lk = some o → o.Fits prog w c lk := by
  intro j c lk o h
  unfold ops at h
  split at h
  · exact opGet_fits h
  · exact opLt_fits h
  · exact opLt_fits h
  · exact opGt_fits h
  · exact opGt_fits h
  · exact opLe_fits h
  · exact opLe_fits h
  · exact opGe_fits h
  · exact opGe_fits h
  · exact opEq_fits h
  · exact opEq_fits h
  · exact opNe_fits h
  · exact opNe_fits h
  · exact opBool_fits h
  · exact opBool_fits h
  · exact opAbs_fits h
  · exact opDiv_fits h
  · exact opMod_fits h
  · exact opMul_fits h
  · cases h
end Mine
end
section
open PySem PySem.W PySem.W.X
namespace Mine

noncomputable def iEq : Int → Int → Bool
  | .ofNat a, .ofNat b => Nat.beq a b
  | .negSucc a, .negSucc b => Nat.beq a b
  | _, _ => false
theorem iEq_t {a b : Int} (h : iEq a b = true) : a = b := by
  cases a <;> cases b <;> simp [iEq] at h <;> simp [h]

/-- two rows of whole numbers, one by one the same -/
noncomputable def pairEq : List Value → List Value → Bool
  | [], m => match m with
    | [] => true
    | _ :: _ => false
  | x :: l, m => match m with
    | [] => false
    | y :: m => match x with
      | .int a _ => match y with
        | .int b _ => match iEq a b with
          | true => pairEq l m
          | false => false
        | _ => false
      | _ => false
theorem pairEq_is {prog : Program} {w : World} : ∀ {l m : List Value}, pairEq l m = true → ∃ ks : List Int, ItemsAre (intKind prog w) ks l ∧ ItemsAre (intKind prog w) ks m
  | [], [], _ => ⟨[], .nil, .nil⟩
  | [], _ :: _, h => by simp [pairEq] at h
  | _ :: _, [], h => by simp [pairEq] at h
  | x :: l, y :: m, h => by
    unfold pairEq at h
    dsimp only at h
    split at h
    · split at h
      · split at h
        · rename_i q
          obtain rfl := iEq_t q
          obtain ⟨ks, h1, h2⟩ := pairEq_is h
          refine ⟨_ :: ks, .cons (beq_self_eq_true _) h1, .cons (beq_self_eq_true _) h2⟩
        · cases h
      · cases h
    · cases h

/-- is this text among these texts? -/
noncomputable def strIn (k : Str) : List Value → Option Bool
  | [] => some false
  | x :: l => match x with
    | .str y _ => match PySem.W.Fast.sEq y k with
      | true => match strIn k l with
        | some _ => some true
        | none => none
      | false => strIn k l
    | _ => none
theorem strIn_is {k : Str} : ∀ {l : List Value} {b : Bool}, strIn k l = some b → ∃ ys, PyProof.Rows.StrsAre l ys ∧ ys.any (· == k) = b
  | [], b, h => by simp [strIn] at h; exact ⟨[], .nil, by simp [h]⟩
  | x :: l, b, h => by
    unfold strIn at h
    split at h
    · rename_i y t
      split at h
      · rename_i q
        split at h
        · rename_i c hc
          cases h
          obtain ⟨ys, h1, h2⟩ := strIn_is hc
          have : y = k := PySem.W.Fast.sEq_iff.mp q
          exact ⟨y :: ys, .cons y t h1, by simp [this]⟩
        · cases h
      · rename_i q
        obtain ⟨ys, h1, h2⟩ := strIn_is h
        have : (y == k) = false := by
          rw [beq_eq_false_iff_ne]
          intro e
          rw [PySem.W.Fast.sEq_iff.mpr e] at q
          cases q
        exact ⟨y :: ys, .cons y t h1, by simp [this, h2]⟩
    · cases h

/-- two tuples of whole numbers that are the same -/
noncomputable def opTupEq (c : Code) (lk : Nat → Option Obj) (b : Nat) (y : Obj) : Option Op := match c with
  | .call (.builtin id) ⟨[.ref a, .ref d], []⟩ => match isLit 29827158059823676398654027381 id with
    | true => match lk a with
      | some ⟨.type T, _, .seq xs _, _⟩ => match isLit 439922816629 T with
        | true => match y with
          | ⟨.type T', _, .seq ys _, _⟩ => match isLit 439922816629 T' with
            | true => match pairEq xs.toList ys.toList with
              | true => some ⟨some (d = b), some 0, fun _ => .ok (.ret (.bool true))⟩
              | false => none
            | false => none
          | _ => none
        | false => none
      | _ => none
    | false => none
  | _ => none
/-- is a text in a tuple of texts? -/
noncomputable def opTupIn (c : Code) (b : Nat) (y : Obj) : Option Op := match c with
  | .call (.builtin id) ⟨[.ref d, .str k _], []⟩ => match isLit 8395601325623592240556648632771639105386101 id with
    | true => match y with
      | ⟨.type T', _, .seq ys _, _⟩ => match isLit 439922816629 T' with
        | true => match strIn k ys.toList with
          | some v => some ⟨some (d = b), some 0, fun _ => .ok (.ret (.bool v))⟩
          | none => none
        | false => none
      | _ => none
    | false => none
  | _ => none
noncomputable def ops2 (j : Nat) (c : Code) (lk : Nat → Option Obj) (b : Nat) (y : Obj) : Option Op := match j with
  | 0 => opTupEq c lk b y
  | 1 => opTupIn c b y
  | _ => none

theorem opTupEq_fits {prog : Program} {w : World} {c : Code} {lk : Nat → Option Obj} {b : Nat} {y : Obj} {o : Op} (h : opTupEq c lk b y = some o) : o.Fits prog w c (plus lk b y) := by
  unfold opTupEq at h
  split at h
  · rename_i id a d
    split at h
    · rename_i hid
      obtain rfl := isLit_of (b := "tuple.__eq__") (by rfl) hid
      split at h
      · rename_i T di xs n sl hlk
        split at h
        · rename_i hT
          obtain rfl := isLit_of (b := "tuple") (by rfl) hT
          split at h
          · rename_i T' di' ys n' sl'
            split at h
            · rename_i hT'
              obtain rfl := isLit_of (b := "tuple") (by rfl) hT'
              split at h
              · rename_i hp
                cases h
                intro hcond Γ p s R hΓ hlook H
                have hd : d = b := hcond _ rfl
                subst hd
                have e2 := hlook d _ (if_pos rfl)
                obtain ⟨ks, h1, h2⟩ := pairEq_is (prog := prog) (w := w) hp
                have K2 : IsTupleKey (intKind prog w) s.heap ks d := ⟨_, _, _, e2, rfl, rfl, h2⟩
                have K1 : IsTupleKey (intKind prog w) s.heap ks a := by
                  by_cases q : a = d
                  · rw [q]; exact K2
                  · exact ⟨_, _, _, hlook a _ ((if_neg q).trans hlk), rfl, rfl, h1⟩
                refine entry_code F.slot_tuple_eq K1.typeIs F.entry_tuple_eq (F.args_tuple_eq_2 _ _) hΓ ?_
                refine tuple_eq_tree (knd := intKind prog w) K1 K2 ⟨_, rfl, ?_⟩
                rw [decide_eq_true rfl]
                exact H
              · cases h
            · cases h
          · cases h
        · cases h
      · cases h
    · cases h
  · cases h

theorem opTupIn_fits {prog : Program} {w : World} {c : Code} {lk : Nat → Option Obj} {b : Nat} {y : Obj} {o : Op} (h : opTupIn c b y = some o) : o.Fits prog w c (plus lk b y) := by
  unfold opTupIn at h
  split at h
  · rename_i id d k t
    split at h
    · rename_i hid
      obtain rfl := isLit_of (b := "tuple.__contains__") (by rfl) hid
      split at h
      · rename_i T' di' ys n' sl'
        split at h
        · rename_i hT'
          obtain rfl := isLit_of (b := "tuple") (by rfl) hT'
          split at h
          · rename_i v hv
            cases h
            intro hcond Γ p s R hΓ hlook H
            have hd : d = b := hcond _ rfl
            subst hd
            have e2 := hlook d _ (if_pos rfl)
            obtain ⟨ks, h1, h2⟩ := strIn_is hv
            refine entry_code F.slot_tuple_contains (self := .ref d) (show s.TypeIs (.ref d) "tuple" from ⟨_, e2, rfl⟩) F.entry_tuple_contains (F.args_tuple_contains_2 _ _) hΓ ?_
            refine PyProof.Rows.tuple_contains_strs ⟨_, e2, rfl, _, rfl⟩ h1 ⟨_, rfl, ?_⟩
            rw [h2]
            exact H
          · cases h
        · cases h
      · cases h
    · cases h
  · cases h

theorem ops2_fit {prog : Program} {w : World} : ∀ j c lk b y o, ops2 j c lk b y = some o → o.Fits prog w c (plus lk b y) := by
  intro j c lk b y o h
  unfold ops2 at h
  split at h
  · exact opTupEq_fits h
  · exact opTupIn_fits h
  · cases h

/-- the length of a list -/
noncomputable def opLen (c : Code) (lk : Nat → Option Obj) : Option Op := match c with
  | .call (.builtin id) ⟨[.ref d], []⟩ => match isLit 7300717 id with
    | true => match lk d with
      | some ⟨.type T, _, .seq xs _, _⟩ => match isLit 1970563693 T with
        | true => some ⟨some (((xs.size : Nat) : Int) < 2 ^ 63), some 2, fun t => .ok (.ret (.int ((xs.size : Nat) : Int) (Nat.add t 1)))⟩
        | false => none
      | _ => none
    | false => none
  | _ => none
theorem opLen_fits {prog : Program} {w : World} {c : Code} {lk : Nat → Option Obj} {o : Op} (h : opLen c lk = some o) : o.Fits prog w c lk := by
  unfold opLen at h
  split at h
  · rename_i id d
    split at h
    · rename_i hid
      obtain rfl := isLit_of (b := "len") (by rfl) hid
      split at h
      · rename_i T di xs n sl hlk
        split at h
        · rename_i hT
          obtain rfl := isLit_of (b := "list") (by rfl) hT
          cases h
          intro hcond Γ p s R hΓ hlook H
          have e := hlook _ _ hlk
          refine fun_code kind_len plain_len entry_len (args_len1 _) hΓ ?_
          refine wpAny_mono (wpAny_len_body_list (Q := fun v s' => R (.ok (.ret v)) s') ⟨_, e, rfl, _, rfl⟩ (hcond _ rfl) H) (fun fin s' h' => ?_) (fun _ _ h' => h')
          obtain ⟨r, rfl, hr⟩ := h'
          exact ⟨r, rfl, hr⟩
        · cases h
      · cases h
    · cases h
  · cases h
noncomputable def opsX (j : Nat) (c : Code) (lk : Nat → Option Obj) : Option Op := match j with
  | 19 => opLen c lk
  | j => ops j c lk
theorem opsX_fit {prog : Program} {w : World} : ∀ j c lk o, opsX j c lk = some o → o.Fits prog w c lk := by
  intro j c lk o h
  unfold opsX at h
  split at h
  · exact opLen_fits h
  · exact ops_fit _ _ _ _ h

/-- two values that are the same, down to a depth -/
noncomputable def allEq (e : Value → Value → Bool) : List Value → List Value → Bool
  | [], ys => match ys with
    | [] => true
    | _ :: _ => false
  | x :: xs, ys => match ys with
    | [] => false
    | y :: ys => match e x y with
      | true => allEq e xs ys
      | false => false
noncomputable def tupOf (o : Option Obj) : Option (List Value) := match o with
  | some ⟨.type T, _, .seq xs _, _⟩ => match isLit 439922816629 T with
    | true => some xs.toList
    | false => none
  | _ => none
noncomputable def deepEq (lk : Nat → Option Obj) : Nat → Value → Value → Bool
  | 0 => fun _ _ => false
  | f + 1 => fun x y => match x with
    | .int a _ => match y with
      | .int b _ => iEq a b
      | _ => false
    | .str a _ => match y with
      | .str b _ => PySem.W.Fast.sEq a b
      | _ => false
    | .ref a => match y with
      | .ref b => match tupOf (lk a) with
        | some xs => match tupOf (lk b) with
          | some ys => allEq (deepEq lk f) xs ys
          | none => false
        | none => false
      | _ => false
    | _ => false
theorem tupOf_is {o : Option Obj} {xs : List Value} (h : tupOf o = some xs) : ∃ y, o = some y ∧ y.cls = .type "tuple" ∧ ∃ n, y.data = .seq xs.toArray n := by
  unfold tupOf at h
  split at h
  · split at h
    · rename_i hT
      cases h
      exact ⟨_, rfl, by rw [isLit_of (b := "tuple") (by rfl) hT], _, rfl⟩
    · cases h
  · cases h
theorem allEq_is {e : Value → Value → Bool} : ∀ {xs ys : List Value}, allEq e xs ys = true → xs.length = ys.length ∧ ∀ j (h1 : j < xs.length) (h2 : j < ys.length), e xs[j] ys[j] = true
  | [], [], _ => ⟨rfl, fun j h1 => absurd h1 (Nat.not_lt_zero j)⟩
  | [], _ :: _, h => nomatch h
  | _ :: _, [], h => nomatch h
  | x :: xs, y :: ys, h => by
    unfold allEq at h
    dsimp only at h
    split at h
    · rename_i q
      obtain ⟨a, b⟩ := allEq_is h
      refine ⟨congrArg (· + 1) a, fun j h1 h2 => ?_⟩
      cases j with
      | zero => exact q
      | succ j => exact b j (Nat.lt_of_succ_lt_succ h1) (Nat.lt_of_succ_lt_succ h2)
    · cases h
theorem deep_items {A : Around} {s : Shared} {e : Value → Value → Bool} {xs ys : List Value} (he : ∀ x y, e x y = true → PySem.SeqAt.EqAt A s x y true) (h : allEq e xs ys = true) :
    xs.toArray.size = ys.toArray.size ∧ ∀ j (h1 : j < xs.toArray.size) (h2 : j < ys.toArray.size), PySem.SeqAt.EqAt A s xs.toArray[j] ys.toArray[j] ((fun _ => true) j) := by
  obtain ⟨a, b⟩ := allEq_is h
  exact ⟨by simpa using a, fun j h1 h2 => he _ _ (by simpa using b j (by simpa using h1) (by simpa using h2))⟩
theorem deepEq_at {lk : Nat → Option Obj} {s : Shared} (hl : ∀ a o, lk a = some o → s.heap.get? a = some o) : ∀ f (A : Around) x y, A.units + f < cLine → deepEq lk f x y = true → PySem.SeqAt.EqAt A s x y true
  | 0, _, _, _, _, h => nomatch h
  | f + 1, A, x, y, hu, h => by
    unfold deepEq at h
    split at h
    · split at h
      · have := iEq_t h
        subst this
        have z := PySem.SeqAt.EqAt.int_int (A := A) (s := s)
        exact cast (congrArg _ (beq_self_eq_true _)) (z _ _ _ _)
      · cases h
    · split at h
      · have := PySem.W.Fast.sEq_iff.mp h
        subst this
        have z := PySem.SeqAt.EqAt.str_str (A := A) (s := s)
        exact cast (congrArg _ (beq_self_eq_true _)) (z _ _ _ _)
      · cases h
    · split at h
      · rename_i a _ b
        split at h
        · rename_i xs hx
          split at h
          · rename_i ys hy
            by_cases q : a = b
            · subst q; exact PySem.SeqAt.EqAt.same _
            · obtain ⟨o1, e1, c1, n1, d1⟩ := tupOf_is hx
              obtain ⟨o2, e2, c2, n2, d2⟩ := tupOf_is hy
              obtain ⟨hsz, hi⟩ := deep_items (A := A.in1) (s := s) (fun x y h => deepEq_at hl f A.in1 x y (by show A.units + 1 + f < _; omega) h) h
              have z := PySem.SeqAt.RcAt.tuples (A := A) (s := s) (l := a) (b := b) ⟨o1, hl _ _ e1, c1, n1, d1⟩ ⟨o2, hl _ _ e2, c2, n2, d2⟩ (by omega) hi
              refine PySem.SeqAt.EqAt.of_refs q ?_
              rw [show ((List.range (min xs.toArray.size ys.toArray.size)).all (fun _ => true) && xs.toArray.size == ys.toArray.size) = true by rw [hsz]; simp] at z
              exact z
          · cases h
        · cases h
      · cases h
    · cases h
theorem entry_meets {prog : Program} {w : World} {Γ : PySem.Ctx} {p : Pos} {s : Shared} {R : Result → Shared → Prop} {T : String} {name : Str} {id : String} {b : Builtin} {self : Value} {rest : List Value} {S : Spec}
    (hs : Slot T name id) (hT : s.TypeIs self T) (hb : entryFor table id = some b) (ha : argsOk id ⟨self :: rest, []⟩) (hc : Γ.code = .call (.builtin id) ⟨self :: rest, []⟩)
    (g : Meets (b ⟨self :: rest, []⟩) S) (h : S (own Γ) R s) : wpCode (model prog w) Γ R p s :=
  (codeAny_call_builtin hs.plain hb (hs.check _ _ _ _ _ _ _ _ hT ha (g prog w (own Γ) R s h))) Γ p hc (own_below Γ)
noncomputable def opDeep (Γ : PySem.Ctx) (lk : Nat → Option Obj) : Option Op := match Γ.code with
  | .call (.builtin id) ⟨[.ref a, .ref b], []⟩ => match isLit 29827158059823676398654027381 id with
    | true => match tupOf (lk a) with
      | some xs => match tupOf (lk b) with
        | some ys => match Nat.blt (Nat.add (unitsOf Γ.below) 20) 9900 with
          | true => match allEq (deepEq lk 8) xs ys with
            | true => some ⟨none, some 0, fun _ => .ok (.ret (.bool true))⟩
            | false => none
          | false => none
        | none => none
      | none => none
    | false => none
  | _ => none
theorem opDeep_fits {prog : Program} {w : World} {Γ : PySem.Ctx} {lk : Nat → Option Obj} {o : Op} (h : opDeep Γ lk = some o) : o.FitsG prog w Γ lk := by
  unfold opDeep at h
  split at h
  · rename_i id a b hΓ
    split at h
    · rename_i hid
      obtain rfl := isLit_of (b := "tuple.__eq__") (by rfl) hid
      split at h
      · rename_i xs hx
        split at h
        · rename_i ys hy
          split at h
          · rename_i hu
            have hu := blt_t hu
            split at h
            · rename_i hq
              cases h
              intro _ p s R hlook H
              obtain ⟨⟨_, dd1, _, sl1⟩, e1, rfl, n1, rfl⟩ := tupOf_is hx
              obtain ⟨⟨_, dd2, _, sl2⟩, e2, rfl, n2, rfl⟩ := tupOf_is hy
              have g1 := hlook _ _ e1
              have g2 := hlook _ _ e2
              have hu : unitsOf Γ.below + 20 < 9900 := hu
              obtain ⟨hsz, hi⟩ := deep_items (A := (own Γ).in1) (s := s) (fun x y h => deepEq_at hlook 8 (own Γ).in1 x y (by show unitsOf Γ.below + 1 + 8 < 9900; omega) h) hq
              exact entry_meets F.slot_tuple_eq (self := .ref a) (show ∃ o, s.heap.get? a = some o ∧ o.cls = .type "tuple" from ⟨_, g1, rfl⟩) F.entry_tuple_eq (F.args_tuple_eq_2 _ _) hΓ (PySem.SeqAt.tuple_eqAt a b xs.toArray ys.toArray n1 n2 dd1 dd2 sl1 sl2 fun _ => true)
                ⟨g1, g2, hi, by
                  rw [show ((List.range (min xs.toArray.size ys.toArray.size)).all (fun _ => true) && xs.toArray.size == ys.toArray.size) = true by rw [hsz]; simp]
                  exact H⟩
            · cases h
          · cases h
        · cases h
      · cases h
    · cases h
  · cases h
noncomputable def opsY (j : Nat) (Γ : PySem.Ctx) (lk : Nat → Option Obj) : Option Op := match j with
  | 20 => opDeep Γ lk
  | j => opsX j Γ.code lk
theorem opsY_fit {prog : Program} {w : World} : ∀ j Γ lk o, opsY j Γ lk = some o → o.FitsG prog w Γ lk := by
  intro j Γ lk o h
  unfold opsY at h
  split at h
  · exact opDeep_fits h
  · exact (opsX_fit _ _ _ _ h).at
end Mine
end
section
open PySem PySem.W PySem.W.X
namespace Mine

theorem code_of_sim {S : St} {h₀ : Heap} {rs : List (Nat × Nat)} {mem : KT} {n τ i T : Nat} {os₀ : OsState} {R : Result → Shared → Prop} (O : S.Ok)
    (hF : ∀ e n rs τ i mem (s : Shared), Rep S h₀ rs mem n s.heap → Ground S h₀ rs n → s.toks = τ + i → T ≤ s.toks → s.gens = #[] → s.os = os₀ → S.F e n rs τ i (S.js.map mem.get) →
      match e with | .res r => R r s | .turn Γ p => wpCode (model S.prog S.w) Γ R p s)
    {f : Nat} {hs : Hs} {Γ : PySem.Ctx} {p : Pos} {s : Shared} (H : sim S f hs rs τ mem n i Γ p .base (den Γ.code))
    (D : Rep S h₀ rs mem n s.heap) (G : Ground S h₀ rs n) (ht : s.toks = τ + i) (hT : T ≤ s.toks) (hg : s.gens = #[]) (ho : s.os = os₀) : wpCode (model S.prog S.w) Γ R p s := by
  refine (wpCode_iff_wp _ _ _ _ _).mpr ?_
  rw [show (model S.prog S.w).den = den from den_eq]
  exact sim_sound O hF _ _ _ _ _ _ _ _ _ _ _ _ H D G ht hT hg ho

/-- the numbers of what is wanted lie in order -/
noncomputable def needOk (lo n : Nat) : List (Nat × Obj) → Bool
  | [] => true
  | x :: l => match Nat.blt x.1 n with
    | true => match Nat.blt x.1 1048576 with
      | true => match Nat.ble lo x.1 with
        | true => needOk lo n l
        | false => false
      | false => false
    | false => false
theorem needOk_iff {lo n : Nat} : ∀ {l : List (Nat × Obj)}, needOk lo n l = true → ∀ y ∈ l, y.1 < n ∧ y.1 < 1048576 ∧ lo ≤ y.1
  | [], _, _, h => by cases h
  | x :: l, H, y, hy => by
    unfold needOk at H
    split at H
    · rename_i q1
      split at H
      · rename_i q2
        split at H
        · rename_i q3
          rcases List.mem_cons.mp hy with rfl | hy
          · exact ⟨blt_t q1, blt_t q2, Nat.le_of_ble_eq_true q3⟩
          · exact needOk_iff H y hy
        · cases H
      · cases H
    · cases H

theorem map_get {l : List (Nat × Obj)} {mem : KT} : (l.map (·.1)).map mem.get = l.map (fun y => some y.2) → ∀ y ∈ l, mem.get y.1 = some y.2 := by
  induction l with
  | nil => intro _ y hy; cases hy
  | cons x l ih =>
    intro h y hy
    simp only [List.map_cons, List.cons.injEq] at h
    rcases List.mem_cons.mp hy with rfl | hy
    · exact h.1
    · exact ih h.2 y hy

/-- what stands in a run of a promise -/
noncomputable abbrev ConsTy := Nat → List (Nat × (Nat → Nat)) → List (Nat × Nat) → Nat → Nat → Nat → Con
noncomputable abbrev St.at (S : St) (U : List Nat) (A : Nat → Nat) (st hi : Nat) (js : List Nat) (F : End → Nat → List (Nat × Nat) → Nat → Nat → List (Option Obj) → Prop) (cons : ConsTy) : St :=
  { S with U := U, A := A, st := st, hi := hi, js := js, F := F, cons := cons }

structure St.Base (S : St) : Prop where
  P : S.P = S.w.params
  ops : ∀ j Γ lk o, S.ops j Γ lk = some o → o.FitsG S.prog S.w Γ lk
  ops2 : ∀ j c lk b y o, S.ops2 j c lk b y = some o → o.Fits S.prog S.w c (plus lk b y)

theorem start_rep {S₁ : St} {rs : List (Nat × Nat)} {s : Shared} {n : Nat} {l : List (Nat × Obj)} (hsz : s.heap.objs.size = ad rs n) (hold : ∀ a o, a < S₁.lo → S₁.old.get a = some o → s.heap.get? a = some o)
    (hn : needOk S₁.lo n l = true) (hneed : ∀ x ∈ l, s.heap.get? (ad rs x.1) = some x.2) : Rep S₁ s.heap rs (puts .nil l) n s.heap := by
  refine ⟨hsz, hold, fun j o e => ?_, fun _ _ _ e => e⟩
  rcases puts_get _ _ _ _ (fun y hy => (needOk_iff hn y hy).2.1) e with z | ⟨_, z⟩
  · have := needOk_iff hn _ z
    exact ⟨this.1, this.2.2, hneed _ z⟩
  · cases z

section
variable {S : St} {C : Con} {τ : Nat} {n0 n' : Nat} {cons : ConsTy}

/-- a promise whose growth is written: from a run -/
theorem Con.valid_lit {rs : List (Nat × Nat)} {hi f : Nat} {hs : Hs} (B : S.Base) {i0 i' : Nat} (hhp : C.hp = .lit n0 n') (htk : C.tk = some (i0, i')) (hlo : S.lo ≤ n0) (hii : i0 ≤ i') (hn : needOk S.lo n0 C.need = true)
    (hlh : S.lo ≤ hi) (hcons : ∀ F, ∀ k ts rs' τ' n i, (cons k ts rs' τ' n i).Valid (S.at [] id n0 hi [] F cons) rs' τ')
    (run : ∀ Γ p, C.ok Γ = true → Γ.code = C.code → ∀ F, F (.res (C.res τ fun _ => 0)) n' [] τ i' ((C.post τ fun _ => 0).map fun y => some y.2) →
      sim (S.at [] id n0 hi ((C.post τ fun _ => 0).map (·.1)) F cons) f hs [] τ (puts .nil C.need) n0 i0 Γ p .base (den C.code)) : C.Valid S rs τ := by
  intro n i Γ p s hc hok hm hlow hh hold hneed hsz ht hg
  obtain ⟨h1, h2⟩ := hh
  rw [hhp] at h1
  rw [htk] at h2
  obtain ⟨rfl, rfl⟩ := h1
  have h2 : i = i0 := h2
  subst h2
  let F : End → Nat → List (Nat × Nat) → Nat → Nat → List (Option Obj) → Prop := fun e m rs' τ' j os => e = .res (C.res τ fun _ => 0) ∧ m = n' ∧ rs' = [] ∧ τ' = τ ∧ j = i' ∧ os = (C.post τ fun _ => 0).map fun y => some y.2
  have H := run Γ p hok hc F ⟨rfl, rfl, rfl, rfl, rfl, rfl⟩
  have O : (S.at [] id n hi ((C.post τ fun _ => 0).map (·.1)) F cons).Ok := ⟨B.P, fun u hu => (nomatch hu), hlh, hlo, B.ops, B.ops2, hcons F⟩
  have G : Ground (S.at [] id n hi ((C.post τ fun _ => 0).map (·.1)) F cons) s.heap [] n := ⟨hm, fun _ _ => rfl, by rw [hsz]; exact Nat.le_refl _, Nat.le_refl _, fun _ _ => rfl, fun _ _ => rfl⟩
  rw [← hc] at H
  refine code_of_sim (S := S.at [] id n hi ((C.post τ fun _ => 0).map (·.1)) F cons) (T := s.toks) (os₀ := s.os) O (fun e m rs' τ' j mem s' D' G' ht' hT' hg' ho' hF => ?_) H (start_rep hsz hold hn hneed) G ht (Nat.le_refl _) hg rfl
  obtain ⟨rfl, rfl, rfl, rfl, rfl, hos⟩ := hF
  refine ⟨τ', fun _ => 0, rfl, ⟨fun y hy => ?_, fun b o hb e => ?_, hg', ho'⟩, hT', ?_, ?_⟩
  · exact (D'.mem _ _ (map_get hos y hy)).2.2
  · exact D'.keep b o (fun u hu => (nomatch hu)) e
  · rw [hhp]; exact D'.size
  · rw [htk]; exact ⟨rfl, rfl, ht'⟩

theorem ad_one (a d j : Nat) : ad [(a, d)] j = if a ≤ j then d + j else j := ad_cons _ _ [] j

/-- a promise whose heap's growth is written, its tokens' not -/
theorem Con.valid_heap {rs : List (Nat × Nat)} {hi : Nat} {U js : List Nat} (B : S.Base) (hhp : C.hp = .lit n0 n') (htk : C.tk = none) (hlo : S.lo ≤ n0) (hlh : S.lo ≤ hi) (hn : needOk S.lo n0 C.need = true)
    (hpost : ∀ τ' x, C.post τ' x = C.post 0 x) (hres : ∀ τ' x, C.res τ' x = C.res 0 x) (hjs : ∀ x, (C.post 0 x).map (·.1) = js)
    (hU : ∀ u ∈ U, S.lo ≤ u ∧ u < n0 ∧ u ∈ js) (hcons : ∀ F, ∀ k ts rs' τ' n i, (cons k ts rs' τ' n i).Valid (S.at U id n0 hi js F cons) rs' τ')
    (run : ∀ Γ p τr, C.ok Γ = true → Γ.code = C.code → ∃ F f hs, (∀ e m rs' τ' j os, F e m rs' τ' j os → ∃ x, e = .res (C.res 0 x) ∧ m = n' ∧ rs' = [] ∧ os = (C.post 0 x).map fun y => some y.2) ∧
      sim (S.at U id n0 hi js F cons) f hs [] τr (puts .nil C.need) n0 690 Γ p .base (den C.code)) : C.Valid S rs τ := by
  intro n i Γ p s hc hok hm hlow hh hold hneed hsz ht hg
  obtain ⟨h1, h2⟩ := hh
  rw [hhp] at h1
  rw [htk] at h2
  have h2 : 690 ≤ i := h2
  obtain ⟨rfl, rfl⟩ := h1
  obtain ⟨F, f, hs, hF0, H⟩ := run Γ p (τ + i - 690) hok hc
  have O : (S.at U id n hi js F cons).Ok := ⟨B.P, fun u hu => ⟨(hU u hu).1, (hU u hu).2.1⟩, hlh, hlo, B.ops, B.ops2, hcons F⟩
  have G : Ground (S.at U id n hi js F cons) s.heap [] n := ⟨hm, fun _ _ => rfl, by rw [hsz]; exact Nat.le_refl _, Nat.le_refl _, fun _ _ => rfl, fun _ _ => rfl⟩
  rw [← hc] at H
  refine code_of_sim (S := S.at U id n hi js F cons) (T := s.toks) (os₀ := s.os) O (fun e m rs' τ' j mem s' D' G' ht' hT' hg' ho' hF => ?_) H (start_rep hsz hold hn hneed) G (by omega) (Nat.le_refl _) hg rfl
  obtain ⟨x, rfl, rfl, rfl, hos⟩ := hF0 _ _ _ _ _ _ hF
  have hos : (C.post 0 x).map (fun y => mem.get y.1) = (C.post 0 x).map fun y => some y.2 := by
    rw [← hos]
    show _ = js.map mem.get
    rw [← hjs x, List.map_map]; rfl
  have hos : ((C.post 0 x).map (·.1)).map mem.get = (C.post 0 x).map fun y => some y.2 := by rw [List.map_map]; exact hos
  refine ⟨s'.toks - i, x, (hres _ _).symm, ⟨fun y hy => ?_, fun b o hb e => ?_, hg', ho'⟩, hT', ?_, ?_⟩
  · rw [hpost] at hy
    exact (D'.mem _ _ (map_get hos y hy)).2.2
  · refine D'.keep b o (fun u hu w => ?_) e
    have hu' := (hU u hu).2.2
    rw [← hjs x] at hu'
    obtain ⟨y, hy, rfl⟩ := List.mem_map.mp hu'
    exact hb y (by rw [hpost]; exact hy) w
  · rw [hhp]; exact D'.size
  · rw [htk]
    show s'.toks = s'.toks - i + i
    omega

/-- a promise of unknown growth from a written heap on -/
theorem Con.valid_grow {rs : List (Nat × Nat)} {hi b : Nat} {U js : List Nat} (B : S.Base) (hhp : C.hp = .grow n0 b) (htk : C.tk = none) (hlo : S.lo ≤ n0) (hlh : S.lo ≤ hi) (hn : needOk S.lo n0 C.need = true)
    (hpost : ∀ τ' x, C.post τ' x = C.post 0 x) (hres : ∀ τ' x, C.res τ' x = C.res 0 x) (hjs : ∀ x, (C.post 0 x).map (·.1) = js) (hjb : ∀ j ∈ js, j < b)
    (hU : ∀ u ∈ U, S.lo ≤ u ∧ u < n0 ∧ u ∈ js) (hcons : ∀ F, ∀ k ts rs' τ' n i, (cons k ts rs' τ' n i).Valid (S.at U id n0 hi js F cons) rs' τ')
    (run : ∀ Γ p τr, C.ok Γ = true → Γ.code = C.code → ∃ F f hs, (∀ e m rs' τ' j os, F e m rs' τ' j os → ∃ x d, e = .res (C.res 0 x) ∧ b ≤ m ∧ rs' = [(b, d)] ∧ os = (C.post 0 x).map fun y => some y.2) ∧
      sim (S.at U id n0 hi js F cons) f hs [] τr (puts .nil C.need) n0 690 Γ p .base (den C.code)) : C.Valid S rs τ := by
  intro n i Γ p s hc hok hm hlow hh hold hneed hsz ht hg
  obtain ⟨h1, h2⟩ := hh
  rw [hhp] at h1
  rw [htk] at h2
  have h2 : 690 ≤ i := h2
  obtain ⟨rfl, rfl⟩ := h1
  obtain ⟨F, f, hs, hF0, H⟩ := run Γ p (τ + i - 690) hok hc
  have O : (S.at U id n hi js F cons).Ok := ⟨B.P, fun u hu => ⟨(hU u hu).1, (hU u hu).2.1⟩, hlh, hlo, B.ops, B.ops2, hcons F⟩
  have G : Ground (S.at U id n hi js F cons) s.heap [] n := ⟨hm, fun _ _ => rfl, by rw [hsz]; exact Nat.le_refl _, Nat.le_refl _, fun _ _ => rfl, fun _ _ => rfl⟩
  rw [← hc] at H
  refine code_of_sim (S := S.at U id n hi js F cons) (T := s.toks) (os₀ := s.os) O (fun e m rs' τ' j mem s' D' G' ht' hT' hg' ho' hF => ?_) H (start_rep hsz hold hn hneed) G (by omega) (Nat.le_refl _) hg rfl
  obtain ⟨x, d, rfl, hbm, rfl, hos⟩ := hF0 _ _ _ _ _ _ hF
  have hos : (C.post 0 x).map (fun y => mem.get y.1) = (C.post 0 x).map fun y => some y.2 := by
    rw [← hos]
    show _ = js.map mem.get
    rw [← hjs x, List.map_map]; rfl
  have hos : ((C.post 0 x).map (·.1)).map mem.get = (C.post 0 x).map fun y => some y.2 := by rw [List.map_map]; exact hos
  have hlt : ∀ y ∈ C.post 0 x, ad [(b, d)] y.1 = y.1 := fun y hy => by
    have : y.1 ∈ js := by rw [← hjs x]; exact List.mem_map.mpr ⟨y, hy, rfl⟩
    rw [ad_cons, if_neg (Nat.not_le.mpr (hjb _ this))]; rfl
  refine ⟨s'.toks - i, x, (hres _ _).symm, ⟨fun y hy => ?_, fun c o hb e => ?_, hg', ho'⟩, hT', ?_, ?_⟩
  · rw [hpost] at hy
    have := (D'.mem _ _ (map_get hos y hy)).2.2
    rw [hlt y hy] at this
    exact this
  · refine D'.keep c o (fun u hu w => ?_) e
    have hu' := (hU u hu).2.2
    rw [← hjs x] at hu'
    obtain ⟨y, hy, rfl⟩ := List.mem_map.mp hu'
    exact hb y (by rw [hpost]; exact hy) w
  · rw [hhp]
    show b ≤ s'.heap.objs.size
    rw [D'.size]
    exact Nat.le_trans hbm (G'.mono.ge m)
  · rw [htk]
    show s'.toks = s'.toks - i + i
    omega

/-- a promise that reads only, of written growth: from a run in a region of its own -/
theorem Con.valid_leaf {rs : List (Nat × Nat)} {k hi : Nat} (B : S.Base) (hhp : C.hp = .lit n0 (n0 + k)) (htk : C.tk = none) (hle : hi ≤ n0) (hlo : S.lo ≤ hi) (hn : needOk S.lo hi C.need = true)
    (hpost : ∀ τ' x, C.post τ' x = []) (hres : ∀ τ' x, C.res τ' x = C.res 0 x)
    (hcons : ∀ F, ∀ k ts rs' τ' n i, (cons k ts rs' τ' n i).Valid (S.at [] id hi hi [] F cons) rs' τ')
    (run : ∀ Γ p δ τr, C.ok Γ = true → Γ.code = C.code → ∃ F f hs, (∀ e m rs' τ' j os, F e m rs' τ' j os → ∃ x, e = .res (C.res 0 x) ∧ m = hi + k ∧ rs' = [(hi, δ)]) ∧
      sim (S.at [] id hi hi [] F cons) f hs [(hi, δ)] τr (puts .nil C.need) hi 690 Γ p .base (den C.code)) : C.Valid S rs τ := by
  intro n i Γ p s hc hok hm hlow hh hold hneed hsz ht hg
  obtain ⟨h1, h2⟩ := hh
  rw [hhp] at h1
  rw [htk] at h2
  have h2 : 690 ≤ i := h2
  obtain ⟨rfl, rfl⟩ := h1
  have hsz0 : s.heap.objs.size = n := hsz
  obtain ⟨F, f, hs, hF0, H⟩ := run Γ p (n - hi) (τ + i - 690) hok hc
  have O : (S.at [] id hi hi [] F cons).Ok := ⟨B.P, fun u hu => (nomatch hu), hlo, hlo, B.ops, B.ops2, hcons F⟩
  have hs0 : s.heap.objs.size = ad [(hi, n - hi)] hi := by rw [ad_one, if_pos (Nat.le_refl _)]; omega
  have G : Ground (S.at [] id hi hi [] F cons) s.heap [(hi, n - hi)] hi := by
    refine ⟨Mono.nil.cons ?_, fun j hj => ?_, Nat.le_of_eq hs0, Nat.le_refl _, fun j hj => ?_, fun j hj => ?_⟩
    · show hi ≤ _
      omega
    · rw [ad_one, if_neg (Nat.not_le.mpr hj)]
    · rw [ad_one, ad_one, if_pos hj, if_pos (Nat.le_succ_of_le hj)]; omega
    · rw [ad_one, if_neg (Nat.not_le.mpr hj)]; rfl
  rw [← hc] at H
  refine code_of_sim (S := S.at [] id hi hi [] F cons) (T := s.toks) (os₀ := s.os) O (fun e m rs' τ' j mem s' D' G' ht' hT' hg' ho' hF => ?_) H (start_rep hs0 hold hn (fun x hx => ?_)) G (by omega) (Nat.le_refl _) hg rfl
  · obtain ⟨x, rfl, rfl, rfl⟩ := hF0 _ _ _ _ _ _ hF
    refine ⟨s'.toks - i, x, (hres _ _).symm, ⟨fun y hy => ?_, fun b o hb e => D'.keep b o (fun u hu => (nomatch hu)) e, hg', ho'⟩, hT', ?_, ?_⟩
    · rw [hpost] at hy; cases hy
    · rw [hhp]
      show s'.heap.objs.size = n + k
      rw [D'.size, ad_one, if_pos (Nat.le_add_right _ _)]
      omega
    · rw [htk]
      show s'.toks = s'.toks - i + i
      omega
  · have := needOk_iff hn x hx
    have e := hneed x hx
    rw [ad_one, if_neg (Nat.not_le.mpr this.1)]
    exact e

/-- a promise of unknown growth, read only: from a run in a region of its own -/
theorem Con.valid_any {rs : List (Nat × Nat)} (B : S.Base) (hhp : C.hp = .any) (htk : C.tk = none) (hlh : S.lo ≤ S.hi) (hn : needOk S.lo S.hi C.need = true)
    (hpost : ∀ τ' x, C.post τ' x = []) (hres : ∀ τ' x, C.res τ' x = C.res 0 x)
    (hcons : ∀ F, ∀ k ts rs' τ' n i, (cons k ts rs' τ' n i).Valid (S.at [] id S.hi S.hi [] F cons) rs' τ')
    (run : ∀ Γ p δ τr, C.ok Γ = true → Γ.code = C.code → ∃ F f hs, (∀ e m rs' τ' j os, F e m rs' τ' j os → ∃ x, e = .res (C.res 0 x)) ∧
      sim (S.at [] id S.hi S.hi [] F cons) f hs [(S.hi, δ)] τr (puts .nil C.need) S.hi 690 Γ p .base (den C.code)) : C.Valid S rs τ := by
  intro n i Γ p s hc hok hm hlow hh hold hneed hsz ht hg
  obtain ⟨h1, h2⟩ := hh
  rw [hhp] at h1
  rw [htk] at h2
  have h1 : S.hi ≤ n := h1
  have h2 : 690 ≤ i := h2
  obtain ⟨F, f, hs, hF0, H⟩ := run Γ p (s.heap.objs.size - S.hi) (τ + i - 690) hok hc
  have hge : S.hi ≤ s.heap.objs.size := by rw [hsz]; exact Nat.le_trans h1 (hm.ge n)
  have O : (S.at [] id S.hi S.hi [] F cons).Ok := ⟨B.P, fun u hu => (nomatch hu), hlh, hlh, B.ops, B.ops2, hcons F⟩
  have hs0 : s.heap.objs.size = ad [(S.hi, s.heap.objs.size - S.hi)] S.hi := by rw [ad_one, if_pos (Nat.le_refl _)]; omega
  have G : Ground (S.at [] id S.hi S.hi [] F cons) s.heap [(S.hi, s.heap.objs.size - S.hi)] S.hi := by
    refine ⟨Mono.nil.cons ?_, fun j hj => ?_, ?_, Nat.le_refl _, fun j hj => ?_, fun j hj => ?_⟩
    · show S.hi ≤ _
      omega
    · rw [ad_one, if_neg (Nat.not_le.mpr hj)]
    · exact Nat.le_of_eq hs0
    · rw [ad_one, ad_one, if_pos hj, if_pos (Nat.le_succ_of_le hj)]; omega
    · rw [ad_one, if_neg (Nat.not_le.mpr hj)]; rfl
  rw [← hc] at H
  refine code_of_sim (S := S.at [] id S.hi S.hi [] F cons) (T := s.toks) (os₀ := s.os) O (fun e m rs' τ' j mem s' D' G' ht' hT' hg' ho' hF => ?_) H (start_rep hs0 hold hn (fun x hx => ?_)) G (by omega) (Nat.le_refl _) hg rfl
  · obtain ⟨x, rfl⟩ := hF0 _ _ _ _ _ _ hF
    refine ⟨s'.toks - i, x, (hres _ _).symm, ⟨fun y hy => ?_, fun b o hb e => D'.keep b o (fun u hu => (nomatch hu)) e, hg', ho'⟩, hT', ?_, ?_⟩
    · rw [hpost] at hy; cases hy
    · rw [hhp]
      show s.heap.objs.size ≤ s'.heap.objs.size
      rw [D'.size]
      exact Nat.le_trans G'.base (ad_ge G'.mono G'.stn)
    · rw [htk]
      show s'.toks = s'.toks - i + i
      omega
  · have := needOk_iff hn x hx
    have e := hneed x hx
    rw [hlow _ this.1] at e
    rw [ad_one, if_neg (Nat.not_le.mpr this.1)]
    exact e

/-- a piece of code that works on one object of its own, wherever that lies -/
noncomputable def fr (lo fa sz : Nat) : List (Nat × Nat) := [(lo + 1, sz - (lo + 1)), (lo, fa - lo)]
theorem fr_own {lo fa sz : Nat} (h1 : lo ≤ fa) (h2 : fa < sz) : ad (fr lo fa sz) lo = fa := by
  unfold fr
  rw [ad_cons, if_neg (by omega), ad_one, if_pos (Nat.le_refl _)]
  omega
theorem fr_top {lo fa sz j : Nat} (h2 : lo < sz) (hj : lo + 1 ≤ j) : ad (fr lo fa sz) j = sz + (j - (lo + 1)) := by
  unfold fr
  rw [ad_cons, if_pos hj]
  omega
theorem fr_low {lo fa sz j : Nat} (hj : j < lo) : ad (fr lo fa sz) j = j := by
  unfold fr
  rw [ad_cons, if_neg (by omega), ad_one, if_neg (by omega)]
theorem fr_mono {lo fa sz : Nat} (h1 : lo ≤ fa) (h2 : fa < sz) : Mono (fr lo fa sz) := by
  intro i j hij
  rcases Nat.lt_trichotomy j lo with q | q | q
  · rw [fr_low (Nat.lt_trans hij q), fr_low q]; exact hij
  · subst q
    rw [fr_low hij, fr_own h1 h2]
    omega
  · rw [fr_top (by omega) q]
    rcases Nat.lt_trichotomy i lo with z | z | z
    · rw [fr_low z]; omega
    · subst z; rw [fr_own h1 h2]; omega
    · rw [fr_top (by omega) z]; omega

theorem frame_run {Γ : PySem.Ctx} {p : Pos} {s : Shared} {fa f : Nat} {hs : Hs} {o : Obj} {R : Result → Shared → Prop} {W : End → Nat → Obj → Prop} {lo : Nat} (hlo : S.lo = lo) (hl2 : lo < 1048576) (B : S.Base)
    (h1 : lo ≤ fa) (h2 : s.heap.get? fa = some o) (hold : ∀ a o, a < S.lo → S.old.get a = some o → s.heap.get? a = some o) (ht : 690 ≤ s.toks) (hg : s.gens = #[])
    (hcons : ∀ F, ∀ k ts rs' τ' n i, (cons k ts rs' τ' n i).Valid (S.at [lo] (fun j => if j = lo then fa else j) (lo + 1) lo [lo] F cons) rs' τ')
    {F : End → Nat → List (Nat × Nat) → Nat → Nat → List (Option Obj) → Prop} (hF0 : ∀ e m rs τ' j os, F e m rs τ' j os → ∃ o', os = [some o'] ∧ rs = fr lo fa s.heap.objs.size ∧ W e m o')
    (H : sim (S.at [lo] (fun j => if j = lo then fa else j) (lo + 1) lo [lo] F cons) f hs (fr lo fa s.heap.objs.size) (s.toks - 690) (puts .nil [(lo, o)]) (lo + 1) 690 Γ p .base (den Γ.code))
    (hF : ∀ e m o' (s' : Shared), W e m o' → s'.heap.get? fa = some o' → (∀ b y, b ≠ fa → s.heap.get? b = some y → s'.heap.get? b = some y) → lo + 1 ≤ m → s'.heap.objs.size + (lo + 1) = s.heap.objs.size + m → s.toks ≤ s'.toks → s'.gens = #[] → s'.os = s.os →
      match e with | .res r => R r s' | .turn Γ p => wpCode (model S.prog S.w) Γ R p s') : wpCode (model S.prog S.w) Γ R p s := by
  have hfa : fa < s.heap.objs.size := Heap.lt_size h2
  have hlosz : lo < s.heap.objs.size := Nat.lt_of_le_of_lt h1 hfa
  have hs0 : s.heap.objs.size = ad (fr lo fa s.heap.objs.size) (lo + 1) := by rw [fr_top hlosz (Nat.le_refl _)]; omega
  have O : (S.at [lo] (fun j => if j = lo then fa else j) (lo + 1) lo [lo] F cons).Ok :=
    ⟨B.P, fun u hu => (by cases List.mem_singleton.mp hu; exact ⟨Nat.le_of_eq hlo, Nat.lt_succ_self _⟩), Nat.le_of_eq hlo, by show S.lo ≤ lo + 1; omega, B.ops, B.ops2, hcons F⟩
  have G : Ground (S.at [lo] (fun j => if j = lo then fa else j) (lo + 1) lo [lo] F cons) s.heap (fr lo fa s.heap.objs.size) (lo + 1) := by
    refine ⟨fr_mono h1 hfa, fun j hj => fr_low hj, Nat.le_of_eq hs0, Nat.le_refl _, fun j hj => ?_, fun j hj => ?_⟩
    · rw [fr_top hlosz hj, fr_top hlosz (Nat.le_succ_of_le hj)]; omega
    · show _ = if j = lo then fa else j
      by_cases q : j = lo
      · subst q; rw [if_pos rfl, fr_own h1 hfa]
      · rw [if_neg q]
        have hj : j < lo + 1 := hj
        exact fr_low (by omega)
  refine code_of_sim (S := S.at [lo] (fun j => if j = lo then fa else j) (lo + 1) lo [lo] F cons) (T := s.toks) (os₀ := s.os) O (fun e m rs' τ' j mem s' D' G' ht' hT' hg' ho' hF' => ?_) H (start_rep hs0 hold ?_ (fun x hx => ?_)) G (by omega) (Nat.le_refl _) hg rfl
  · obtain ⟨o', hos, rfl, w⟩ := hF0 _ _ _ _ _ _ hF'
    have hm : mem.get lo = some o' := by
      have : [mem.get lo] = [some o'] := hos
      exact List.head_eq_of_cons_eq this
    have h3 := (D'.mem _ _ hm).2.2
    rw [fr_own h1 hfa] at h3
    have h4 : lo + 1 ≤ m := G'.stn
    have h5 := D'.size
    rw [fr_top hlosz h4] at h5
    exact hF e m o' s' w h3 (fun b y hb e => D'.keep b y (fun u hu => by cases List.mem_singleton.mp hu; show b ≠ if lo = lo then fa else lo; rw [if_pos rfl]; exact hb) e) h4 (by omega) hT' hg' ho'
  · subst hlo
    have a1 : Nat.blt S.lo (S.lo + 1) = true := Nat.ble_eq_true_of_le (Nat.le_refl _)
    have a2 : Nat.blt S.lo 1048576 = true := Nat.ble_eq_true_of_le hl2
    have a3 : Nat.ble S.lo S.lo = true := Nat.ble_eq_true_of_le (Nat.le_refl _)
    show needOk S.lo (S.lo + 1) [(S.lo, o)] = true
    simp only [needOk, a1, a2, a3]
  · cases List.mem_singleton.mp hx
    show s.heap.get? (ad _ lo) = some o
    rw [fr_own h1 hfa]; exact h2
end
end Mine
end
section
open PySem PySem.Spec PySem.Calls PyProof.Rows PySem.W PySem.W.X
namespace Mine
noncomputable abbrev pw : Program := PySem.Challenge.pw_ok0018_01
-- the start-up's objects that the walk reads, printed by a program; the defs' texts are read off the row's own term
noncomputable def nthS : Nat → List Stmt → Stmt
  | _, [] => .Pass default
  | 0, x :: _ => x
  | n + 1, _ :: l => nthS n l
noncomputable def stA (i : Nat) : Stmt := nthS i pw.main.body
noncomputable def stB (i j : Nat) : Stmt := match stA i with
  | .ClassDef _ _ _ b _ _ _ _ _ _ _ => nthS j b
  | s => s
noncomputable def mkF (s : Stmt) (name qual : Str) (dv kv doc pm code ct : Value) (g b : Nat) : FuncData := match s with
  | .FunctionDef _ args body _ _ _ scope _ _ _ => ⟨name, qual, args, .stmts body, scope, g, [], dv, kv, doc, pm, none, code, ct, b⟩
  | _ => default
noncomputable def lt_own0 : String := PySem.W.S.litE [PySem.W.S.mk8 98 rfl, PySem.W.S.mk8 117 rfl, PySem.W.S.mk8 105 rfl, PySem.W.S.mk8 108 rfl, PySem.W.S.mk8 116 rfl, PySem.W.S.mk8 105 rfl, PySem.W.S.mk8 110 rfl, PySem.W.S.mk8 115 rfl, PySem.W.S.mk8 46 rfl, PySem.W.S.mk8 99 rfl, PySem.W.S.mk8 111 rfl, PySem.W.S.mk8 112 rfl, PySem.W.S.mk8 121 rfl, PySem.W.S.mk8 114 rfl, PySem.W.S.mk8 105 rfl, PySem.W.S.mk8 103 rfl, PySem.W.S.mk8 104 rfl, PySem.W.S.mk8 116 rfl, PySem.W.S.mk8 35 rfl, PySem.W.S.mk8 111 rfl, PySem.W.S.mk8 112 rfl, PySem.W.S.mk8 97 rfl, PySem.W.S.mk8 113 rfl, PySem.W.S.mk8 117 rfl, PySem.W.S.mk8 101 rfl] [98, 117, 105, 108, 116, 105, 110, 115, 46, 99, 111, 112, 121, 114, 105, 103, 104, 116, 35, 111, 112, 97, 113, 117, 101] rfl rfl
theorem lt_own0_eq : "builtins.copyright#opaque" = lt_own0 := PySem.W.S.litE_eq _ [98, 117, 105, 108, 116, 105, 110, 115, 46, 99, 111, 112, 121, 114, 105, 103, 104, 116, 35, 111, 112, 97, 113, 117, 101] rfl rfl
noncomputable def lt_own1 : String := PySem.W.S.litE [PySem.W.S.mk8 98 rfl, PySem.W.S.mk8 117 rfl, PySem.W.S.mk8 105 rfl, PySem.W.S.mk8 108 rfl, PySem.W.S.mk8 116 rfl, PySem.W.S.mk8 105 rfl, PySem.W.S.mk8 110 rfl, PySem.W.S.mk8 115 rfl, PySem.W.S.mk8 46 rfl, PySem.W.S.mk8 108 rfl, PySem.W.S.mk8 105 rfl, PySem.W.S.mk8 99 rfl, PySem.W.S.mk8 101 rfl, PySem.W.S.mk8 110 rfl, PySem.W.S.mk8 115 rfl, PySem.W.S.mk8 101 rfl, PySem.W.S.mk8 35 rfl, PySem.W.S.mk8 111 rfl, PySem.W.S.mk8 112 rfl, PySem.W.S.mk8 97 rfl, PySem.W.S.mk8 113 rfl, PySem.W.S.mk8 117 rfl, PySem.W.S.mk8 101 rfl] [98, 117, 105, 108, 116, 105, 110, 115, 46, 108, 105, 99, 101, 110, 115, 101, 35, 111, 112, 97, 113, 117, 101] rfl rfl
theorem lt_own1_eq : "builtins.license#opaque" = lt_own1 := PySem.W.S.litE_eq _ [98, 117, 105, 108, 116, 105, 110, 115, 46, 108, 105, 99, 101, 110, 115, 101, 35, 111, 112, 97, 113, 117, 101] rfl rfl
noncomputable def lt_own2 : String := PySem.W.S.litE [PySem.W.S.mk8 98 rfl, PySem.W.S.mk8 117 rfl, PySem.W.S.mk8 105 rfl, PySem.W.S.mk8 108 rfl, PySem.W.S.mk8 116 rfl, PySem.W.S.mk8 105 rfl, PySem.W.S.mk8 110 rfl, PySem.W.S.mk8 115 rfl, PySem.W.S.mk8 46 rfl, PySem.W.S.mk8 99 rfl, PySem.W.S.mk8 114 rfl, PySem.W.S.mk8 101 rfl, PySem.W.S.mk8 100 rfl, PySem.W.S.mk8 105 rfl, PySem.W.S.mk8 116 rfl, PySem.W.S.mk8 115 rfl, PySem.W.S.mk8 35 rfl, PySem.W.S.mk8 111 rfl, PySem.W.S.mk8 112 rfl, PySem.W.S.mk8 97 rfl, PySem.W.S.mk8 113 rfl, PySem.W.S.mk8 117 rfl, PySem.W.S.mk8 101 rfl] [98, 117, 105, 108, 116, 105, 110, 115, 46, 99, 114, 101, 100, 105, 116, 115, 35, 111, 112, 97, 113, 117, 101] rfl rfl
theorem lt_own2_eq : "builtins.credits#opaque" = lt_own2 := PySem.W.S.litE_eq _ [98, 117, 105, 108, 116, 105, 110, 115, 46, 99, 114, 101, 100, 105, 116, 115, 35, 111, 112, 97, 113, 117, 101] rfl rfl
noncomputable def zo0 (P : Params) : Obj := (Obj.mk (Value.type W.SZ.s14018661285674007319x4) Option.none (Data.dict ⟨[(DictEntry.mk (PyData.keyHash P ⟨⟨[95, 95, 110, 97, 109, 101, 95, 95]⟩⟩) (Value.str ⟨⟨[95, 95, 110, 97, 109, 101, 95, 95]⟩⟩ 1) (Value.str ⟨⟨[98, 117, 105, 108, 116, 105, 110, 115]⟩⟩ 160)), (DictEntry.mk (PyData.keyHash P ⟨⟨[95, 95, 100, 111, 99, 95, 95]⟩⟩) (Value.str ⟨⟨[95, 95, 100, 111, 99, 95, 95]⟩⟩ 2) (Value.builtin "builtins.__doc__:str#opaque")), (DictEntry.mk (PyData.keyHash P ⟨⟨[95, 95, 112, 97, 99, 107, 97, 103, 101, 95, 95]⟩⟩) (Value.str ⟨⟨[95, 95, 112, 97, 99, 107, 97, 103, 101, 95, 95]⟩⟩ 3) (Value.builtin "builtins.__package__:str#opaque")), (DictEntry.mk (PyData.keyHash P ⟨⟨[95, 95, 108, 111, 97, 100, 101, 114, 95, 95]⟩⟩) (Value.str ⟨⟨[95, 95, 108, 111, 97, 100, 101, 114, 95, 95]⟩⟩ 4) (Value.builtin "builtins.__loader__:shared#opaque")), (DictEntry.mk (PyData.keyHash P ⟨⟨[95, 95, 115, 112, 101, 99, 95, 95]⟩⟩) (Value.str ⟨⟨[95, 95, 115, 112, 101, 99, 95, 95]⟩⟩ 5) (Value.builtin W.SZ.s11665532747177232413x24)), (DictEntry.mk (PyData.keyHash P ⟨⟨[95, 95, 98, 117, 105, 108, 100, 95, 99, 108, 97, 115, 115, 95, 95]⟩⟩) (Value.str ⟨⟨[95, 95, 98, 117, 105, 108, 100, 95, 99, 108, 97, 115, 115, 95, 95]⟩⟩ 6) (Value.builtin W.SZ.s15183661809925369436x15)), (DictEntry.mk (PyData.keyHash P ⟨⟨[95, 95, 105, 109, 112, 111, 114, 116, 95, 95]⟩⟩) (Value.str ⟨⟨[95, 95, 105, 109, 112, 111, 114, 116, 95, 95]⟩⟩ 7) (Value.builtin W.SZ.s13915890719876406383x10)), (DictEntry.mk (PyData.keyHash P ⟨⟨[97, 98, 115]⟩⟩) (Value.str ⟨⟨[97, 98, 115]⟩⟩ 8) (Value.builtin W.SZ.s13459172003223722735x3)), (DictEntry.mk (PyData.keyHash P ⟨⟨[97, 108, 108]⟩⟩) (Value.str ⟨⟨[97, 108, 108]⟩⟩ 9) (Value.builtin W.SZ.s10557405761357834076x3)), (DictEntry.mk (PyData.keyHash P ⟨⟨[97, 110, 121]⟩⟩) (Value.str ⟨⟨[97, 110, 121]⟩⟩ 10) (Value.builtin W.SZ.s4233737765568776869x3)), (DictEntry.mk (PyData.keyHash P ⟨⟨[97, 115, 99, 105, 105]⟩⟩) (Value.str ⟨⟨[97, 115, 99, 105, 105]⟩⟩ 11) (Value.builtin W.SZ.s2508922471967985374x5)), (DictEntry.mk (PyData.keyHash P ⟨⟨[98, 105, 110]⟩⟩) (Value.str ⟨⟨[98, 105, 110]⟩⟩ 12) (Value.builtin W.SZ.s15574269061696679450x3)), (DictEntry.mk (PyData.keyHash P ⟨⟨[98, 114, 101, 97, 107, 112, 111, 105, 110, 116]⟩⟩) (Value.str ⟨⟨[98, 114, 101, 97, 107, 112, 111, 105, 110, 116]⟩⟩ 13) (Value.builtin W.SZ.s6016482663378992977x10)), (DictEntry.mk (PyData.keyHash P ⟨⟨[99, 97, 108, 108, 97, 98, 108, 101]⟩⟩) (Value.str ⟨⟨[99, 97, 108, 108, 97, 98, 108, 101]⟩⟩ 14) (Value.builtin W.SZ.s5596568736180474577x8)), (DictEntry.mk (PyData.keyHash P ⟨⟨[99, 104, 114]⟩⟩) (Value.str ⟨⟨[99, 104, 114]⟩⟩ 15) (Value.builtin W.SZ.s2839554839881490554x3)), (DictEntry.mk (PyData.keyHash P ⟨⟨[99, 111, 109, 112, 105, 108, 101]⟩⟩) (Value.str ⟨⟨[99, 111, 109, 112, 105, 108, 101]⟩⟩ 16) (Value.builtin W.SZ.s725004073602090463x7)), (DictEntry.mk (PyData.keyHash P ⟨⟨[100, 101, 108, 97, 116, 116, 114]⟩⟩) (Value.str ⟨⟨[100, 101, 108, 97, 116, 116, 114]⟩⟩ 17) (Value.builtin W.SZ.s9436932552931045734x7)), (DictEntry.mk (PyData.keyHash P ⟨⟨[100, 105, 114]⟩⟩) (Value.str ⟨⟨[100, 105, 114]⟩⟩ 18) (Value.builtin W.SZ.s2754603736356183583x3)), (DictEntry.mk (PyData.keyHash P ⟨⟨[100, 105, 118, 109, 111, 100]⟩⟩) (Value.str ⟨⟨[100, 105, 118, 109, 111, 100]⟩⟩ 19) (Value.builtin W.SZ.s15185746759980889043x6)), (DictEntry.mk (PyData.keyHash P ⟨⟨[101, 118, 97, 108]⟩⟩) (Value.str ⟨⟨[101, 118, 97, 108]⟩⟩ 20) (Value.builtin W.SZ.s8192189862530294059x4)), (DictEntry.mk (PyData.keyHash P ⟨⟨[101, 120, 101, 99]⟩⟩) (Value.str ⟨⟨[101, 120, 101, 99]⟩⟩ 21) (Value.builtin W.SZ.s7038307821325472102x4)), (DictEntry.mk (PyData.keyHash P ⟨⟨[102, 111, 114, 109, 97, 116]⟩⟩) (Value.str ⟨⟨[102, 111, 114, 109, 97, 116]⟩⟩ 22) (Value.builtin W.SZ.s5662562618415449548x6)), (DictEntry.mk (PyData.keyHash P ⟨⟨[103, 101, 116, 97, 116, 116, 114]⟩⟩) (Value.str ⟨⟨[103, 101, 116, 97, 116, 116, 114]⟩⟩ 23) (Value.builtin W.SZ.s15281542589158584767x7)), (DictEntry.mk (PyData.keyHash P ⟨⟨[103, 108, 111, 98, 97, 108, 115]⟩⟩) (Value.str ⟨⟨[103, 108, 111, 98, 97, 108, 115]⟩⟩ 24) (Value.builtin W.SZ.s17651547275483570877x7)), (DictEntry.mk (PyData.keyHash P ⟨⟨[104, 97, 115, 97, 116, 116, 114]⟩⟩) (Value.str ⟨⟨[104, 97, 115, 97, 116, 116, 114]⟩⟩ 25) (Value.builtin W.SZ.s4036449017235975746x7)), (DictEntry.mk (PyData.keyHash P ⟨⟨[104, 97, 115, 104]⟩⟩) (Value.str ⟨⟨[104, 97, 115, 104]⟩⟩ 26) (Value.builtin W.SZ.s8879979712987360175x4)), (DictEntry.mk (PyData.keyHash P ⟨⟨[104, 101, 120]⟩⟩) (Value.str ⟨⟨[104, 101, 120]⟩⟩ 27) (Value.builtin W.SZ.s1801250619170735830x3)), (DictEntry.mk (PyData.keyHash P ⟨⟨[105, 100]⟩⟩) (Value.str ⟨⟨[105, 100]⟩⟩ 28) (Value.builtin W.SZ.s17659931425627118568x2)), (DictEntry.mk (PyData.keyHash P ⟨⟨[105, 110, 112, 117, 116]⟩⟩) (Value.str ⟨⟨[105, 110, 112, 117, 116]⟩⟩ 29) (Value.builtin W.SZ.s6063217899685152688x5)), (DictEntry.mk (PyData.keyHash P ⟨⟨[105, 115, 105, 110, 115, 116, 97, 110, 99, 101]⟩⟩) (Value.str ⟨⟨[105, 115, 105, 110, 115, 116, 97, 110, 99, 101]⟩⟩ 30) (Value.builtin W.SZ.s8008927332132565319x10)), (DictEntry.mk (PyData.keyHash P ⟨⟨[105, 115, 115, 117, 98, 99, 108, 97, 115, 115]⟩⟩) (Value.str ⟨⟨[105, 115, 115, 117, 98, 99, 108, 97, 115, 115]⟩⟩ 31) (Value.builtin W.SZ.s3544116645089599534x10)), (DictEntry.mk (PyData.keyHash P ⟨⟨[105, 116, 101, 114]⟩⟩) (Value.str ⟨⟨[105, 116, 101, 114]⟩⟩ 32) (Value.builtin W.SZ.s13761710972054866084x4)), (DictEntry.mk (PyData.keyHash P ⟨⟨[97, 105, 116, 101, 114]⟩⟩) (Value.str ⟨⟨[97, 105, 116, 101, 114]⟩⟩ 33) (Value.builtin W.SZ.s12896375587409280029x5)), (DictEntry.mk (PyData.keyHash P ⟨⟨[108, 101, 110]⟩⟩) (Value.str ⟨⟨[108, 101, 110]⟩⟩ 34) (Value.builtin W.SZ.s13014049009108672802x3)), (DictEntry.mk (PyData.keyHash P ⟨⟨[108, 111, 99, 97, 108, 115]⟩⟩) (Value.str ⟨⟨[108, 111, 99, 97, 108, 115]⟩⟩ 35) (Value.builtin W.SZ.s13935586738268321596x6)), (DictEntry.mk (PyData.keyHash P ⟨⟨[109, 97, 120]⟩⟩) (Value.str ⟨⟨[109, 97, 120]⟩⟩ 36) (Value.builtin W.SZ.s8200498257699607233x3)), (DictEntry.mk (PyData.keyHash P ⟨⟨[109, 105, 110]⟩⟩) (Value.str ⟨⟨[109, 105, 110]⟩⟩ 37) (Value.builtin W.SZ.s14114244577727609259x3)), (DictEntry.mk (PyData.keyHash P ⟨⟨[110, 101, 120, 116]⟩⟩) (Value.str ⟨⟨[110, 101, 120, 116]⟩⟩ 38) (Value.builtin W.SZ.s1499430450269397089x4)), (DictEntry.mk (PyData.keyHash P ⟨⟨[97, 110, 101, 120, 116]⟩⟩) (Value.str ⟨⟨[97, 110, 101, 120, 116]⟩⟩ 39) (Value.builtin W.SZ.s8755793994789770505x5)), (DictEntry.mk (PyData.keyHash P ⟨⟨[111, 99, 116]⟩⟩) (Value.str ⟨⟨[111, 99, 116]⟩⟩ 40) (Value.builtin W.SZ.s15725212667919936108x3)), (DictEntry.mk (PyData.keyHash P ⟨⟨[111, 114, 100]⟩⟩) (Value.str ⟨⟨[111, 114, 100]⟩⟩ 41) (Value.builtin W.SZ.s15791221867095933363x3)), (DictEntry.mk (PyData.keyHash P ⟨⟨[112, 111, 119]⟩⟩) (Value.str ⟨⟨[112, 111, 119]⟩⟩ 42) (Value.builtin W.SZ.s81309575031448614x3)), (DictEntry.mk (PyData.keyHash P ⟨⟨[112, 114, 105, 110, 116]⟩⟩) (Value.str ⟨⟨[112, 114, 105, 110, 116]⟩⟩ 43) (Value.builtin W.SZ.s8069831620301644142x5)), (DictEntry.mk (PyData.keyHash P ⟨⟨[114, 101, 112, 114]⟩⟩) (Value.str ⟨⟨[114, 101, 112, 114]⟩⟩ 44) (Value.builtin W.SZ.s10061844253413749634x4)), (DictEntry.mk (PyData.keyHash P ⟨⟨[114, 111, 117, 110, 100]⟩⟩) (Value.str ⟨⟨[114, 111, 117, 110, 100]⟩⟩ 45) (Value.builtin W.SZ.s9496514870978017513x5)), (DictEntry.mk (PyData.keyHash P ⟨⟨[115, 101, 116, 97, 116, 116, 114]⟩⟩) (Value.str ⟨⟨[115, 101, 116, 97, 116, 116, 114]⟩⟩ 46) (Value.builtin W.SZ.s8899691144933366716x7)), (DictEntry.mk (PyData.keyHash P ⟨⟨[115, 111, 114, 116, 101, 100]⟩⟩) (Value.str ⟨⟨[115, 111, 114, 116, 101, 100]⟩⟩ 47) (Value.builtin W.SZ.s15201008993051130160x6)), (DictEntry.mk (PyData.keyHash P ⟨⟨[115, 117, 109]⟩⟩) (Value.str ⟨⟨[115, 117, 109]⟩⟩ 48) (Value.builtin W.SZ.s741896355592496720x3)), (DictEntry.mk (PyData.keyHash P ⟨⟨[118, 97, 114, 115]⟩⟩) (Value.str ⟨⟨[118, 97, 114, 115]⟩⟩ 49) (Value.builtin W.SZ.s17925004256654032244x4)), (DictEntry.mk (PyData.keyHash P ⟨⟨[78, 111, 110, 101]⟩⟩) (Value.str ⟨⟨[78, 111, 110, 101]⟩⟩ 50) Value.none), (DictEntry.mk (PyData.keyHash P ⟨⟨[69, 108, 108, 105, 112, 115, 105, 115]⟩⟩) (Value.str ⟨⟨[69, 108, 108, 105, 112, 115, 105, 115]⟩⟩ 51) Value.ellipsis), (DictEntry.mk (PyData.keyHash P ⟨⟨[78, 111, 116, 73, 109, 112, 108, 101, 109, 101, 110, 116, 101, 100]⟩⟩) (Value.str ⟨⟨[78, 111, 116, 73, 109, 112, 108, 101, 109, 101, 110, 116, 101, 100]⟩⟩ 52) Value.notImplemented), (DictEntry.mk (PyData.keyHash P ⟨⟨[70, 97, 108, 115, 101]⟩⟩) (Value.str ⟨⟨[70, 97, 108, 115, 101]⟩⟩ 53) (Value.bool Bool.false)), (DictEntry.mk (PyData.keyHash P ⟨⟨[84, 114, 117, 101]⟩⟩) (Value.str ⟨⟨[84, 114, 117, 101]⟩⟩ 54) (Value.bool Bool.true)), (DictEntry.mk (PyData.keyHash P ⟨⟨[98, 111, 111, 108]⟩⟩) (Value.str ⟨⟨[98, 111, 111, 108]⟩⟩ 55) (Value.type W.SZ.s11695548795398191787x4)), (DictEntry.mk (PyData.keyHash P ⟨⟨[109, 101, 109, 111, 114, 121, 118, 105, 101, 119]⟩⟩) (Value.str ⟨⟨[109, 101, 109, 111, 114, 121, 118, 105, 101, 119]⟩⟩ 56) (Value.type W.SZ.s4156966113859768872x10)), (DictEntry.mk (PyData.keyHash P ⟨⟨[98, 121, 116, 101, 97, 114, 114, 97, 121]⟩⟩) (Value.str ⟨⟨[98, 121, 116, 101, 97, 114, 114, 97, 121]⟩⟩ 57) (Value.type W.SZ.s9501651726347032510x9)), (DictEntry.mk (PyData.keyHash P ⟨⟨[98, 121, 116, 101, 115]⟩⟩) (Value.str ⟨⟨[98, 121, 116, 101, 115]⟩⟩ 58) (Value.type W.SZ.s15722918466584999320x5)), (DictEntry.mk (PyData.keyHash P ⟨⟨[99, 108, 97, 115, 115, 109, 101, 116, 104, 111, 100]⟩⟩) (Value.str ⟨⟨[99, 108, 97, 115, 115, 109, 101, 116, 104, 111, 100]⟩⟩ 59) (Value.type W.SZ.s591115383303110208x11)), (DictEntry.mk (PyData.keyHash P ⟨⟨[99, 111, 109, 112, 108, 101, 120]⟩⟩) (Value.str ⟨⟨[99, 111, 109, 112, 108, 101, 120]⟩⟩ 60) (Value.type W.SZ.s15721156781594690315x7)), (DictEntry.mk (PyData.keyHash P ⟨⟨[100, 105, 99, 116]⟩⟩) (Value.str ⟨⟨[100, 105, 99, 116]⟩⟩ 61) (Value.type W.SZ.s14018661285674007319x4)), (DictEntry.mk (PyData.keyHash P ⟨⟨[101, 110, 117, 109, 101, 114, 97, 116, 101]⟩⟩) (Value.str ⟨⟨[101, 110, 117, 109, 101, 114, 97, 116, 101]⟩⟩ 62) (Value.type W.SZ.s14340494229221121180x9)), (DictEntry.mk (PyData.keyHash P ⟨⟨[102, 105, 108, 116, 101, 114]⟩⟩) (Value.str ⟨⟨[102, 105, 108, 116, 101, 114]⟩⟩ 63) (Value.type W.SZ.s13429844117177748173x6)), (DictEntry.mk (PyData.keyHash P ⟨⟨[102, 108, 111, 97, 116]⟩⟩) (Value.str ⟨⟨[102, 108, 111, 97, 116]⟩⟩ 64) (Value.type W.SZ.s16463266125957815391x5)), (DictEntry.mk (PyData.keyHash P ⟨⟨[102, 114, 111, 122, 101, 110, 115, 101, 116]⟩⟩) (Value.str ⟨⟨[102, 114, 111, 122, 101, 110, 115, 101, 116]⟩⟩ 65) (Value.type W.SZ.s4922535414793169389x9)), (DictEntry.mk (PyData.keyHash P ⟨⟨[112, 114, 111, 112, 101, 114, 116, 121]⟩⟩) (Value.str ⟨⟨[112, 114, 111, 112, 101, 114, 116, 121]⟩⟩ 66) (Value.type W.SZ.s8101838861749082086x8)), (DictEntry.mk (PyData.keyHash P ⟨⟨[105, 110, 116]⟩⟩) (Value.str ⟨⟨[105, 110, 116]⟩⟩ 67) (Value.type W.SZ.s7066276694103001551x3)), (DictEntry.mk (PyData.keyHash P ⟨⟨[108, 105, 115, 116]⟩⟩) (Value.str ⟨⟨[108, 105, 115, 116]⟩⟩ 68) (Value.type W.SZ.s9222952809800978799x4)), (DictEntry.mk (PyData.keyHash P ⟨⟨[109, 97, 112]⟩⟩) (Value.str ⟨⟨[109, 97, 112]⟩⟩ 69) (Value.type W.SZ.s462964344163437139x3)), (DictEntry.mk (PyData.keyHash P ⟨⟨[111, 98, 106, 101, 99, 116]⟩⟩) (Value.str ⟨⟨[111, 98, 106, 101, 99, 116]⟩⟩ 70) (Value.type W.SZ.s2742458400755230247x6)), (DictEntry.mk (PyData.keyHash P ⟨⟨[114, 97, 110, 103, 101]⟩⟩) (Value.str ⟨⟨[114, 97, 110, 103, 101]⟩⟩ 71) (Value.type W.SZ.s1438033511350832697x5)), (DictEntry.mk (PyData.keyHash P ⟨⟨[114, 101, 118, 101, 114, 115, 101, 100]⟩⟩) (Value.str ⟨⟨[114, 101, 118, 101, 114, 115, 101, 100]⟩⟩ 72) (Value.type W.SZ.s14365286008749172514x8)), (DictEntry.mk (PyData.keyHash P ⟨⟨[115, 101, 116]⟩⟩) (Value.str ⟨⟨[115, 101, 116]⟩⟩ 73) (Value.type W.SZ.s3642769012341782148x3)), (DictEntry.mk (PyData.keyHash P ⟨⟨[115, 108, 105, 99, 101]⟩⟩) (Value.str ⟨⟨[115, 108, 105, 99, 101]⟩⟩ 74) (Value.type W.SZ.s4674234679698826739x5)), (DictEntry.mk (PyData.keyHash P ⟨⟨[115, 116, 97, 116, 105, 99, 109, 101, 116, 104, 111, 100]⟩⟩) (Value.str ⟨⟨[115, 116, 97, 116, 105, 99, 109, 101, 116, 104, 111, 100]⟩⟩ 75) (Value.type W.SZ.s16656946322747308186x12)), (DictEntry.mk (PyData.keyHash P ⟨⟨[115, 116, 114]⟩⟩) (Value.str ⟨⟨[115, 116, 114]⟩⟩ 76) (Value.type W.SZ.s10796804682411823810x3)), (DictEntry.mk (PyData.keyHash P ⟨⟨[115, 117, 112, 101, 114]⟩⟩) (Value.str ⟨⟨[115, 117, 112, 101, 114]⟩⟩ 77) (Value.type W.SZ.s4290257624100764138x5)), (DictEntry.mk (PyData.keyHash P ⟨⟨[116, 117, 112, 108, 101]⟩⟩) (Value.str ⟨⟨[116, 117, 112, 108, 101]⟩⟩ 78) (Value.type W.SZ.s2766695959194262286x5)), (DictEntry.mk (PyData.keyHash P ⟨⟨[116, 121, 112, 101]⟩⟩) (Value.str ⟨⟨[116, 121, 112, 101]⟩⟩ 79) (Value.type W.SZ.s17162191345867700912x4)), (DictEntry.mk (PyData.keyHash P ⟨⟨[122, 105, 112]⟩⟩) (Value.str ⟨⟨[122, 105, 112]⟩⟩ 80) (Value.type W.SZ.s14339709457334898076x3)), (DictEntry.mk (PyData.keyHash P ⟨⟨[95, 95, 100, 101, 98, 117, 103, 95, 95]⟩⟩) (Value.str ⟨⟨[95, 95, 100, 101, 98, 117, 103, 95, 95]⟩⟩ 81) (Value.bool Bool.true)), (DictEntry.mk (PyData.keyHash P ⟨⟨[66, 97, 115, 101, 69, 120, 99, 101, 112, 116, 105, 111, 110]⟩⟩) (Value.str ⟨⟨[66, 97, 115, 101, 69, 120, 99, 101, 112, 116, 105, 111, 110]⟩⟩ 82) (Value.type W.SZ.s4278001404047624695x13)), (DictEntry.mk (PyData.keyHash P ⟨⟨[66, 97, 115, 101, 69, 120, 99, 101, 112, 116, 105, 111, 110, 71, 114, 111, 117, 112]⟩⟩) (Value.str ⟨⟨[66, 97, 115, 101, 69, 120, 99, 101, 112, 116, 105, 111, 110, 71, 114, 111, 117, 112]⟩⟩ 83) (Value.type W.SZ.s6585700554429387442x18)), (DictEntry.mk (PyData.keyHash P ⟨⟨[69, 120, 99, 101, 112, 116, 105, 111, 110]⟩⟩) (Value.str ⟨⟨[69, 120, 99, 101, 112, 116, 105, 111, 110]⟩⟩ 84) (Value.type W.SZ.s5946037652744460706x9)), (DictEntry.mk (PyData.keyHash P ⟨⟨[71, 101, 110, 101, 114, 97, 116, 111, 114, 69, 120, 105, 116]⟩⟩) (Value.str ⟨⟨[71, 101, 110, 101, 114, 97, 116, 111, 114, 69, 120, 105, 116]⟩⟩ 85) (Value.type W.SZ.s7410770068591931388x13)), (DictEntry.mk (PyData.keyHash P ⟨⟨[75, 101, 121, 98, 111, 97, 114, 100, 73, 110, 116, 101, 114, 114, 117, 112, 116]⟩⟩) (Value.str ⟨⟨[75, 101, 121, 98, 111, 97, 114, 100, 73, 110, 116, 101, 114, 114, 117, 112, 116]⟩⟩ 86) (Value.type W.SZ.s11817881795495490833x17)), (DictEntry.mk (PyData.keyHash P ⟨⟨[83, 121, 115, 116, 101, 109, 69, 120, 105, 116]⟩⟩) (Value.str ⟨⟨[83, 121, 115, 116, 101, 109, 69, 120, 105, 116]⟩⟩ 87) (Value.type W.SZ.s15679963881808890155x10)), (DictEntry.mk (PyData.keyHash P ⟨⟨[65, 114, 105, 116, 104, 109, 101, 116, 105, 99, 69, 114, 114, 111, 114]⟩⟩) (Value.str ⟨⟨[65, 114, 105, 116, 104, 109, 101, 116, 105, 99, 69, 114, 114, 111, 114]⟩⟩ 88) (Value.type W.SZ.s3871700062485845797x15)), (DictEntry.mk (PyData.keyHash P ⟨⟨[65, 115, 115, 101, 114, 116, 105, 111, 110, 69, 114, 114, 111, 114]⟩⟩) (Value.str ⟨⟨[65, 115, 115, 101, 114, 116, 105, 111, 110, 69, 114, 114, 111, 114]⟩⟩ 89) (Value.type W.SZ.s7689518266570723881x14)), (DictEntry.mk (PyData.keyHash P ⟨⟨[65, 116, 116, 114, 105, 98, 117, 116, 101, 69, 114, 114, 111, 114]⟩⟩) (Value.str ⟨⟨[65, 116, 116, 114, 105, 98, 117, 116, 101, 69, 114, 114, 111, 114]⟩⟩ 90) (Value.type W.SZ.s9001593270443806431x14)), (DictEntry.mk (PyData.keyHash P ⟨⟨[66, 117, 102, 102, 101, 114, 69, 114, 114, 111, 114]⟩⟩) (Value.str ⟨⟨[66, 117, 102, 102, 101, 114, 69, 114, 114, 111, 114]⟩⟩ 91) (Value.type W.SZ.s6882542574934516792x11)), (DictEntry.mk (PyData.keyHash P ⟨⟨[69, 79, 70, 69, 114, 114, 111, 114]⟩⟩) (Value.str ⟨⟨[69, 79, 70, 69, 114, 114, 111, 114]⟩⟩ 92) (Value.type W.SZ.s14403400214490484960x8)), (DictEntry.mk (PyData.keyHash P ⟨⟨[73, 109, 112, 111, 114, 116, 69, 114, 114, 111, 114]⟩⟩) (Value.str ⟨⟨[73, 109, 112, 111, 114, 116, 69, 114, 114, 111, 114]⟩⟩ 93) (Value.type W.SZ.s14457978657717015782x11)), (DictEntry.mk (PyData.keyHash P ⟨⟨[76, 111, 111, 107, 117, 112, 69, 114, 114, 111, 114]⟩⟩) (Value.str ⟨⟨[76, 111, 111, 107, 117, 112, 69, 114, 114, 111, 114]⟩⟩ 94) (Value.type W.SZ.s1753610191782819921x11)), (DictEntry.mk (PyData.keyHash P ⟨⟨[77, 101, 109, 111, 114, 121, 69, 114, 114, 111, 114]⟩⟩) (Value.str ⟨⟨[77, 101, 109, 111, 114, 121, 69, 114, 114, 111, 114]⟩⟩ 95) (Value.type W.SZ.s14119380538032626715x11)), (DictEntry.mk (PyData.keyHash P ⟨⟨[78, 97, 109, 101, 69, 114, 114, 111, 114]⟩⟩) (Value.str ⟨⟨[78, 97, 109, 101, 69, 114, 114, 111, 114]⟩⟩ 96) (Value.type W.SZ.s11437920000406562045x9)), (DictEntry.mk (PyData.keyHash P ⟨⟨[79, 83, 69, 114, 114, 111, 114]⟩⟩) (Value.str ⟨⟨[79, 83, 69, 114, 114, 111, 114]⟩⟩ 97) (Value.type W.SZ.s10852414792293593619x7)), (DictEntry.mk (PyData.keyHash P ⟨⟨[82, 101, 102, 101, 114, 101, 110, 99, 101, 69, 114, 114, 111, 114]⟩⟩) (Value.str ⟨⟨[82, 101, 102, 101, 114, 101, 110, 99, 101, 69, 114, 114, 111, 114]⟩⟩ 98) (Value.type W.SZ.s14816307405966870543x14)), (DictEntry.mk (PyData.keyHash P ⟨⟨[82, 117, 110, 116, 105, 109, 101, 69, 114, 114, 111, 114]⟩⟩) (Value.str ⟨⟨[82, 117, 110, 116, 105, 109, 101, 69, 114, 114, 111, 114]⟩⟩ 99) (Value.type W.SZ.s8682627914449686677x12)), (DictEntry.mk (PyData.keyHash P ⟨⟨[83, 116, 111, 112, 65, 115, 121, 110, 99, 73, 116, 101, 114, 97, 116, 105, 111, 110]⟩⟩) (Value.str ⟨⟨[83, 116, 111, 112, 65, 115, 121, 110, 99, 73, 116, 101, 114, 97, 116, 105, 111, 110]⟩⟩ 100) (Value.type W.SZ.s4428170145600203450x18)), (DictEntry.mk (PyData.keyHash P ⟨⟨[83, 116, 111, 112, 73, 116, 101, 114, 97, 116, 105, 111, 110]⟩⟩) (Value.str ⟨⟨[83, 116, 111, 112, 73, 116, 101, 114, 97, 116, 105, 111, 110]⟩⟩ 101) (Value.type W.SZ.s5991306692159431302x13)), (DictEntry.mk (PyData.keyHash P ⟨⟨[83, 121, 110, 116, 97, 120, 69, 114, 114, 111, 114]⟩⟩) (Value.str ⟨⟨[83, 121, 110, 116, 97, 120, 69, 114, 114, 111, 114]⟩⟩ 102) (Value.type W.SZ.s16067994140765818257x11)), (DictEntry.mk (PyData.keyHash P ⟨⟨[83, 121, 115, 116, 101, 109, 69, 114, 114, 111, 114]⟩⟩) (Value.str ⟨⟨[83, 121, 115, 116, 101, 109, 69, 114, 114, 111, 114]⟩⟩ 103) (Value.type W.SZ.s2327743974964600596x11)), (DictEntry.mk (PyData.keyHash P ⟨⟨[84, 121, 112, 101, 69, 114, 114, 111, 114]⟩⟩) (Value.str ⟨⟨[84, 121, 112, 101, 69, 114, 114, 111, 114]⟩⟩ 104) (Value.type W.SZ.s2804747833354056582x9)), (DictEntry.mk (PyData.keyHash P ⟨⟨[86, 97, 108, 117, 101, 69, 114, 114, 111, 114]⟩⟩) (Value.str ⟨⟨[86, 97, 108, 117, 101, 69, 114, 114, 111, 114]⟩⟩ 105) (Value.type W.SZ.s6070975301684473832x10)), (DictEntry.mk (PyData.keyHash P ⟨⟨[87, 97, 114, 110, 105, 110, 103]⟩⟩) (Value.str ⟨⟨[87, 97, 114, 110, 105, 110, 103]⟩⟩ 106) (Value.type W.SZ.s14270485950484850486x7)), (DictEntry.mk (PyData.keyHash P ⟨⟨[70, 108, 111, 97, 116, 105, 110, 103, 80, 111, 105, 110, 116, 69, 114, 114, 111, 114]⟩⟩) (Value.str ⟨⟨[70, 108, 111, 97, 116, 105, 110, 103, 80, 111, 105, 110, 116, 69, 114, 114, 111, 114]⟩⟩ 107) (Value.type W.SZ.s12041534306414923332x18)), (DictEntry.mk (PyData.keyHash P ⟨⟨[79, 118, 101, 114, 102, 108, 111, 119, 69, 114, 114, 111, 114]⟩⟩) (Value.str ⟨⟨[79, 118, 101, 114, 102, 108, 111, 119, 69, 114, 114, 111, 114]⟩⟩ 108) (Value.type W.SZ.s2531307568338490285x13)), (DictEntry.mk (PyData.keyHash P ⟨⟨[90, 101, 114, 111, 68, 105, 118, 105, 115, 105, 111, 110, 69, 114, 114, 111, 114]⟩⟩) (Value.str ⟨⟨[90, 101, 114, 111, 68, 105, 118, 105, 115, 105, 111, 110, 69, 114, 114, 111, 114]⟩⟩ 109) (Value.type W.SZ.s631175304937289666x17)), (DictEntry.mk (PyData.keyHash P ⟨⟨[66, 121, 116, 101, 115, 87, 97, 114, 110, 105, 110, 103]⟩⟩) (Value.str ⟨⟨[66, 121, 116, 101, 115, 87, 97, 114, 110, 105, 110, 103]⟩⟩ 110) (Value.type W.SZ.s5144983644357021410x12)), (DictEntry.mk (PyData.keyHash P ⟨⟨[68, 101, 112, 114, 101, 99, 97, 116, 105, 111, 110, 87, 97, 114, 110, 105, 110, 103]⟩⟩) (Value.str ⟨⟨[68, 101, 112, 114, 101, 99, 97, 116, 105, 111, 110, 87, 97, 114, 110, 105, 110, 103]⟩⟩ 111) (Value.type W.SZ.s18039099521571816885x18)), (DictEntry.mk (PyData.keyHash P ⟨⟨[69, 110, 99, 111, 100, 105, 110, 103, 87, 97, 114, 110, 105, 110, 103]⟩⟩) (Value.str ⟨⟨[69, 110, 99, 111, 100, 105, 110, 103, 87, 97, 114, 110, 105, 110, 103]⟩⟩ 112) (Value.type W.SZ.s6011586214260557989x15)), (DictEntry.mk (PyData.keyHash P ⟨⟨[70, 117, 116, 117, 114, 101, 87, 97, 114, 110, 105, 110, 103]⟩⟩) (Value.str ⟨⟨[70, 117, 116, 117, 114, 101, 87, 97, 114, 110, 105, 110, 103]⟩⟩ 113) (Value.type W.SZ.s5430567037509283100x13)), (DictEntry.mk (PyData.keyHash P ⟨⟨[73, 109, 112, 111, 114, 116, 87, 97, 114, 110, 105, 110, 103]⟩⟩) (Value.str ⟨⟨[73, 109, 112, 111, 114, 116, 87, 97, 114, 110, 105, 110, 103]⟩⟩ 114) (Value.type W.SZ.s8117915138073963741x13)), (DictEntry.mk (PyData.keyHash P ⟨⟨[80, 101, 110, 100, 105, 110, 103, 68, 101, 112, 114, 101, 99, 97, 116, 105, 111, 110, 87, 97, 114, 110, 105, 110, 103]⟩⟩) (Value.str ⟨⟨[80, 101, 110, 100, 105, 110, 103, 68, 101, 112, 114, 101, 99, 97, 116, 105, 111, 110, 87, 97, 114, 110, 105, 110, 103]⟩⟩ 115) (Value.type W.SZ.s3423317712779056401x25)), (DictEntry.mk (PyData.keyHash P ⟨⟨[82, 101, 115, 111, 117, 114, 99, 101, 87, 97, 114, 110, 105, 110, 103]⟩⟩) (Value.str ⟨⟨[82, 101, 115, 111, 117, 114, 99, 101, 87, 97, 114, 110, 105, 110, 103]⟩⟩ 116) (Value.type W.SZ.s2007317383269046180x15)), (DictEntry.mk (PyData.keyHash P ⟨⟨[82, 117, 110, 116, 105, 109, 101, 87, 97, 114, 110, 105, 110, 103]⟩⟩) (Value.str ⟨⟨[82, 117, 110, 116, 105, 109, 101, 87, 97, 114, 110, 105, 110, 103]⟩⟩ 117) (Value.type W.SZ.s17481586968713580700x14)), (DictEntry.mk (PyData.keyHash P ⟨⟨[83, 121, 110, 116, 97, 120, 87, 97, 114, 110, 105, 110, 103]⟩⟩) (Value.str ⟨⟨[83, 121, 110, 116, 97, 120, 87, 97, 114, 110, 105, 110, 103]⟩⟩ 118) (Value.type W.SZ.s2450899226349176912x13)), (DictEntry.mk (PyData.keyHash P ⟨⟨[85, 110, 105, 99, 111, 100, 101, 87, 97, 114, 110, 105, 110, 103]⟩⟩) (Value.str ⟨⟨[85, 110, 105, 99, 111, 100, 101, 87, 97, 114, 110, 105, 110, 103]⟩⟩ 119) (Value.type W.SZ.s16626165730633575011x14)), (DictEntry.mk (PyData.keyHash P ⟨⟨[85, 115, 101, 114, 87, 97, 114, 110, 105, 110, 103]⟩⟩) (Value.str ⟨⟨[85, 115, 101, 114, 87, 97, 114, 110, 105, 110, 103]⟩⟩ 120) (Value.type W.SZ.s14288496050688921416x11)), (DictEntry.mk (PyData.keyHash P ⟨⟨[66, 108, 111, 99, 107, 105, 110, 103, 73, 79, 69, 114, 114, 111, 114]⟩⟩) (Value.str ⟨⟨[66, 108, 111, 99, 107, 105, 110, 103, 73, 79, 69, 114, 114, 111, 114]⟩⟩ 121) (Value.type W.SZ.s5735081916595925998x15)), (DictEntry.mk (PyData.keyHash P ⟨⟨[67, 104, 105, 108, 100, 80, 114, 111, 99, 101, 115, 115, 69, 114, 114, 111, 114]⟩⟩) (Value.str ⟨⟨[67, 104, 105, 108, 100, 80, 114, 111, 99, 101, 115, 115, 69, 114, 114, 111, 114]⟩⟩ 122) (Value.type W.SZ.s3865607918536308442x17)), (DictEntry.mk (PyData.keyHash P ⟨⟨[67, 111, 110, 110, 101, 99, 116, 105, 111, 110, 69, 114, 114, 111, 114]⟩⟩) (Value.str ⟨⟨[67, 111, 110, 110, 101, 99, 116, 105, 111, 110, 69, 114, 114, 111, 114]⟩⟩ 123) (Value.type W.SZ.s13337502604062700212x15)), (DictEntry.mk (PyData.keyHash P ⟨⟨[70, 105, 108, 101, 69, 120, 105, 115, 116, 115, 69, 114, 114, 111, 114]⟩⟩) (Value.str ⟨⟨[70, 105, 108, 101, 69, 120, 105, 115, 116, 115, 69, 114, 114, 111, 114]⟩⟩ 124) (Value.type W.SZ.s13114017843053701147x15)), (DictEntry.mk (PyData.keyHash P ⟨⟨[70, 105, 108, 101, 78, 111, 116, 70, 111, 117, 110, 100, 69, 114, 114, 111, 114]⟩⟩) (Value.str ⟨⟨[70, 105, 108, 101, 78, 111, 116, 70, 111, 117, 110, 100, 69, 114, 114, 111, 114]⟩⟩ 125) (Value.type W.SZ.s17467278006356818441x17)), (DictEntry.mk (PyData.keyHash P ⟨⟨[73, 110, 116, 101, 114, 114, 117, 112, 116, 101, 100, 69, 114, 114, 111, 114]⟩⟩) (Value.str ⟨⟨[73, 110, 116, 101, 114, 114, 117, 112, 116, 101, 100, 69, 114, 114, 111, 114]⟩⟩ 126) (Value.type W.SZ.s17722149559621369488x16)), (DictEntry.mk (PyData.keyHash P ⟨⟨[73, 115, 65, 68, 105, 114, 101, 99, 116, 111, 114, 121, 69, 114, 114, 111, 114]⟩⟩) (Value.str ⟨⟨[73, 115, 65, 68, 105, 114, 101, 99, 116, 111, 114, 121, 69, 114, 114, 111, 114]⟩⟩ 127) (Value.type W.SZ.s7855274175708717672x17)), (DictEntry.mk (PyData.keyHash P ⟨⟨[78, 111, 116, 65, 68, 105, 114, 101, 99, 116, 111, 114, 121, 69, 114, 114, 111, 114]⟩⟩) (Value.str ⟨⟨[78, 111, 116, 65, 68, 105, 114, 101, 99, 116, 111, 114, 121, 69, 114, 114, 111, 114]⟩⟩ 128) (Value.type W.SZ.s13351283678309829046x18)), (DictEntry.mk (PyData.keyHash P ⟨⟨[80, 101, 114, 109, 105, 115, 115, 105, 111, 110, 69, 114, 114, 111, 114]⟩⟩) (Value.str ⟨⟨[80, 101, 114, 109, 105, 115, 115, 105, 111, 110, 69, 114, 114, 111, 114]⟩⟩ 129) (Value.type W.SZ.s6668348653404991179x15)), (DictEntry.mk (PyData.keyHash P ⟨⟨[80, 114, 111, 99, 101, 115, 115, 76, 111, 111, 107, 117, 112, 69, 114, 114, 111, 114]⟩⟩) (Value.str ⟨⟨[80, 114, 111, 99, 101, 115, 115, 76, 111, 111, 107, 117, 112, 69, 114, 114, 111, 114]⟩⟩ 130) (Value.type W.SZ.s12913350958174193794x18)), (DictEntry.mk (PyData.keyHash P ⟨⟨[84, 105, 109, 101, 111, 117, 116, 69, 114, 114, 111, 114]⟩⟩) (Value.str ⟨⟨[84, 105, 109, 101, 111, 117, 116, 69, 114, 114, 111, 114]⟩⟩ 131) (Value.type W.SZ.s16115879512475548326x12)), (DictEntry.mk (PyData.keyHash P ⟨⟨[73, 110, 100, 101, 110, 116, 97, 116, 105, 111, 110, 69, 114, 114, 111, 114]⟩⟩) (Value.str ⟨⟨[73, 110, 100, 101, 110, 116, 97, 116, 105, 111, 110, 69, 114, 114, 111, 114]⟩⟩ 132) (Value.type W.SZ.s15920661018069861047x16)), (DictEntry.mk (PyData.keyHash P ⟨⟨[95, 73, 110, 99, 111, 109, 112, 108, 101, 116, 101, 73, 110, 112, 117, 116, 69, 114, 114, 111, 114]⟩⟩) (Value.str ⟨⟨[95, 73, 110, 99, 111, 109, 112, 108, 101, 116, 101, 73, 110, 112, 117, 116, 69, 114, 114, 111, 114]⟩⟩ 133) (Value.type W.SZ.s10779130036587390575x21)), (DictEntry.mk (PyData.keyHash P ⟨⟨[73, 110, 100, 101, 120, 69, 114, 114, 111, 114]⟩⟩) (Value.str ⟨⟨[73, 110, 100, 101, 120, 69, 114, 114, 111, 114]⟩⟩ 134) (Value.type W.SZ.s7801419657504700863x10)), (DictEntry.mk (PyData.keyHash P ⟨⟨[75, 101, 121, 69, 114, 114, 111, 114]⟩⟩) (Value.str ⟨⟨[75, 101, 121, 69, 114, 114, 111, 114]⟩⟩ 135) (Value.type W.SZ.s1688129525768580628x8)), (DictEntry.mk (PyData.keyHash P ⟨⟨[77, 111, 100, 117, 108, 101, 78, 111, 116, 70, 111, 117, 110, 100, 69, 114, 114, 111, 114]⟩⟩) (Value.str ⟨⟨[77, 111, 100, 117, 108, 101, 78, 111, 116, 70, 111, 117, 110, 100, 69, 114, 114, 111, 114]⟩⟩ 136) (Value.type W.SZ.s1031832959479892071x19)), (DictEntry.mk (PyData.keyHash P ⟨⟨[78, 111, 116, 73, 109, 112, 108, 101, 109, 101, 110, 116, 101, 100, 69, 114, 114, 111, 114]⟩⟩) (Value.str ⟨⟨[78, 111, 116, 73, 109, 112, 108, 101, 109, 101, 110, 116, 101, 100, 69, 114, 114, 111, 114]⟩⟩ 137) (Value.type W.SZ.s8991790508128307865x19)), (DictEntry.mk (PyData.keyHash P ⟨⟨[80, 121, 116, 104, 111, 110, 70, 105, 110, 97, 108, 105, 122, 97, 116, 105, 111, 110, 69, 114, 114, 111, 114]⟩⟩) (Value.str ⟨⟨[80, 121, 116, 104, 111, 110, 70, 105, 110, 97, 108, 105, 122, 97, 116, 105, 111, 110, 69, 114, 114, 111, 114]⟩⟩ 138) (Value.type W.SZ.s14539662485746970245x23)), (DictEntry.mk (PyData.keyHash P ⟨⟨[82, 101, 99, 117, 114, 115, 105, 111, 110, 69, 114, 114, 111, 114]⟩⟩) (Value.str ⟨⟨[82, 101, 99, 117, 114, 115, 105, 111, 110, 69, 114, 114, 111, 114]⟩⟩ 139) (Value.type W.SZ.s11643622729373238714x14)), (DictEntry.mk (PyData.keyHash P ⟨⟨[85, 110, 98, 111, 117, 110, 100, 76, 111, 99, 97, 108, 69, 114, 114, 111, 114]⟩⟩) (Value.str ⟨⟨[85, 110, 98, 111, 117, 110, 100, 76, 111, 99, 97, 108, 69, 114, 114, 111, 114]⟩⟩ 140) (Value.type W.SZ.s3386828779285465597x17)), (DictEntry.mk (PyData.keyHash P ⟨⟨[85, 110, 105, 99, 111, 100, 101, 69, 114, 114, 111, 114]⟩⟩) (Value.str ⟨⟨[85, 110, 105, 99, 111, 100, 101, 69, 114, 114, 111, 114]⟩⟩ 141) (Value.type W.SZ.s13042696260734638735x12)), (DictEntry.mk (PyData.keyHash P ⟨⟨[66, 114, 111, 107, 101, 110, 80, 105, 112, 101, 69, 114, 114, 111, 114]⟩⟩) (Value.str ⟨⟨[66, 114, 111, 107, 101, 110, 80, 105, 112, 101, 69, 114, 114, 111, 114]⟩⟩ 142) (Value.type W.SZ.s18239426817015966623x15)), (DictEntry.mk (PyData.keyHash P ⟨⟨[67, 111, 110, 110, 101, 99, 116, 105, 111, 110, 65, 98, 111, 114, 116, 101, 100, 69, 114, 114, 111, 114]⟩⟩) (Value.str ⟨⟨[67, 111, 110, 110, 101, 99, 116, 105, 111, 110, 65, 98, 111, 114, 116, 101, 100, 69, 114, 114, 111, 114]⟩⟩ 143) (Value.type W.SZ.s1270395311379034370x22)), (DictEntry.mk (PyData.keyHash P ⟨⟨[67, 111, 110, 110, 101, 99, 116, 105, 111, 110, 82, 101, 102, 117, 115, 101, 100, 69, 114, 114, 111, 114]⟩⟩) (Value.str ⟨⟨[67, 111, 110, 110, 101, 99, 116, 105, 111, 110, 82, 101, 102, 117, 115, 101, 100, 69, 114, 114, 111, 114]⟩⟩ 144) (Value.type W.SZ.s10696252587037064777x22)), (DictEntry.mk (PyData.keyHash P ⟨⟨[67, 111, 110, 110, 101, 99, 116, 105, 111, 110, 82, 101, 115, 101, 116, 69, 114, 114, 111, 114]⟩⟩) (Value.str ⟨⟨[67, 111, 110, 110, 101, 99, 116, 105, 111, 110, 82, 101, 115, 101, 116, 69, 114, 114, 111, 114]⟩⟩ 145) (Value.type W.SZ.s7852717498200857586x20)), (DictEntry.mk (PyData.keyHash P ⟨⟨[84, 97, 98, 69, 114, 114, 111, 114]⟩⟩) (Value.str ⟨⟨[84, 97, 98, 69, 114, 114, 111, 114]⟩⟩ 146) (Value.type W.SZ.s6377248116197321094x8)), (DictEntry.mk (PyData.keyHash P ⟨⟨[85, 110, 105, 99, 111, 100, 101, 68, 101, 99, 111, 100, 101, 69, 114, 114, 111, 114]⟩⟩) (Value.str ⟨⟨[85, 110, 105, 99, 111, 100, 101, 68, 101, 99, 111, 100, 101, 69, 114, 114, 111, 114]⟩⟩ 147) (Value.type W.SZ.s3834378056692298002x18)), (DictEntry.mk (PyData.keyHash P ⟨⟨[85, 110, 105, 99, 111, 100, 101, 69, 110, 99, 111, 100, 101, 69, 114, 114, 111, 114]⟩⟩) (Value.str ⟨⟨[85, 110, 105, 99, 111, 100, 101, 69, 110, 99, 111, 100, 101, 69, 114, 114, 111, 114]⟩⟩ 148) (Value.type W.SZ.s17586630440231065808x18)), (DictEntry.mk (PyData.keyHash P ⟨⟨[85, 110, 105, 99, 111, 100, 101, 84, 114, 97, 110, 115, 108, 97, 116, 101, 69, 114, 114, 111, 114]⟩⟩) (Value.str ⟨⟨[85, 110, 105, 99, 111, 100, 101, 84, 114, 97, 110, 115, 108, 97, 116, 101, 69, 114, 114, 111, 114]⟩⟩ 149) (Value.type W.SZ.s15234114252648025395x21)), (DictEntry.mk (PyData.keyHash P ⟨⟨[69, 120, 99, 101, 112, 116, 105, 111, 110, 71, 114, 111, 117, 112]⟩⟩) (Value.str ⟨⟨[69, 120, 99, 101, 112, 116, 105, 111, 110, 71, 114, 111, 117, 112]⟩⟩ 150) (Value.type W.SZ.s8496462677383758984x14)), (DictEntry.mk (PyData.keyHash P ⟨⟨[69, 110, 118, 105, 114, 111, 110, 109, 101, 110, 116, 69, 114, 114, 111, 114]⟩⟩) (Value.str ⟨⟨[69, 110, 118, 105, 114, 111, 110, 109, 101, 110, 116, 69, 114, 114, 111, 114]⟩⟩ 151) (Value.type W.SZ.s10852414792293593619x7)), (DictEntry.mk (PyData.keyHash P ⟨⟨[73, 79, 69, 114, 114, 111, 114]⟩⟩) (Value.str ⟨⟨[73, 79, 69, 114, 114, 111, 114]⟩⟩ 152) (Value.type W.SZ.s10852414792293593619x7)), (DictEntry.mk (PyData.keyHash P ⟨⟨[111, 112, 101, 110]⟩⟩) (Value.str ⟨⟨[111, 112, 101, 110]⟩⟩ 153) (Value.builtin W.SZ.s16789243406116112673x4)), (DictEntry.mk (PyData.keyHash P ⟨⟨[113, 117, 105, 116]⟩⟩) (Value.str ⟨⟨[113, 117, 105, 116]⟩⟩ 154) (Value.builtin W.SZ.s14400166428656793546x20)), (DictEntry.mk (PyData.keyHash P ⟨⟨[101, 120, 105, 116]⟩⟩) (Value.str ⟨⟨[101, 120, 105, 116]⟩⟩ 155) (Value.builtin W.SZ.s5857708277339239366x20)), (DictEntry.mk (PyData.keyHash P ⟨⟨[99, 111, 112, 121, 114, 105, 103, 104, 116]⟩⟩) (Value.str ⟨⟨[99, 111, 112, 121, 114, 105, 103, 104, 116]⟩⟩ 156) (Value.builtin lt_own0)), (DictEntry.mk (PyData.keyHash P ⟨⟨[99, 114, 101, 100, 105, 116, 115]⟩⟩) (Value.str ⟨⟨[99, 114, 101, 100, 105, 116, 115]⟩⟩ 157) (Value.builtin lt_own2)), (DictEntry.mk (PyData.keyHash P ⟨⟨[108, 105, 99, 101, 110, 115, 101]⟩⟩) (Value.str ⟨⟨[108, 105, 99, 101, 110, 115, 101]⟩⟩ 158) (Value.builtin lt_own1)), (DictEntry.mk (PyData.keyHash P ⟨⟨[104, 101, 108, 112]⟩⟩) (Value.str ⟨⟨[104, 101, 108, 112]⟩⟩ 159) (Value.builtin W.SZ.s7804999707787243718x20))]⟩ 159) ⟨[]⟩)
noncomputable def zo2 (P : Params) : Obj := (Obj.mk Value.none Option.none (Data.dict ⟨[(DictEntry.mk (PyData.keyHash P ⟨⟨[116, 121, 112, 101, 46, 95, 95, 115, 117, 98, 99, 108, 97, 115, 115, 101, 115, 95, 95, 46, 69, 120, 99, 101, 112, 116, 105, 111, 110, 46, 48]⟩⟩) (Value.str ⟨⟨[116, 121, 112, 101, 46, 95, 95, 115, 117, 98, 99, 108, 97, 115, 115, 101, 115, 95, 95, 46, 69, 120, 99, 101, 112, 116, 105, 111, 110, 46, 48]⟩⟩ 212) (Value.int 31 0)), (DictEntry.mk (PyData.keyHash P ⟨⟨[116, 121, 112, 101, 46, 95, 95, 115, 117, 98, 99, 108, 97, 115, 115, 101, 115, 95, 95, 46, 69, 120, 99, 101, 112, 116, 105, 111, 110, 46, 110]⟩⟩) (Value.str ⟨⟨[116, 121, 112, 101, 46, 95, 95, 115, 117, 98, 99, 108, 97, 115, 115, 101, 115, 95, 95, 46, 69, 120, 99, 101, 112, 116, 105, 111, 110, 46, 110]⟩⟩ 213) (Value.int 1 0))]⟩ 2) ⟨[]⟩)
noncomputable def zo3 (P : Params) : Obj := (Obj.mk (Value.type W.SZ.s14018661285674007319x4) Option.none (Data.dict ⟨[(DictEntry.mk (PyData.keyHash P ⟨⟨[95, 95, 110, 97, 109, 101, 95, 95]⟩⟩) (Value.str ⟨⟨[95, 95, 110, 97, 109, 101, 95, 95]⟩⟩ 165) (Value.str ⟨⟨[108, 97, 119, 95, 111, 107, 48, 48, 49, 56, 95, 48, 49]⟩⟩ 655)), (DictEntry.mk (PyData.keyHash P ⟨⟨[95, 95, 100, 111, 99, 95, 95]⟩⟩) (Value.str ⟨⟨[95, 95, 100, 111, 99, 95, 95]⟩⟩ 166) Value.none), (DictEntry.mk (PyData.keyHash P ⟨⟨[95, 95, 112, 97, 99, 107, 97, 103, 101, 95, 95]⟩⟩) (Value.str ⟨⟨[95, 95, 112, 97, 99, 107, 97, 103, 101, 95, 95]⟩⟩ 167) Value.none), (DictEntry.mk (PyData.keyHash P ⟨⟨[95, 95, 108, 111, 97, 100, 101, 114, 95, 95]⟩⟩) (Value.str ⟨⟨[95, 95, 108, 111, 97, 100, 101, 114, 95, 95]⟩⟩ 168) (Value.builtin W.SZ.s7097527257260152453x26)), (DictEntry.mk (PyData.keyHash P ⟨⟨[95, 95, 115, 112, 101, 99, 95, 95]⟩⟩) (Value.str ⟨⟨[95, 95, 115, 112, 101, 99, 95, 95]⟩⟩ 169) Value.none), (DictEntry.mk (PyData.keyHash P ⟨⟨[95, 95, 97, 110, 110, 111, 116, 97, 116, 105, 111, 110, 115, 95, 95]⟩⟩) (Value.str ⟨⟨[95, 95, 97, 110, 110, 111, 116, 97, 116, 105, 111, 110, 115, 95, 95]⟩⟩ 170) (Value.ref 6)), (DictEntry.mk (PyData.keyHash P ⟨⟨[95, 95, 98, 117, 105, 108, 116, 105, 110, 115, 95, 95]⟩⟩) (Value.str ⟨⟨[95, 95, 98, 117, 105, 108, 116, 105, 110, 115, 95, 95]⟩⟩ 171) (Value.ref 4)), (DictEntry.mk (PyData.keyHash P ⟨⟨[95, 95, 102, 105, 108, 101, 95, 95]⟩⟩) (Value.str ⟨⟨[95, 95, 102, 105, 108, 101, 95, 95]⟩⟩ 173) (Value.str ⟨⟨[47, 99, 108, 97, 105, 109, 47, 99, 117, 116, 46, 112, 121]⟩⟩ 172)), (DictEntry.mk (PyData.keyHash P ⟨⟨[95, 95, 99, 97, 99, 104, 101, 100, 95, 95]⟩⟩) (Value.str ⟨⟨[95, 95, 99, 97, 99, 104, 101, 100, 95, 95]⟩⟩ 174) Value.none), (DictEntry.mk (PyData.keyHash P ⟨⟨[95, 119, 97, 108, 108]⟩⟩) (Value.str ⟨⟨[95, 119, 97, 108, 108]⟩⟩ 193) (Value.ref 21)), (DictEntry.mk (PyData.keyHash P ⟨⟨[67, 108, 97, 117, 115, 101, 109, 105, 108, 108, 69, 114, 114, 111, 114]⟩⟩) (Value.str ⟨⟨[67, 108, 97, 117, 115, 101, 109, 105, 108, 108, 69, 114, 114, 111, 114]⟩⟩ 215) (Value.ref 31)), (DictEntry.mk (PyData.keyHash P ⟨⟨[80, 114, 111, 108, 111, 103, 69, 114, 114, 111, 114]⟩⟩) (Value.str ⟨⟨[80, 114, 111, 108, 111, 103, 69, 114, 114, 111, 114]⟩⟩ 240) (Value.ref 51)), (DictEntry.mk (PyData.keyHash P ⟨⟨[65, 95, 83, 89, 83, 84, 69, 77]⟩⟩) (Value.str ⟨⟨[65, 95, 83, 89, 83, 84, 69, 77]⟩⟩ 242) (Value.int 25 241)), (DictEntry.mk (PyData.keyHash P ⟨⟨[70, 95, 83, 76, 65, 83, 72]⟩⟩) (Value.str ⟨⟨[70, 95, 83, 76, 65, 83, 72]⟩⟩ 244) (Value.int 15 243)), (DictEntry.mk (PyData.keyHash P ⟨⟨[70, 95, 69, 82, 82, 79, 82]⟩⟩) (Value.str ⟨⟨[70, 95, 69, 82, 82, 79, 82]⟩⟩ 246) (Value.int 16 245)), (DictEntry.mk (PyData.keyHash P ⟨⟨[102, 105, 120, 101, 100, 95, 97, 116, 111, 109, 115]⟩⟩) (Value.str ⟨⟨[102, 105, 120, 101, 100, 95, 97, 116, 111, 109, 115]⟩⟩ 252) (Value.ref 60)), (DictEntry.mk (PyData.keyHash P ⟨⟨[102, 105, 120, 101, 100, 95, 102, 117, 110, 99, 116, 111, 114, 115]⟩⟩) (Value.str ⟨⟨[102, 105, 120, 101, 100, 95, 102, 117, 110, 99, 116, 111, 114, 115]⟩⟩ 258) (Value.ref 67)), (DictEntry.mk (PyData.keyHash P ⟨⟨[83, 121, 109, 98, 111, 108, 115]⟩⟩) (Value.str ⟨⟨[83, 121, 109, 98, 111, 108, 115]⟩⟩ 377) (Value.ref 154)), (DictEntry.mk (PyData.keyHash P ⟨⟨[97, 116, 111, 109]⟩⟩) (Value.str ⟨⟨[97, 116, 111, 109]⟩⟩ 386) (Value.ref 165)), (DictEntry.mk (PyData.keyHash P ⟨⟨[105, 110, 116, 101, 103, 101, 114]⟩⟩) (Value.str ⟨⟨[105, 110, 116, 101, 103, 101, 114]⟩⟩ 393) (Value.ref 172)), (DictEntry.mk (PyData.keyHash P ⟨⟨[115, 116, 114, 117, 99, 116]⟩⟩) (Value.str ⟨⟨[115, 116, 114, 117, 99, 116]⟩⟩ 401) (Value.ref 179)), (DictEntry.mk (PyData.keyHash P ⟨⟨[115, 121, 115, 116, 101, 109, 95, 101, 114, 114, 111, 114]⟩⟩) (Value.str ⟨⟨[115, 121, 115, 116, 101, 109, 95, 101, 114, 114, 111, 114]⟩⟩ 408) (Value.ref 186)), (DictEntry.mk (PyData.keyHash P ⟨⟨[102, 111, 114, 109, 97, 108, 95, 111, 102]⟩⟩) (Value.str ⟨⟨[102, 111, 114, 109, 97, 108, 95, 111, 102]⟩⟩ 419) (Value.ref 193)), (DictEntry.mk (PyData.keyHash P ⟨⟨[105, 110, 115, 116, 97, 110, 116, 105, 97, 116, 105, 111, 110, 95, 101, 114, 114, 111, 114]⟩⟩) (Value.str ⟨⟨[105, 110, 115, 116, 97, 110, 116, 105, 97, 116, 105, 111, 110, 95, 101, 114, 114, 111, 114]⟩⟩ 426) (Value.ref 200)), (DictEntry.mk (PyData.keyHash P ⟨⟨[116, 121, 112, 101, 95, 101, 114, 114, 111, 114]⟩⟩) (Value.str ⟨⟨[116, 121, 112, 101, 95, 101, 114, 114, 111, 114]⟩⟩ 435) (Value.ref 207)), (DictEntry.mk (PyData.keyHash P ⟨⟨[101, 118, 97, 108, 117, 97, 116, 105, 111, 110, 95, 101, 114, 114, 111, 114]⟩⟩) (Value.str ⟨⟨[101, 118, 97, 108, 117, 97, 116, 105, 111, 110, 95, 101, 114, 114, 111, 114]⟩⟩ 443) (Value.ref 214)), (DictEntry.mk (PyData.keyHash P ⟨⟨[114, 101, 115, 111, 117, 114, 99, 101, 95, 101, 114, 114, 111, 114]⟩⟩) (Value.str ⟨⟨[114, 101, 115, 111, 117, 114, 99, 101, 95, 101, 114, 114, 111, 114]⟩⟩ 451) (Value.ref 221)), (DictEntry.mk (PyData.keyHash P ⟨⟨[85, 78, 65, 82, 89, 95, 78, 65, 77, 69, 83]⟩⟩) (Value.str ⟨⟨[85, 78, 65, 82, 89, 95, 78, 65, 77, 69, 83]⟩⟩ 465) (Value.ref 222)), (DictEntry.mk (PyData.keyHash P ⟨⟨[66, 73, 78, 65, 82, 89, 95, 78, 65, 77, 69, 83]⟩⟩) (Value.str ⟨⟨[66, 73, 78, 65, 82, 89, 95, 78, 65, 77, 69, 83]⟩⟩ 484) (Value.ref 223)), (DictEntry.mk (PyData.keyHash P ⟨⟨[65, 80, 80, 76, 89]⟩⟩) (Value.str ⟨⟨[65, 80, 80, 76, 89]⟩⟩ 486) (Value.str ⟨⟨[97, 112, 112, 108, 121]⟩⟩ 485)), (DictEntry.mk (PyData.keyHash P ⟨⟨[110, 111, 116, 95, 101, 118, 97, 108, 117, 97, 98, 108, 101]⟩⟩) (Value.str ⟨⟨[110, 111, 116, 95, 101, 118, 97, 108, 117, 97, 98, 108, 101]⟩⟩ 496) (Value.ref 230)), (DictEntry.mk (PyData.keyHash P ⟨⟨[105, 115, 95, 101, 118, 97, 108, 117, 97, 98, 108, 101]⟩⟩) (Value.str ⟨⟨[105, 115, 95, 101, 118, 97, 108, 117, 97, 98, 108, 101]⟩⟩ 504) (Value.ref 237)), (DictEntry.mk (PyData.keyHash P ⟨⟨[99, 104, 101, 99, 107, 95, 101, 118, 97, 108, 117, 97, 98, 108, 101]⟩⟩) (Value.str ⟨⟨[99, 104, 101, 99, 107, 95, 101, 118, 97, 108, 117, 97, 98, 108, 101]⟩⟩ 514) (Value.ref 244)), (DictEntry.mk (PyData.keyHash P ⟨⟨[99, 104, 101, 99, 107, 95, 115, 105, 122, 101]⟩⟩) (Value.str ⟨⟨[99, 104, 101, 99, 107, 95, 115, 105, 122, 101]⟩⟩ 523) (Value.ref 251)), (DictEntry.mk (PyData.keyHash P ⟨⟨[100, 105, 118, 105, 100, 101, 95, 116, 111, 119, 97, 114, 100, 95, 122, 101, 114, 111]⟩⟩) (Value.str ⟨⟨[100, 105, 118, 105, 100, 101, 95, 116, 111, 119, 97, 114, 100, 95, 122, 101, 114, 111]⟩⟩ 532) (Value.ref 258)), (DictEntry.mk (PyData.keyHash P ⟨⟨[114, 101, 109, 97, 105, 110, 100, 101, 114]⟩⟩) (Value.str ⟨⟨[114, 101, 109, 97, 105, 110, 100, 101, 114]⟩⟩ 540) (Value.ref 265)), (DictEntry.mk (PyData.keyHash P ⟨⟨[103, 114, 101, 97, 116, 101, 115, 116, 95, 100, 105, 118, 105, 115, 111, 114]⟩⟩) (Value.str ⟨⟨[103, 114, 101, 97, 116, 101, 115, 116, 95, 100, 105, 118, 105, 115, 111, 114]⟩⟩ 548) (Value.ref 272)), (DictEntry.mk (PyData.keyHash P ⟨⟨[112, 111, 119, 101, 114]⟩⟩) (Value.str ⟨⟨[112, 111, 119, 101, 114]⟩⟩ 558) (Value.ref 279)), (DictEntry.mk (PyData.keyHash P ⟨⟨[115, 104, 105, 102, 116, 95, 108, 101, 102, 116]⟩⟩) (Value.str ⟨⟨[115, 104, 105, 102, 116, 95, 108, 101, 102, 116]⟩⟩ 568) (Value.ref 286)), (DictEntry.mk (PyData.keyHash P ⟨⟨[115, 104, 105, 102, 116, 95, 114, 105, 103, 104, 116]⟩⟩) (Value.str ⟨⟨[115, 104, 105, 102, 116, 95, 114, 105, 103, 104, 116]⟩⟩ 578) (Value.ref 293)), (DictEntry.mk (PyData.keyHash P ⟨⟨[115, 105, 103, 110, 95, 111, 102]⟩⟩) (Value.str ⟨⟨[115, 105, 103, 110, 95, 111, 102]⟩⟩ 585) (Value.ref 300)), (DictEntry.mk (PyData.keyHash P ⟨⟨[97, 112, 112, 108, 121, 95, 117, 110, 97, 114, 121]⟩⟩) (Value.str ⟨⟨[97, 112, 112, 108, 121, 95, 117, 110, 97, 114, 121]⟩⟩ 594) (Value.ref 307)), (DictEntry.mk (PyData.keyHash P ⟨⟨[97, 112, 112, 108, 121, 95, 100, 105, 118, 105, 115, 105, 111, 110]⟩⟩) (Value.str ⟨⟨[97, 112, 112, 108, 121, 95, 100, 105, 118, 105, 115, 105, 111, 110]⟩⟩ 604) (Value.ref 314)), (DictEntry.mk (PyData.keyHash P ⟨⟨[97, 112, 112, 108, 121, 95, 98, 105, 116, 115]⟩⟩) (Value.str ⟨⟨[97, 112, 112, 108, 121, 95, 98, 105, 116, 115]⟩⟩ 615) (Value.ref 321)), (DictEntry.mk (PyData.keyHash P ⟨⟨[97, 112, 112, 108, 121, 95, 98, 105, 110, 97, 114, 121]⟩⟩) (Value.str ⟨⟨[97, 112, 112, 108, 121, 95, 98, 105, 110, 97, 114, 121]⟩⟩ 626) (Value.ref 328)), (DictEntry.mk (PyData.keyHash P ⟨⟨[97, 112, 112, 108, 121, 95, 102, 117, 110, 99, 116, 111, 114]⟩⟩) (Value.str ⟨⟨[97, 112, 112, 108, 121, 95, 102, 117, 110, 99, 116, 111, 114]⟩⟩ 640) (Value.ref 335)), (DictEntry.mk (PyData.keyHash P ⟨⟨[101, 118, 97, 108, 117, 97, 116, 101, 95, 116, 101, 114, 109]⟩⟩) (Value.str ⟨⟨[101, 118, 97, 108, 117, 97, 116, 101, 95, 116, 101, 114, 109]⟩⟩ 654) (Value.ref 342)), (DictEntry.mk (PyData.keyHash P ⟨⟨[95, 108, 97, 119, 95, 119, 104, 111, 108, 101]⟩⟩) (Value.str ⟨⟨[95, 108, 97, 119, 95, 119, 104, 111, 108, 101]⟩⟩ 664) (Value.ref 349)), (DictEntry.mk (PyData.keyHash P ⟨⟨[95, 108, 97, 119, 95, 116, 111, 108, 100]⟩⟩) (Value.str ⟨⟨[95, 108, 97, 119, 95, 116, 111, 108, 100]⟩⟩ 676) (Value.ref 356)), (DictEntry.mk (PyData.keyHash P ⟨⟨[95, 108, 97, 119, 95, 115, 105, 100, 101, 115]⟩⟩) (Value.str ⟨⟨[95, 108, 97, 119, 95, 115, 105, 100, 101, 115]⟩⟩ 683) (Value.ref 363)), (DictEntry.mk (PyData.keyHash P ⟨⟨[108, 97, 119]⟩⟩) (Value.str ⟨⟨[108, 97, 119]⟩⟩ 689) (Value.ref 368))]⟩ 51) ⟨[]⟩)
noncomputable def zo30 (P : Params) : Obj := (Obj.mk (Value.type W.SZ.s14018661285674007319x4) Option.none (Data.dict ⟨[(DictEntry.mk (PyData.keyHash P ⟨⟨[95, 95, 109, 111, 100, 117, 108, 101, 95, 95]⟩⟩) (Value.str ⟨⟨[95, 95, 109, 111, 100, 117, 108, 101, 95, 95]⟩⟩ 203) (Value.str ⟨⟨[99, 108, 97, 117, 115, 101, 109, 105, 108, 108, 46, 115, 121, 109, 98, 111, 108, 115]⟩⟩ 194)), (DictEntry.mk (PyData.keyHash P ⟨⟨[95, 95, 102, 105, 114, 115, 116, 108, 105, 110, 101, 110, 111, 95, 95]⟩⟩) (Value.str ⟨⟨[95, 95, 102, 105, 114, 115, 116, 108, 105, 110, 101, 110, 111, 95, 95]⟩⟩ 207) (Value.int 5 206)), (DictEntry.mk (PyData.keyHash P ⟨⟨[95, 95, 115, 116, 97, 116, 105, 99, 95, 97, 116, 116, 114, 105, 98, 117, 116, 101, 115, 95, 95]⟩⟩) (Value.str ⟨⟨[95, 95, 115, 116, 97, 116, 105, 99, 95, 97, 116, 116, 114, 105, 98, 117, 116, 101, 115, 95, 95]⟩⟩ 208) (Value.ref 29)), (DictEntry.mk (PyData.keyHash P ⟨⟨[95, 95, 119, 101, 97, 107, 114, 101, 102, 95, 95]⟩⟩) (Value.str ⟨⟨[95, 95, 119, 101, 97, 107, 114, 101, 102, 95, 95]⟩⟩ 210) (Value.ref 32)), (DictEntry.mk (PyData.keyHash P ⟨⟨[95, 95, 100, 111, 99, 95, 95]⟩⟩) (Value.str ⟨⟨[95, 95, 100, 111, 99, 95, 95]⟩⟩ 211) Value.none)]⟩ 3) ⟨[]⟩)
noncomputable def zo31 (P : Params) : Obj := (Obj.mk (Value.type W.SZ.s17162191345867700912x4) Option.none (Data.cls (ClassData.mk ⟨⟨[67, 108, 97, 117, 115, 101, 109, 105, 108, 108, 69, 114, 114, 111, 114]⟩⟩ [(Value.type W.SZ.s5946037652744460706x9)] [(Value.ref 31), (Value.type W.SZ.s5946037652744460706x9), (Value.type W.SZ.s4278001404047624695x13), (Value.type W.SZ.s2742458400755230247x6)] 30 ⟨⟨[67, 108, 97, 117, 115, 101, 109, 105, 108, 108, 69, 114, 114, 111, 114]⟩⟩ Bool.true [] [(Value.ref 51)] Bool.false Option.none Bool.false)) ⟨[(Option.some (Value.ref 22)), Option.none, (Option.some (Value.str ⟨⟨[67, 108, 97, 117, 115, 101, 109, 105, 108, 108, 69, 114, 114, 111, 114]⟩⟩ 196)), (Option.some (Value.str ⟨⟨[67, 108, 97, 117, 115, 101, 109, 105, 108, 108, 69, 114, 114, 111, 114]⟩⟩ 204)), (Option.some (Value.builtin W.SZ.s5160863994218179198x17)), (Option.some (Value.bool Bool.true))]⟩)
noncomputable def zo47 (P : Params) : Obj := (Obj.mk (Value.type W.SZ.s5856160107412720595x4) Option.none (Data.fields ⟨[(Value.str ⟨⟨[95, 95, 105, 110, 105, 116, 95, 95]⟩⟩ 228), (Value.str ⟨⟨[80, 114, 111, 108, 111, 103, 69, 114, 114, 111, 114, 46, 95, 95, 105, 110, 105, 116, 95, 95]⟩⟩ 229), (Value.str ⟨⟨[47, 99, 108, 97, 105, 109, 47, 99, 117, 116, 46, 112, 121]⟩⟩ 230), (Value.int 9 0), (Value.int 2 0), (Value.int 0 0), (Value.int 0 0), (Value.int 3 0), (Value.ref 42), (Value.bool Bool.true), (Value.int 181 0), (Value.ref 43), Value.none, (Value.ref 44), (Value.ref 45), (Value.ref 46), (Value.int 233 0), (Value.int 9 0), (Value.str ⟨⟨[47, 99, 108, 97, 105, 109, 47, 99, 117, 116, 46, 112, 121]⟩⟩ 234)]⟩) ⟨[]⟩)
noncomputable def zo48 : Obj := ⟨(Value.type W.SZ.s7174869446012820540x8), none, .func (mkF (stB 3 0) ⟨⟨[95, 95, 105, 110, 105, 116, 95, 95]⟩⟩ ⟨⟨[80, 114, 111, 108, 111, 103, 69, 114, 114, 111, 114, 46, 95, 95, 105, 110, 105, 116, 95, 95]⟩⟩ .none .none .none (.str ⟨⟨[99, 108, 97, 117, 115, 101, 109, 105, 108, 108, 46, 115, 121, 109, 98, 111, 108, 115]⟩⟩ 194) (.ref 47) .none 3 0), ⟨[]⟩⟩
noncomputable def zo50 (P : Params) : Obj := (Obj.mk (Value.type W.SZ.s14018661285674007319x4) Option.none (Data.dict ⟨[(DictEntry.mk (PyData.keyHash P ⟨⟨[95, 95, 109, 111, 100, 117, 108, 101, 95, 95]⟩⟩) (Value.str ⟨⟨[95, 95, 109, 111, 100, 117, 108, 101, 95, 95]⟩⟩ 223) (Value.str ⟨⟨[99, 108, 97, 117, 115, 101, 109, 105, 108, 108, 46, 115, 121, 109, 98, 111, 108, 115]⟩⟩ 194)), (DictEntry.mk (PyData.keyHash P ⟨⟨[95, 95, 102, 105, 114, 115, 116, 108, 105, 110, 101, 110, 111, 95, 95]⟩⟩) (Value.str ⟨⟨[95, 95, 102, 105, 114, 115, 116, 108, 105, 110, 101, 110, 111, 95, 95]⟩⟩ 227) (Value.int 7 226)), (DictEntry.mk (PyData.keyHash P ⟨⟨[95, 95, 105, 110, 105, 116, 95, 95]⟩⟩) (Value.str ⟨⟨[95, 95, 105, 110, 105, 116, 95, 95]⟩⟩ 235) (Value.ref 48)), (DictEntry.mk (PyData.keyHash P ⟨⟨[95, 95, 115, 116, 97, 116, 105, 99, 95, 97, 116, 116, 114, 105, 98, 117, 116, 101, 115, 95, 95]⟩⟩) (Value.str ⟨⟨[95, 95, 115, 116, 97, 116, 105, 99, 95, 97, 116, 116, 114, 105, 98, 117, 116, 101, 115, 95, 95]⟩⟩ 237) (Value.ref 49)), (DictEntry.mk (PyData.keyHash P ⟨⟨[95, 95, 100, 111, 99, 95, 95]⟩⟩) (Value.str ⟨⟨[95, 95, 100, 111, 99, 95, 95]⟩⟩ 238) Value.none)]⟩ 2) ⟨[]⟩)
noncomputable def zo51 (P : Params) : Obj := (Obj.mk (Value.type W.SZ.s17162191345867700912x4) Option.none (Data.cls (ClassData.mk ⟨⟨[80, 114, 111, 108, 111, 103, 69, 114, 114, 111, 114]⟩⟩ [(Value.ref 31)] [(Value.ref 51), (Value.ref 31), (Value.type W.SZ.s5946037652744460706x9), (Value.type W.SZ.s4278001404047624695x13), (Value.type W.SZ.s2742458400755230247x6)] 50 ⟨⟨[80, 114, 111, 108, 111, 103, 69, 114, 114, 111, 114]⟩⟩ Bool.true [] [] Bool.false Option.none Bool.false)) ⟨[(Option.some (Value.ref 35)), Option.none, (Option.some (Value.str ⟨⟨[80, 114, 111, 108, 111, 103, 69, 114, 114, 111, 114]⟩⟩ 216)), (Option.some (Value.str ⟨⟨[80, 114, 111, 108, 111, 103, 69, 114, 114, 111, 114]⟩⟩ 224)), (Option.some (Value.builtin W.SZ.s5160863994218179198x17)), (Option.some (Value.bool Bool.true))]⟩)
noncomputable def zo59 (P : Params) : Obj := (Obj.mk (Value.type W.SZ.s5856160107412720595x4) Option.none (Data.fields ⟨[(Value.str ⟨⟨[102, 105, 120, 101, 100, 95, 97, 116, 111, 109, 115]⟩⟩ 247), (Value.str ⟨⟨[102, 105, 120, 101, 100, 95, 97, 116, 111, 109, 115]⟩⟩ 248), (Value.str ⟨⟨[47, 99, 108, 97, 105, 109, 47, 99, 117, 116, 46, 112, 121]⟩⟩ 249), (Value.int 14 0), (Value.int 0 0), (Value.int 0 0), (Value.int 0 0), (Value.int 3 0), (Value.ref 54), (Value.bool Bool.true), (Value.int 181 0), (Value.ref 55), Value.none, (Value.ref 56), (Value.ref 57), (Value.ref 58), (Value.int 250 0), (Value.int 14 0), (Value.str ⟨⟨[47, 99, 108, 97, 105, 109, 47, 99, 117, 116, 46, 112, 121]⟩⟩ 251)]⟩) ⟨[]⟩)
noncomputable def zo60 : Obj := ⟨(Value.type W.SZ.s7174869446012820540x8), none, .func (mkF (stA 7) ⟨⟨[102, 105, 120, 101, 100, 95, 97, 116, 111, 109, 115]⟩⟩ ⟨⟨[102, 105, 120, 101, 100, 95, 97, 116, 111, 109, 115]⟩⟩ .none .none .none (.str ⟨⟨[99, 108, 97, 117, 115, 101, 109, 105, 108, 108, 46, 115, 121, 109, 98, 111, 108, 115]⟩⟩ 194) (.ref 59) .none 3 0), ⟨[]⟩⟩
noncomputable def zo66 (P : Params) : Obj := (Obj.mk (Value.type W.SZ.s5856160107412720595x4) Option.none (Data.fields ⟨[(Value.str ⟨⟨[102, 105, 120, 101, 100, 95, 102, 117, 110, 99, 116, 111, 114, 115]⟩⟩ 253), (Value.str ⟨⟨[102, 105, 120, 101, 100, 95, 102, 117, 110, 99, 116, 111, 114, 115]⟩⟩ 254), (Value.str ⟨⟨[47, 99, 108, 97, 105, 109, 47, 99, 117, 116, 46, 112, 121]⟩⟩ 255), (Value.int 16 0), (Value.int 0 0), (Value.int 0 0), (Value.int 0 0), (Value.int 3 0), (Value.ref 61), (Value.bool Bool.true), (Value.int 181 0), (Value.ref 62), Value.none, (Value.ref 63), (Value.ref 64), (Value.ref 65), (Value.int 256 0), (Value.int 16 0), (Value.str ⟨⟨[47, 99, 108, 97, 105, 109, 47, 99, 117, 116, 46, 112, 121]⟩⟩ 257)]⟩) ⟨[]⟩)
noncomputable def zo67 : Obj := ⟨(Value.type W.SZ.s7174869446012820540x8), none, .func (mkF (stA 8) ⟨⟨[102, 105, 120, 101, 100, 95, 102, 117, 110, 99, 116, 111, 114, 115]⟩⟩ ⟨⟨[102, 105, 120, 101, 100, 95, 102, 117, 110, 99, 116, 111, 114, 115]⟩⟩ .none .none .none (.str ⟨⟨[99, 108, 97, 117, 115, 101, 109, 105, 108, 108, 46, 115, 121, 109, 98, 111, 108, 115]⟩⟩ 194) (.ref 66) .none 3 0), ⟨[]⟩⟩
noncomputable def zo80 (P : Params) : Obj := (Obj.mk (Value.type W.SZ.s5856160107412720595x4) Option.none (Data.fields ⟨[(Value.str ⟨⟨[95, 95, 105, 110, 105, 116, 95, 95]⟩⟩ 271), (Value.str ⟨⟨[83, 121, 109, 98, 111, 108, 115, 46, 95, 95, 105, 110, 105, 116, 95, 95]⟩⟩ 272), (Value.str ⟨⟨[47, 99, 108, 97, 105, 109, 47, 99, 117, 116, 46, 112, 121]⟩⟩ 273), (Value.int 20 0), (Value.int 1 0), (Value.int 0 0), (Value.int 0 0), (Value.int 3 0), (Value.ref 75), (Value.bool Bool.true), (Value.int 181 0), (Value.ref 76), Value.none, (Value.ref 77), (Value.ref 78), (Value.ref 79), (Value.int 277 0), (Value.int 20 0), (Value.str ⟨⟨[47, 99, 108, 97, 105, 109, 47, 99, 117, 116, 46, 112, 121]⟩⟩ 278)]⟩) ⟨[]⟩)
noncomputable def zo81 : Obj := ⟨(Value.type W.SZ.s7174869446012820540x8), none, .func (mkF (stB 9 0) ⟨⟨[95, 95, 105, 110, 105, 116, 95, 95]⟩⟩ ⟨⟨[83, 121, 109, 98, 111, 108, 115, 46, 95, 95, 105, 110, 105, 116, 95, 95]⟩⟩ .none .none .none (.str ⟨⟨[99, 108, 97, 117, 115, 101, 109, 105, 108, 108, 46, 115, 121, 109, 98, 111, 108, 115]⟩⟩ 194) (.ref 80) .none 3 0), ⟨[]⟩⟩
noncomputable def zo87 (P : Params) : Obj := (Obj.mk (Value.type W.SZ.s5856160107412720595x4) Option.none (Data.fields ⟨[(Value.str ⟨⟨[97, 116, 111, 109]⟩⟩ 280), (Value.str ⟨⟨[83, 121, 109, 98, 111, 108, 115, 46, 97, 116, 111, 109]⟩⟩ 281), (Value.str ⟨⟨[47, 99, 108, 97, 105, 109, 47, 99, 117, 116, 46, 112, 121]⟩⟩ 282), (Value.int 30 0), (Value.int 2 0), (Value.int 0 0), (Value.int 0 0), (Value.int 3 0), (Value.ref 82), (Value.bool Bool.true), (Value.int 181 0), (Value.ref 83), Value.none, (Value.ref 84), (Value.ref 85), (Value.ref 86), (Value.int 287 0), (Value.int 30 0), (Value.str ⟨⟨[47, 99, 108, 97, 105, 109, 47, 99, 117, 116, 46, 112, 121]⟩⟩ 288)]⟩) ⟨[]⟩)
noncomputable def zo88 : Obj := ⟨(Value.type W.SZ.s7174869446012820540x8), none, .func (mkF (stB 9 1) ⟨⟨[97, 116, 111, 109]⟩⟩ ⟨⟨[83, 121, 109, 98, 111, 108, 115, 46, 97, 116, 111, 109]⟩⟩ .none .none .none (.str ⟨⟨[99, 108, 97, 117, 115, 101, 109, 105, 108, 108, 46, 115, 121, 109, 98, 111, 108, 115]⟩⟩ 194) (.ref 87) .none 3 0), ⟨[]⟩⟩
noncomputable def zo94 (P : Params) : Obj := (Obj.mk (Value.type W.SZ.s5856160107412720595x4) Option.none (Data.fields ⟨[(Value.str ⟨⟨[116, 101, 120, 116]⟩⟩ 290), (Value.str ⟨⟨[83, 121, 109, 98, 111, 108, 115, 46, 116, 101, 120, 116]⟩⟩ 291), (Value.str ⟨⟨[47, 99, 108, 97, 105, 109, 47, 99, 117, 116, 46, 112, 121]⟩⟩ 292), (Value.int 39 0), (Value.int 2 0), (Value.int 0 0), (Value.int 0 0), (Value.int 3 0), (Value.ref 89), (Value.bool Bool.true), (Value.int 181 0), (Value.ref 90), Value.none, (Value.ref 91), (Value.ref 92), (Value.ref 93), (Value.int 295 0), (Value.int 39 0), (Value.str ⟨⟨[47, 99, 108, 97, 105, 109, 47, 99, 117, 116, 46, 112, 121]⟩⟩ 296)]⟩) ⟨[]⟩)
noncomputable def zo95 : Obj := ⟨(Value.type W.SZ.s7174869446012820540x8), none, .func (mkF (stB 9 2) ⟨⟨[116, 101, 120, 116]⟩⟩ ⟨⟨[83, 121, 109, 98, 111, 108, 115, 46, 116, 101, 120, 116]⟩⟩ .none .none .none (.str ⟨⟨[99, 108, 97, 117, 115, 101, 109, 105, 108, 108, 46, 115, 121, 109, 98, 111, 108, 115]⟩⟩ 194) (.ref 94) .none 3 0), ⟨[]⟩⟩
noncomputable def zo101 (P : Params) : Obj := (Obj.mk (Value.type W.SZ.s5856160107412720595x4) Option.none (Data.fields ⟨[(Value.str ⟨⟨[102, 117, 110, 99, 116, 111, 114]⟩⟩ 298), (Value.str ⟨⟨[83, 121, 109, 98, 111, 108, 115, 46, 102, 117, 110, 99, 116, 111, 114]⟩⟩ 299), (Value.str ⟨⟨[47, 99, 108, 97, 105, 109, 47, 99, 117, 116, 46, 112, 121]⟩⟩ 300), (Value.int 42 0), (Value.int 3 0), (Value.int 0 0), (Value.int 0 0), (Value.int 3 0), (Value.ref 96), (Value.bool Bool.true), (Value.int 181 0), (Value.ref 97), Value.none, (Value.ref 98), (Value.ref 99), (Value.ref 100), (Value.int 307 0), (Value.int 42 0), (Value.str ⟨⟨[47, 99, 108, 97, 105, 109, 47, 99, 117, 116, 46, 112, 121]⟩⟩ 308)]⟩) ⟨[]⟩)
noncomputable def zo102 : Obj := ⟨(Value.type W.SZ.s7174869446012820540x8), none, .func (mkF (stB 9 3) ⟨⟨[102, 117, 110, 99, 116, 111, 114]⟩⟩ ⟨⟨[83, 121, 109, 98, 111, 108, 115, 46, 102, 117, 110, 99, 116, 111, 114]⟩⟩ .none .none .none (.str ⟨⟨[99, 108, 97, 117, 115, 101, 109, 105, 108, 108, 46, 115, 121, 109, 98, 111, 108, 115]⟩⟩ 194) (.ref 101) .none 3 0), ⟨[]⟩⟩
noncomputable def zo108 (P : Params) : Obj := (Obj.mk (Value.type W.SZ.s5856160107412720595x4) Option.none (Data.fields ⟨[(Value.str ⟨⟨[102, 117, 110, 99]⟩⟩ 310), (Value.str ⟨⟨[83, 121, 109, 98, 111, 108, 115, 46, 102, 117, 110, 99]⟩⟩ 311), (Value.str ⟨⟨[47, 99, 108, 97, 105, 109, 47, 99, 117, 116, 46, 112, 121]⟩⟩ 312), (Value.int 52 0), (Value.int 3 0), (Value.int 0 0), (Value.int 0 0), (Value.int 3 0), (Value.ref 103), (Value.bool Bool.true), (Value.int 181 0), (Value.ref 104), Value.none, (Value.ref 105), (Value.ref 106), (Value.ref 107), (Value.int 316 0), (Value.int 52 0), (Value.str ⟨⟨[47, 99, 108, 97, 105, 109, 47, 99, 117, 116, 46, 112, 121]⟩⟩ 317)]⟩) ⟨[]⟩)
noncomputable def zo109 : Obj := ⟨(Value.type W.SZ.s7174869446012820540x8), none, .func (mkF (stB 9 4) ⟨⟨[102, 117, 110, 99]⟩⟩ ⟨⟨[83, 121, 109, 98, 111, 108, 115, 46, 102, 117, 110, 99]⟩⟩ .none .none .none (.str ⟨⟨[99, 108, 97, 117, 115, 101, 109, 105, 108, 108, 46, 115, 121, 109, 98, 111, 108, 115]⟩⟩ 194) (.ref 108) .none 3 0), ⟨[]⟩⟩
noncomputable def zo115 (P : Params) : Obj := (Obj.mk (Value.type W.SZ.s5856160107412720595x4) Option.none (Data.fields ⟨[(Value.str ⟨⟨[110, 97, 109, 101]⟩⟩ 319), (Value.str ⟨⟨[83, 121, 109, 98, 111, 108, 115, 46, 110, 97, 109, 101]⟩⟩ 320), (Value.str ⟨⟨[47, 99, 108, 97, 105, 109, 47, 99, 117, 116, 46, 112, 121]⟩⟩ 321), (Value.int 55 0), (Value.int 2 0), (Value.int 0 0), (Value.int 0 0), (Value.int 3 0), (Value.ref 110), (Value.bool Bool.true), (Value.int 181 0), (Value.ref 111), Value.none, (Value.ref 112), (Value.ref 113), (Value.ref 114), (Value.int 324 0), (Value.int 55 0), (Value.str ⟨⟨[47, 99, 108, 97, 105, 109, 47, 99, 117, 116, 46, 112, 121]⟩⟩ 325)]⟩) ⟨[]⟩)
noncomputable def zo116 : Obj := ⟨(Value.type W.SZ.s7174869446012820540x8), none, .func (mkF (stB 9 5) ⟨⟨[110, 97, 109, 101]⟩⟩ ⟨⟨[83, 121, 109, 98, 111, 108, 115, 46, 110, 97, 109, 101]⟩⟩ .none .none .none (.str ⟨⟨[99, 108, 97, 117, 115, 101, 109, 105, 108, 108, 46, 115, 121, 109, 98, 111, 108, 115]⟩⟩ 194) (.ref 115) .none 3 0), ⟨[]⟩⟩
noncomputable def zo122 (P : Params) : Obj := (Obj.mk (Value.type W.SZ.s5856160107412720595x4) Option.none (Data.fields ⟨[(Value.str ⟨⟨[97, 114, 105, 116, 121]⟩⟩ 327), (Value.str ⟨⟨[83, 121, 109, 98, 111, 108, 115, 46, 97, 114, 105, 116, 121]⟩⟩ 328), (Value.str ⟨⟨[47, 99, 108, 97, 105, 109, 47, 99, 117, 116, 46, 112, 121]⟩⟩ 329), (Value.int 58 0), (Value.int 2 0), (Value.int 0 0), (Value.int 0 0), (Value.int 3 0), (Value.ref 117), (Value.bool Bool.true), (Value.int 181 0), (Value.ref 118), Value.none, (Value.ref 119), (Value.ref 120), (Value.ref 121), (Value.int 332 0), (Value.int 58 0), (Value.str ⟨⟨[47, 99, 108, 97, 105, 109, 47, 99, 117, 116, 46, 112, 121]⟩⟩ 333)]⟩) ⟨[]⟩)
noncomputable def zo123 : Obj := ⟨(Value.type W.SZ.s7174869446012820540x8), none, .func (mkF (stB 9 6) ⟨⟨[97, 114, 105, 116, 121]⟩⟩ ⟨⟨[83, 121, 109, 98, 111, 108, 115, 46, 97, 114, 105, 116, 121]⟩⟩ .none .none .none (.str ⟨⟨[99, 108, 97, 117, 115, 101, 109, 105, 108, 108, 46, 115, 121, 109, 98, 111, 108, 115]⟩⟩ 194) (.ref 122) .none 3 0), ⟨[]⟩⟩
noncomputable def zo153 (P : Params) : Obj := (Obj.mk (Value.type W.SZ.s14018661285674007319x4) Option.none (Data.dict ⟨[(DictEntry.mk (PyData.keyHash P ⟨⟨[95, 95, 109, 111, 100, 117, 108, 101, 95, 95]⟩⟩) (Value.str ⟨⟨[95, 95, 109, 111, 100, 117, 108, 101, 95, 95]⟩⟩ 266) (Value.str ⟨⟨[99, 108, 97, 117, 115, 101, 109, 105, 108, 108, 46, 115, 121, 109, 98, 111, 108, 115]⟩⟩ 194)), (DictEntry.mk (PyData.keyHash P ⟨⟨[95, 95, 102, 105, 114, 115, 116, 108, 105, 110, 101, 110, 111, 95, 95]⟩⟩) (Value.str ⟨⟨[95, 95, 102, 105, 114, 115, 116, 108, 105, 110, 101, 110, 111, 95, 95]⟩⟩ 270) (Value.int 18 269)), (DictEntry.mk (PyData.keyHash P ⟨⟨[95, 95, 105, 110, 105, 116, 95, 95]⟩⟩) (Value.str ⟨⟨[95, 95, 105, 110, 105, 116, 95, 95]⟩⟩ 279) (Value.ref 81)), (DictEntry.mk (PyData.keyHash P ⟨⟨[97, 116, 111, 109]⟩⟩) (Value.str ⟨⟨[97, 116, 111, 109]⟩⟩ 289) (Value.ref 88)), (DictEntry.mk (PyData.keyHash P ⟨⟨[116, 101, 120, 116]⟩⟩) (Value.str ⟨⟨[116, 101, 120, 116]⟩⟩ 297) (Value.ref 95)), (DictEntry.mk (PyData.keyHash P ⟨⟨[102, 117, 110, 99, 116, 111, 114]⟩⟩) (Value.str ⟨⟨[102, 117, 110, 99, 116, 111, 114]⟩⟩ 309) (Value.ref 102)), (DictEntry.mk (PyData.keyHash P ⟨⟨[102, 117, 110, 99]⟩⟩) (Value.str ⟨⟨[102, 117, 110, 99]⟩⟩ 318) (Value.ref 109)), (DictEntry.mk (PyData.keyHash P ⟨⟨[110, 97, 109, 101]⟩⟩) (Value.str ⟨⟨[110, 97, 109, 101]⟩⟩ 326) (Value.ref 116)), (DictEntry.mk (PyData.keyHash P ⟨⟨[97, 114, 105, 116, 121]⟩⟩) (Value.str ⟨⟨[97, 114, 105, 116, 121]⟩⟩ 334) (Value.ref 123)), (DictEntry.mk (PyData.keyHash P ⟨⟨[108, 97, 98, 101, 108]⟩⟩) (Value.str ⟨⟨[108, 97, 98, 101, 108]⟩⟩ 342) (Value.ref 130)), (DictEntry.mk (PyData.keyHash P ⟨⟨[99, 111, 117, 110, 116]⟩⟩) (Value.str ⟨⟨[99, 111, 117, 110, 116]⟩⟩ 349) (Value.ref 137)), (DictEntry.mk (PyData.keyHash P ⟨⟨[102, 117, 110, 99, 116, 111, 114, 95, 99, 111, 117, 110, 116]⟩⟩) (Value.str ⟨⟨[102, 117, 110, 99, 116, 111, 114, 95, 99, 111, 117, 110, 116]⟩⟩ 356) (Value.ref 144)), (DictEntry.mk (PyData.keyHash P ⟨⟨[107, 110, 111, 119, 110]⟩⟩) (Value.str ⟨⟨[107, 110, 111, 119, 110]⟩⟩ 365) (Value.ref 151)), (DictEntry.mk (PyData.keyHash P ⟨⟨[95, 95, 115, 116, 97, 116, 105, 99, 95, 97, 116, 116, 114, 105, 98, 117, 116, 101, 115, 95, 95]⟩⟩) (Value.str ⟨⟨[95, 95, 115, 116, 97, 116, 105, 99, 95, 97, 116, 116, 114, 105, 98, 117, 116, 101, 115, 95, 95]⟩⟩ 370) (Value.ref 152)), (DictEntry.mk (PyData.keyHash P ⟨⟨[95, 95, 100, 105, 99, 116, 95, 95]⟩⟩) (Value.str ⟨⟨[95, 95, 100, 105, 99, 116, 95, 95]⟩⟩ 372) (Value.ref 155)), (DictEntry.mk (PyData.keyHash P ⟨⟨[95, 95, 119, 101, 97, 107, 114, 101, 102, 95, 95]⟩⟩) (Value.str ⟨⟨[95, 95, 119, 101, 97, 107, 114, 101, 102, 95, 95]⟩⟩ 374) (Value.ref 156)), (DictEntry.mk (PyData.keyHash P ⟨⟨[95, 95, 100, 111, 99, 95, 95]⟩⟩) (Value.str ⟨⟨[95, 95, 100, 111, 99, 95, 95]⟩⟩ 375) Value.none)]⟩ 4) ⟨[]⟩)
noncomputable def zo154 (P : Params) : Obj := (Obj.mk (Value.type W.SZ.s17162191345867700912x4) Option.none (Data.cls (ClassData.mk ⟨⟨[83, 121, 109, 98, 111, 108, 115]⟩⟩ [(Value.type W.SZ.s2742458400755230247x6)] [(Value.ref 154), (Value.type W.SZ.s2742458400755230247x6)] 153 ⟨⟨[83, 121, 109, 98, 111, 108, 115]⟩⟩ Bool.true [] [] Bool.false Option.none Bool.false)) ⟨[Option.none, Option.none, (Option.some (Value.str ⟨⟨[83, 121, 109, 98, 111, 108, 115]⟩⟩ 259)), (Option.some (Value.str ⟨⟨[83, 121, 109, 98, 111, 108, 115]⟩⟩ 267)), (Option.some (Value.builtin W.SZ.s11443829558043349243x14)), (Option.some (Value.bool Bool.true))]⟩)
noncomputable def zo185 (P : Params) : Obj := (Obj.mk (Value.type W.SZ.s5856160107412720595x4) Option.none (Data.fields ⟨[(Value.str ⟨⟨[115, 121, 115, 116, 101, 109, 95, 101, 114, 114, 111, 114]⟩⟩ 402), (Value.str ⟨⟨[115, 121, 115, 116, 101, 109, 95, 101, 114, 114, 111, 114]⟩⟩ 403), (Value.str ⟨⟨[47, 99, 108, 97, 105, 109, 47, 99, 117, 116, 46, 112, 121]⟩⟩ 404), (Value.int 79 0), (Value.int 1 0), (Value.int 0 0), (Value.int 0 0), (Value.int 3 0), (Value.ref 180), (Value.bool Bool.true), (Value.int 181 0), (Value.ref 181), Value.none, (Value.ref 182), (Value.ref 183), (Value.ref 184), (Value.int 406 0), (Value.int 79 0), (Value.str ⟨⟨[47, 99, 108, 97, 105, 109, 47, 99, 117, 116, 46, 112, 121]⟩⟩ 407)]⟩) ⟨[]⟩)
noncomputable def zo186 : Obj := ⟨(Value.type W.SZ.s7174869446012820540x8), none, .func (mkF (stA 14) ⟨⟨[115, 121, 115, 116, 101, 109, 95, 101, 114, 114, 111, 114]⟩⟩ ⟨⟨[115, 121, 115, 116, 101, 109, 95, 101, 114, 114, 111, 114]⟩⟩ .none .none .none (.str ⟨⟨[99, 108, 97, 117, 115, 101, 109, 105, 108, 108, 46, 116, 101, 114, 109, 115]⟩⟩ 378) (.ref 185) .none 3 0), ⟨[]⟩⟩
noncomputable def zo192 (P : Params) : Obj := (Obj.mk (Value.type W.SZ.s5856160107412720595x4) Option.none (Data.fields ⟨[(Value.str ⟨⟨[102, 111, 114, 109, 97, 108, 95, 111, 102]⟩⟩ 409), (Value.str ⟨⟨[102, 111, 114, 109, 97, 108, 95, 111, 102]⟩⟩ 410), (Value.str ⟨⟨[47, 99, 108, 97, 105, 109, 47, 99, 117, 116, 46, 112, 121]⟩⟩ 411), (Value.int 81 0), (Value.int 3 0), (Value.int 0 0), (Value.int 0 0), (Value.int 3 0), (Value.ref 187), (Value.bool Bool.true), (Value.int 181 0), (Value.ref 188), Value.none, (Value.ref 189), (Value.ref 190), (Value.ref 191), (Value.int 417 0), (Value.int 81 0), (Value.str ⟨⟨[47, 99, 108, 97, 105, 109, 47, 99, 117, 116, 46, 112, 121]⟩⟩ 418)]⟩) ⟨[]⟩)
noncomputable def zo193 : Obj := ⟨(Value.type W.SZ.s7174869446012820540x8), none, .func (mkF (stA 15) ⟨⟨[102, 111, 114, 109, 97, 108, 95, 111, 102]⟩⟩ ⟨⟨[102, 111, 114, 109, 97, 108, 95, 111, 102]⟩⟩ .none .none .none (.str ⟨⟨[99, 108, 97, 117, 115, 101, 109, 105, 108, 108, 46, 116, 101, 114, 109, 115]⟩⟩ 378) (.ref 192) .none 3 0), ⟨[]⟩⟩
noncomputable def zo213 (P : Params) : Obj := (Obj.mk (Value.type W.SZ.s5856160107412720595x4) Option.none (Data.fields ⟨[(Value.str ⟨⟨[101, 118, 97, 108, 117, 97, 116, 105, 111, 110, 95, 101, 114, 114, 111, 114]⟩⟩ 436), (Value.str ⟨⟨[101, 118, 97, 108, 117, 97, 116, 105, 111, 110, 95, 101, 114, 114, 111, 114]⟩⟩ 437), (Value.str ⟨⟨[47, 99, 108, 97, 105, 109, 47, 99, 117, 116, 46, 112, 121]⟩⟩ 438), (Value.int 90 0), (Value.int 2 0), (Value.int 0 0), (Value.int 0 0), (Value.int 3 0), (Value.ref 208), (Value.bool Bool.true), (Value.int 181 0), (Value.ref 209), Value.none, (Value.ref 210), (Value.ref 211), (Value.ref 212), (Value.int 441 0), (Value.int 90 0), (Value.str ⟨⟨[47, 99, 108, 97, 105, 109, 47, 99, 117, 116, 46, 112, 121]⟩⟩ 442)]⟩) ⟨[]⟩)
noncomputable def zo214 : Obj := ⟨(Value.type W.SZ.s7174869446012820540x8), none, .func (mkF (stA 18) ⟨⟨[101, 118, 97, 108, 117, 97, 116, 105, 111, 110, 95, 101, 114, 114, 111, 114]⟩⟩ ⟨⟨[101, 118, 97, 108, 117, 97, 116, 105, 111, 110, 95, 101, 114, 114, 111, 114]⟩⟩ .none .none .none (.str ⟨⟨[99, 108, 97, 117, 115, 101, 109, 105, 108, 108, 46, 116, 101, 114, 109, 115]⟩⟩ 378) (.ref 213) .none 3 0), ⟨[]⟩⟩
noncomputable def zo223 (P : Params) : Obj := (Obj.mk (Value.type W.SZ.s2766695959194262286x5) Option.none (Data.seq ⟨[(Value.str ⟨⟨[43]⟩⟩ 466), (Value.str ⟨⟨[45]⟩⟩ 467), (Value.str ⟨⟨[42]⟩⟩ 468), (Value.str ⟨⟨[47, 47]⟩⟩ 469), (Value.str ⟨⟨[114, 101, 109]⟩⟩ 470), (Value.str ⟨⟨[109, 111, 100]⟩⟩ 471), (Value.str ⟨⟨[100, 105, 118]⟩⟩ 472), (Value.str ⟨⟨[109, 105, 110]⟩⟩ 473), (Value.str ⟨⟨[109, 97, 120]⟩⟩ 474), (Value.str ⟨⟨[103, 99, 100]⟩⟩ 475), (Value.str ⟨⟨[62, 62]⟩⟩ 476), (Value.str ⟨⟨[60, 60]⟩⟩ 477), (Value.str ⟨⟨[47, 92]⟩⟩ 478), (Value.str ⟨⟨[92, 47]⟩⟩ 479), (Value.str ⟨⟨[120, 111, 114]⟩⟩ 480), (Value.str ⟨⟨[94]⟩⟩ 481), (Value.str ⟨⟨[42, 42]⟩⟩ 482), (Value.str ⟨⟨[112, 108, 117, 115]⟩⟩ 483)]⟩ 0) ⟨[]⟩)
noncomputable def zo236 (P : Params) : Obj := (Obj.mk (Value.type W.SZ.s5856160107412720595x4) Option.none (Data.fields ⟨[(Value.str ⟨⟨[105, 115, 95, 101, 118, 97, 108, 117, 97, 98, 108, 101]⟩⟩ 497), (Value.str ⟨⟨[105, 115, 95, 101, 118, 97, 108, 117, 97, 98, 108, 101]⟩⟩ 498), (Value.str ⟨⟨[47, 99, 108, 97, 105, 109, 47, 99, 117, 116, 46, 112, 121]⟩⟩ 499), (Value.int 101 0), (Value.int 2 0), (Value.int 0 0), (Value.int 0 0), (Value.int 3 0), (Value.ref 231), (Value.bool Bool.true), (Value.int 181 0), (Value.ref 232), Value.none, (Value.ref 233), (Value.ref 234), (Value.ref 235), (Value.int 502 0), (Value.int 101 0), (Value.str ⟨⟨[47, 99, 108, 97, 105, 109, 47, 99, 117, 116, 46, 112, 121]⟩⟩ 503)]⟩) ⟨[]⟩)
noncomputable def zo237 : Obj := ⟨(Value.type W.SZ.s7174869446012820540x8), none, .func (mkF (stA 25) ⟨⟨[105, 115, 95, 101, 118, 97, 108, 117, 97, 98, 108, 101]⟩⟩ ⟨⟨[105, 115, 95, 101, 118, 97, 108, 117, 97, 98, 108, 101]⟩⟩ .none .none .none (.str ⟨⟨[99, 108, 97, 117, 115, 101, 109, 105, 108, 108, 46, 97, 114, 105, 116, 104]⟩⟩ 452) (.ref 236) .none 3 0), ⟨[]⟩⟩
noncomputable def zo243 (P : Params) : Obj := (Obj.mk (Value.type W.SZ.s5856160107412720595x4) Option.none (Data.fields ⟨[(Value.str ⟨⟨[99, 104, 101, 99, 107, 95, 101, 118, 97, 108, 117, 97, 98, 108, 101]⟩⟩ 505), (Value.str ⟨⟨[99, 104, 101, 99, 107, 95, 101, 118, 97, 108, 117, 97, 98, 108, 101]⟩⟩ 506), (Value.str ⟨⟨[47, 99, 108, 97, 105, 109, 47, 99, 117, 116, 46, 112, 121]⟩⟩ 507), (Value.int 107 0), (Value.int 2 0), (Value.int 0 0), (Value.int 0 0), (Value.int 3 0), (Value.ref 238), (Value.bool Bool.true), (Value.int 181 0), (Value.ref 239), Value.none, (Value.ref 240), (Value.ref 241), (Value.ref 242), (Value.int 512 0), (Value.int 107 0), (Value.str ⟨⟨[47, 99, 108, 97, 105, 109, 47, 99, 117, 116, 46, 112, 121]⟩⟩ 513)]⟩) ⟨[]⟩)
noncomputable def zo244 : Obj := ⟨(Value.type W.SZ.s7174869446012820540x8), none, .func (mkF (stA 26) ⟨⟨[99, 104, 101, 99, 107, 95, 101, 118, 97, 108, 117, 97, 98, 108, 101]⟩⟩ ⟨⟨[99, 104, 101, 99, 107, 95, 101, 118, 97, 108, 117, 97, 98, 108, 101]⟩⟩ .none .none .none (.str ⟨⟨[99, 108, 97, 117, 115, 101, 109, 105, 108, 108, 46, 97, 114, 105, 116, 104]⟩⟩ 452) (.ref 243) .none 3 0), ⟨[]⟩⟩
noncomputable def zo250 (P : Params) : Obj := (Obj.mk (Value.type W.SZ.s5856160107412720595x4) Option.none (Data.fields ⟨[(Value.str ⟨⟨[99, 104, 101, 99, 107, 95, 115, 105, 122, 101]⟩⟩ 515), (Value.str ⟨⟨[99, 104, 101, 99, 107, 95, 115, 105, 122, 101]⟩⟩ 516), (Value.str ⟨⟨[47, 99, 108, 97, 105, 109, 47, 99, 117, 116, 46, 112, 121]⟩⟩ 517), (Value.int 112 0), (Value.int 3 0), (Value.int 0 0), (Value.int 0 0), (Value.int 3 0), (Value.ref 245), (Value.bool Bool.true), (Value.int 181 0), (Value.ref 246), Value.none, (Value.ref 247), (Value.ref 248), (Value.ref 249), (Value.int 521 0), (Value.int 112 0), (Value.str ⟨⟨[47, 99, 108, 97, 105, 109, 47, 99, 117, 116, 46, 112, 121]⟩⟩ 522)]⟩) ⟨[]⟩)
noncomputable def zo251 : Obj := ⟨(Value.type W.SZ.s7174869446012820540x8), none, .func (mkF (stA 27) ⟨⟨[99, 104, 101, 99, 107, 95, 115, 105, 122, 101]⟩⟩ ⟨⟨[99, 104, 101, 99, 107, 95, 115, 105, 122, 101]⟩⟩ .none .none .none (.str ⟨⟨[99, 108, 97, 117, 115, 101, 109, 105, 108, 108, 46, 97, 114, 105, 116, 104]⟩⟩ 452) (.ref 250) .none 3 0), ⟨[]⟩⟩
noncomputable def zo257 (P : Params) : Obj := (Obj.mk (Value.type W.SZ.s5856160107412720595x4) Option.none (Data.fields ⟨[(Value.str ⟨⟨[100, 105, 118, 105, 100, 101, 95, 116, 111, 119, 97, 114, 100, 95, 122, 101, 114, 111]⟩⟩ 524), (Value.str ⟨⟨[100, 105, 118, 105, 100, 101, 95, 116, 111, 119, 97, 114, 100, 95, 122, 101, 114, 111]⟩⟩ 525), (Value.str ⟨⟨[47, 99, 108, 97, 105, 109, 47, 99, 117, 116, 46, 112, 121]⟩⟩ 526), (Value.int 116 0), (Value.int 2 0), (Value.int 0 0), (Value.int 0 0), (Value.int 3 0), (Value.ref 252), (Value.bool Bool.true), (Value.int 181 0), (Value.ref 253), Value.none, (Value.ref 254), (Value.ref 255), (Value.ref 256), (Value.int 530 0), (Value.int 116 0), (Value.str ⟨⟨[47, 99, 108, 97, 105, 109, 47, 99, 117, 116, 46, 112, 121]⟩⟩ 531)]⟩) ⟨[]⟩)
noncomputable def zo258 : Obj := ⟨(Value.type W.SZ.s7174869446012820540x8), none, .func (mkF (stA 28) ⟨⟨[100, 105, 118, 105, 100, 101, 95, 116, 111, 119, 97, 114, 100, 95, 122, 101, 114, 111]⟩⟩ ⟨⟨[100, 105, 118, 105, 100, 101, 95, 116, 111, 119, 97, 114, 100, 95, 122, 101, 114, 111]⟩⟩ .none .none .none (.str ⟨⟨[99, 108, 97, 117, 115, 101, 109, 105, 108, 108, 46, 97, 114, 105, 116, 104]⟩⟩ 452) (.ref 257) .none 3 0), ⟨[]⟩⟩
noncomputable def zo264 (P : Params) : Obj := (Obj.mk (Value.type W.SZ.s5856160107412720595x4) Option.none (Data.fields ⟨[(Value.str ⟨⟨[114, 101, 109, 97, 105, 110, 100, 101, 114]⟩⟩ 533), (Value.str ⟨⟨[114, 101, 109, 97, 105, 110, 100, 101, 114]⟩⟩ 534), (Value.str ⟨⟨[47, 99, 108, 97, 105, 109, 47, 99, 117, 116, 46, 112, 121]⟩⟩ 535), (Value.int 121 0), (Value.int 2 0), (Value.int 0 0), (Value.int 0 0), (Value.int 3 0), (Value.ref 259), (Value.bool Bool.true), (Value.int 181 0), (Value.ref 260), Value.none, (Value.ref 261), (Value.ref 262), (Value.ref 263), (Value.int 538 0), (Value.int 121 0), (Value.str ⟨⟨[47, 99, 108, 97, 105, 109, 47, 99, 117, 116, 46, 112, 121]⟩⟩ 539)]⟩) ⟨[]⟩)
noncomputable def zo265 : Obj := ⟨(Value.type W.SZ.s7174869446012820540x8), none, .func (mkF (stA 29) ⟨⟨[114, 101, 109, 97, 105, 110, 100, 101, 114]⟩⟩ ⟨⟨[114, 101, 109, 97, 105, 110, 100, 101, 114]⟩⟩ .none .none .none (.str ⟨⟨[99, 108, 97, 117, 115, 101, 109, 105, 108, 108, 46, 97, 114, 105, 116, 104]⟩⟩ 452) (.ref 264) .none 3 0), ⟨[]⟩⟩
noncomputable def zo271 (P : Params) : Obj := (Obj.mk (Value.type W.SZ.s5856160107412720595x4) Option.none (Data.fields ⟨[(Value.str ⟨⟨[103, 114, 101, 97, 116, 101, 115, 116, 95, 100, 105, 118, 105, 115, 111, 114]⟩⟩ 541), (Value.str ⟨⟨[103, 114, 101, 97, 116, 101, 115, 116, 95, 100, 105, 118, 105, 115, 111, 114]⟩⟩ 542), (Value.str ⟨⟨[47, 99, 108, 97, 105, 109, 47, 99, 117, 116, 46, 112, 121]⟩⟩ 543), (Value.int 123 0), (Value.int 2 0), (Value.int 0 0), (Value.int 0 0), (Value.int 3 0), (Value.ref 266), (Value.bool Bool.true), (Value.int 181 0), (Value.ref 267), Value.none, (Value.ref 268), (Value.ref 269), (Value.ref 270), (Value.int 546 0), (Value.int 123 0), (Value.str ⟨⟨[47, 99, 108, 97, 105, 109, 47, 99, 117, 116, 46, 112, 121]⟩⟩ 547)]⟩) ⟨[]⟩)
noncomputable def zo272 : Obj := ⟨(Value.type W.SZ.s7174869446012820540x8), none, .func (mkF (stA 30) ⟨⟨[103, 114, 101, 97, 116, 101, 115, 116, 95, 100, 105, 118, 105, 115, 111, 114]⟩⟩ ⟨⟨[103, 114, 101, 97, 116, 101, 115, 116, 95, 100, 105, 118, 105, 115, 111, 114]⟩⟩ .none .none .none (.str ⟨⟨[99, 108, 97, 117, 115, 101, 109, 105, 108, 108, 46, 97, 114, 105, 116, 104]⟩⟩ 452) (.ref 271) .none 3 0), ⟨[]⟩⟩
noncomputable def zo313 (P : Params) : Obj := (Obj.mk (Value.type W.SZ.s5856160107412720595x4) Option.none (Data.fields ⟨[(Value.str ⟨⟨[97, 112, 112, 108, 121, 95, 100, 105, 118, 105, 115, 105, 111, 110]⟩⟩ 595), (Value.str ⟨⟨[97, 112, 112, 108, 121, 95, 100, 105, 118, 105, 115, 105, 111, 110]⟩⟩ 596), (Value.str ⟨⟨[47, 99, 108, 97, 105, 109, 47, 99, 117, 116, 46, 112, 121]⟩⟩ 597), (Value.int 183 0), (Value.int 4 0), (Value.int 0 0), (Value.int 0 0), (Value.int 3 0), (Value.ref 308), (Value.bool Bool.true), (Value.int 181 0), (Value.ref 309), Value.none, (Value.ref 310), (Value.ref 311), (Value.ref 312), (Value.int 602 0), (Value.int 183 0), (Value.str ⟨⟨[47, 99, 108, 97, 105, 109, 47, 99, 117, 116, 46, 112, 121]⟩⟩ 603)]⟩) ⟨[]⟩)
noncomputable def zo314 : Obj := ⟨(Value.type W.SZ.s7174869446012820540x8), none, .func (mkF (stA 36) ⟨⟨[97, 112, 112, 108, 121, 95, 100, 105, 118, 105, 115, 105, 111, 110]⟩⟩ ⟨⟨[97, 112, 112, 108, 121, 95, 100, 105, 118, 105, 115, 105, 111, 110]⟩⟩ .none .none .none (.str ⟨⟨[99, 108, 97, 117, 115, 101, 109, 105, 108, 108, 46, 97, 114, 105, 116, 104]⟩⟩ 452) (.ref 313) .none 3 0), ⟨[]⟩⟩
noncomputable def zo327 (P : Params) : Obj := (Obj.mk (Value.type W.SZ.s5856160107412720595x4) Option.none (Data.fields ⟨[(Value.str ⟨⟨[97, 112, 112, 108, 121, 95, 98, 105, 110, 97, 114, 121]⟩⟩ 616), (Value.str ⟨⟨[97, 112, 112, 108, 121, 95, 98, 105, 110, 97, 114, 121]⟩⟩ 617), (Value.str ⟨⟨[47, 99, 108, 97, 105, 109, 47, 99, 117, 116, 46, 112, 121]⟩⟩ 618), (Value.int 203 0), (Value.int 5 0), (Value.int 0 0), (Value.int 0 0), (Value.int 3 0), (Value.ref 322), (Value.bool Bool.true), (Value.int 181 0), (Value.ref 323), Value.none, (Value.ref 324), (Value.ref 325), (Value.ref 326), (Value.int 624 0), (Value.int 203 0), (Value.str ⟨⟨[47, 99, 108, 97, 105, 109, 47, 99, 117, 116, 46, 112, 121]⟩⟩ 625)]⟩) ⟨[]⟩)
noncomputable def zo328 : Obj := ⟨(Value.type W.SZ.s7174869446012820540x8), none, .func (mkF (stA 38) ⟨⟨[97, 112, 112, 108, 121, 95, 98, 105, 110, 97, 114, 121]⟩⟩ ⟨⟨[97, 112, 112, 108, 121, 95, 98, 105, 110, 97, 114, 121]⟩⟩ .none .none .none (.str ⟨⟨[99, 108, 97, 117, 115, 101, 109, 105, 108, 108, 46, 97, 114, 105, 116, 104]⟩⟩ 452) (.ref 327) .none 3 0), ⟨[]⟩⟩
noncomputable def zo334 (P : Params) : Obj := (Obj.mk (Value.type W.SZ.s5856160107412720595x4) Option.none (Data.fields ⟨[(Value.str ⟨⟨[97, 112, 112, 108, 121, 95, 102, 117, 110, 99, 116, 111, 114]⟩⟩ 627), (Value.str ⟨⟨[97, 112, 112, 108, 121, 95, 102, 117, 110, 99, 116, 111, 114]⟩⟩ 628), (Value.str ⟨⟨[47, 99, 108, 97, 105, 109, 47, 99, 117, 116, 46, 112, 121]⟩⟩ 629), (Value.int 225 0), (Value.int 4 0), (Value.int 0 0), (Value.int 0 0), (Value.int 3 0), (Value.ref 329), (Value.bool Bool.true), (Value.int 181 0), (Value.ref 330), Value.none, (Value.ref 331), (Value.ref 332), (Value.ref 333), (Value.int 638 0), (Value.int 225 0), (Value.str ⟨⟨[47, 99, 108, 97, 105, 109, 47, 99, 117, 116, 46, 112, 121]⟩⟩ 639)]⟩) ⟨[]⟩)
noncomputable def zo335 : Obj := ⟨(Value.type W.SZ.s7174869446012820540x8), none, .func (mkF (stA 39) ⟨⟨[97, 112, 112, 108, 121, 95, 102, 117, 110, 99, 116, 111, 114]⟩⟩ ⟨⟨[97, 112, 112, 108, 121, 95, 102, 117, 110, 99, 116, 111, 114]⟩⟩ .none .none .none (.str ⟨⟨[99, 108, 97, 117, 115, 101, 109, 105, 108, 108, 46, 97, 114, 105, 116, 104]⟩⟩ 452) (.ref 334) .none 3 0), ⟨[]⟩⟩
noncomputable def zo341 (P : Params) : Obj := (Obj.mk (Value.type W.SZ.s5856160107412720595x4) Option.none (Data.fields ⟨[(Value.str ⟨⟨[101, 118, 97, 108, 117, 97, 116, 101, 95, 116, 101, 114, 109]⟩⟩ 641), (Value.str ⟨⟨[101, 118, 97, 108, 117, 97, 116, 101, 95, 116, 101, 114, 109]⟩⟩ 642), (Value.str ⟨⟨[47, 99, 108, 97, 105, 109, 47, 99, 117, 116, 46, 112, 121]⟩⟩ 643), (Value.int 234 0), (Value.int 3 0), (Value.int 0 0), (Value.int 0 0), (Value.int 3 0), (Value.ref 336), (Value.bool Bool.true), (Value.int 181 0), (Value.ref 337), Value.none, (Value.ref 338), (Value.ref 339), (Value.ref 340), (Value.int 652 0), (Value.int 234 0), (Value.str ⟨⟨[47, 99, 108, 97, 105, 109, 47, 99, 117, 116, 46, 112, 121]⟩⟩ 653)]⟩) ⟨[]⟩)
noncomputable def zo342 : Obj := ⟨(Value.type W.SZ.s7174869446012820540x8), none, .func (mkF (stA 40) ⟨⟨[101, 118, 97, 108, 117, 97, 116, 101, 95, 116, 101, 114, 109]⟩⟩ ⟨⟨[101, 118, 97, 108, 117, 97, 116, 101, 95, 116, 101, 114, 109]⟩⟩ .none .none .none (.str ⟨⟨[99, 108, 97, 117, 115, 101, 109, 105, 108, 108, 46, 97, 114, 105, 116, 104]⟩⟩ 452) (.ref 341) .none 3 0), ⟨[]⟩⟩
noncomputable def zo348 (P : Params) : Obj := (Obj.mk (Value.type W.SZ.s5856160107412720595x4) Option.none (Data.fields ⟨[(Value.str ⟨⟨[95, 108, 97, 119, 95, 119, 104, 111, 108, 101]⟩⟩ 657), (Value.str ⟨⟨[95, 108, 97, 119, 95, 119, 104, 111, 108, 101]⟩⟩ 658), (Value.str ⟨⟨[47, 99, 108, 97, 105, 109, 47, 99, 117, 116, 46, 112, 121]⟩⟩ 659), (Value.int 255 0), (Value.int 2 0), (Value.int 0 0), (Value.int 0 0), (Value.int 3 0), (Value.ref 343), (Value.bool Bool.true), (Value.int 181 0), (Value.ref 344), Value.none, (Value.ref 345), (Value.ref 346), (Value.ref 347), (Value.int 662 0), (Value.int 255 0), (Value.str ⟨⟨[47, 99, 108, 97, 105, 109, 47, 99, 117, 116, 46, 112, 121]⟩⟩ 663)]⟩) ⟨[]⟩)
noncomputable def zo349 : Obj := ⟨(Value.type W.SZ.s7174869446012820540x8), none, .func (mkF (stA 42) ⟨⟨[95, 108, 97, 119, 95, 119, 104, 111, 108, 101]⟩⟩ ⟨⟨[95, 108, 97, 119, 95, 119, 104, 111, 108, 101]⟩⟩ .none .none .none (.str ⟨⟨[108, 97, 119, 95, 111, 107, 48, 48, 49, 56, 95, 48, 49]⟩⟩ 655) (.ref 348) .none 3 0), ⟨[]⟩⟩
noncomputable def zo355 (P : Params) : Obj := (Obj.mk (Value.type W.SZ.s5856160107412720595x4) Option.none (Data.fields ⟨[(Value.str ⟨⟨[95, 108, 97, 119, 95, 116, 111, 108, 100]⟩⟩ 665), (Value.str ⟨⟨[95, 108, 97, 119, 95, 116, 111, 108, 100]⟩⟩ 666), (Value.str ⟨⟨[47, 99, 108, 97, 105, 109, 47, 99, 117, 116, 46, 112, 121]⟩⟩ 667), (Value.int 259 0), (Value.int 4 0), (Value.int 0 0), (Value.int 0 0), (Value.int 3 0), (Value.ref 350), (Value.bool Bool.true), (Value.int 181 0), (Value.ref 351), Value.none, (Value.ref 352), (Value.ref 353), (Value.ref 354), (Value.int 674 0), (Value.int 259 0), (Value.str ⟨⟨[47, 99, 108, 97, 105, 109, 47, 99, 117, 116, 46, 112, 121]⟩⟩ 675)]⟩) ⟨[]⟩)
noncomputable def zo356 : Obj := ⟨(Value.type W.SZ.s7174869446012820540x8), none, .func (mkF (stA 43) ⟨⟨[95, 108, 97, 119, 95, 116, 111, 108, 100]⟩⟩ ⟨⟨[95, 108, 97, 119, 95, 116, 111, 108, 100]⟩⟩ .none .none .none (.str ⟨⟨[108, 97, 119, 95, 111, 107, 48, 48, 49, 56, 95, 48, 49]⟩⟩ 655) (.ref 355) .none 3 0), ⟨[]⟩⟩
noncomputable def zo362 (P : Params) : Obj := (Obj.mk (Value.type W.SZ.s5856160107412720595x4) Option.none (Data.fields ⟨[(Value.str ⟨⟨[95, 108, 97, 119, 95, 115, 105, 100, 101, 115]⟩⟩ 677), (Value.str ⟨⟨[95, 108, 97, 119, 95, 115, 105, 100, 101, 115]⟩⟩ 678), (Value.str ⟨⟨[47, 99, 108, 97, 105, 109, 47, 99, 117, 116, 46, 112, 121]⟩⟩ 679), (Value.int 265 0), (Value.int 1 0), (Value.int 0 0), (Value.int 0 0), (Value.int 3 0), (Value.ref 357), (Value.bool Bool.true), (Value.int 181 0), (Value.ref 358), Value.none, (Value.ref 359), (Value.ref 360), (Value.ref 361), (Value.int 681 0), (Value.int 265 0), (Value.str ⟨⟨[47, 99, 108, 97, 105, 109, 47, 99, 117, 116, 46, 112, 121]⟩⟩ 682)]⟩) ⟨[]⟩)
noncomputable def zo363 : Obj := ⟨(Value.type W.SZ.s7174869446012820540x8), none, .func (mkF (stA 44) ⟨⟨[95, 108, 97, 119, 95, 115, 105, 100, 101, 115]⟩⟩ ⟨⟨[95, 108, 97, 119, 95, 115, 105, 100, 101, 115]⟩⟩ .none .none .none (.str ⟨⟨[108, 97, 119, 95, 111, 107, 48, 48, 49, 56, 95, 48, 49]⟩⟩ 655) (.ref 362) .none 3 0), ⟨[]⟩⟩
noncomputable def zo367 (P : Params) : Obj := (Obj.mk (Value.type W.SZ.s5856160107412720595x4) Option.none (Data.fields ⟨[(Value.str ⟨⟨[108, 97, 119]⟩⟩ 684), (Value.str ⟨⟨[108, 97, 119]⟩⟩ 685), (Value.str ⟨⟨[47, 99, 108, 97, 105, 109, 47, 99, 117, 116, 46, 112, 121]⟩⟩ 686), (Value.int 267 0), (Value.int 1 0), (Value.int 0 0), (Value.int 0 0), (Value.int 3 0), (Value.ref 364), (Value.bool Bool.true), (Value.int 181 0), (Value.ref 365), Value.none, Value.none, Value.none, (Value.ref 366), (Value.int 687 0), (Value.int 267 0), (Value.str ⟨⟨[47, 99, 108, 97, 105, 109, 47, 99, 117, 116, 46, 112, 121]⟩⟩ 688)]⟩) ⟨[]⟩)
noncomputable def zo368 : Obj := ⟨(Value.type W.SZ.s7174869446012820540x8), none, .func (mkF (stA 45) ⟨⟨[108, 97, 119]⟩⟩ ⟨⟨[108, 97, 119]⟩⟩ .none .none .none (.str ⟨⟨[108, 97, 119, 95, 111, 107, 48, 48, 49, 56, 95, 48, 49]⟩⟩ 655) (.ref 367) .none 3 0), ⟨[]⟩⟩
noncomputable def K0 (P : Params) : Frag := [(0, (zo0 P)), (2, (zo2 P)), (3, (zo3 P)), (30, (zo30 P)), (31, (zo31 P)), (47, (zo47 P)), (48, zo48), (50, (zo50 P)), (51, (zo51 P)), (59, (zo59 P)), (60, zo60), (66, (zo66 P)), (67, zo67), (80, (zo80 P)), (81, zo81), (87, (zo87 P)), (88, zo88), (94, (zo94 P)), (95, zo95), (101, (zo101 P)), (102, zo102), (108, (zo108 P)), (109, zo109), (115, (zo115 P)), (116, zo116), (122, (zo122 P)), (123, zo123), (153, (zo153 P)), (154, (zo154 P)), (185, (zo185 P)), (186, zo186), (192, (zo192 P)), (193, zo193), (213, (zo213 P)), (214, zo214), (223, (zo223 P)), (236, (zo236 P)), (237, zo237), (243, (zo243 P)), (244, zo244), (250, (zo250 P)), (251, zo251), (257, (zo257 P)), (258, zo258), (264, (zo264 P)), (265, zo265), (271, (zo271 P)), (272, zo272), (313, (zo313 P)), (314, zo314), (327, (zo327 P)), (328, zo328), (334, (zo334 P)), (335, zo335), (341, (zo341 P)), (342, zo342), (348, (zo348 P)), (349, zo349), (355, (zo355 P)), (356, zo356), (362, (zo362 P)), (363, zo363), (367, (zo367 P)), (368, zo368)]
noncomputable def as0 : List Nat := [0, 2, 3, 30, 31, 47, 48, 50, 51, 59, 60, 66, 67, 80, 81, 87, 88, 94, 95, 101, 102, 108, 109, 115, 116, 122, 123, 153, 154, 185, 186, 192, 193, 213, 214, 223, 236, 237, 243, 244, 250, 251, 257, 258, 264, 265, 271, 272, 313, 314, 327, 328, 334, 335, 341, 342, 348, 349, 355, 356, 362, 363, 367, 368]
noncomputable def kt0 (P : Params) : KT := (.node (some (zo0 P)) (.node none (.node (some (zo3 P)) (.node none (.node none (.node (some (zo31 P)) .nil (.node (some zo95) .nil (.node (some (zo223 P)) .nil .nil))) (.node (some (zo47 P)) (.node none (.node none (.node (some (zo271 P)) .nil .nil) .nil) (.node none (.node (some zo335) .nil .nil) .nil)) (.node none .nil (.node none (.node (some (zo367 P)) .nil .nil) .nil)))) (.node none (.node none (.node none .nil (.node none (.node (some (zo327 P)) .nil .nil) .nil)) .nil) (.node none (.node (some (zo87 P)) .nil .nil) .nil))) (.node none (.node none (.node none (.node (some zo67) .nil .nil) (.node none .nil (.node none (.node (some (zo355 P)) .nil .nil) .nil))) (.node (some (zo51 P)) .nil (.node (some (zo115 P)) .nil (.node (some (zo243 P)) .nil .nil)))) (.node none (.node none .nil (.node none .nil (.node none (.node (some zo363) .nil .nil) .nil))) (.node (some (zo59 P)) .nil (.node (some zo123) .nil (.node (some zo251) .nil .nil)))))) (.node none (.node none (.node none (.node none (.node none (.node none (.node (some (zo257 P)) .nil .nil) .nil) (.node (some zo193) .nil .nil)) .nil) (.node none (.node (some zo81) .nil .nil) .nil)) (.node none (.node none (.node none (.node none (.node (some zo265) .nil .nil) .nil) .nil) .nil) (.node none (.node none (.node (some (zo153 P)) .nil .nil) .nil) (.node none (.node (some (zo185 P)) (.node (some (zo313 P)) .nil .nil) .nil) .nil)))) (.node none (.node none (.node none .nil (.node (some (zo101 P)) .nil .nil)) (.node none (.node none .nil (.node (some (zo213 P)) (.node (some (zo341 P)) .nil .nil) .nil)) .nil)) (.node none (.node none .nil (.node (some zo109) .nil (.node (some zo237) .nil .nil))) (.node none (.node none .nil (.node none (.node (some zo349) .nil .nil) .nil)) .nil))))) (.node (some (zo2 P)) (.node none (.node none (.node none (.node none (.node none .nil (.node (some (zo192 P)) .nil .nil)) .nil) (.node (some zo48) (.node (some (zo80 P)) (.node none (.node (some zo272) .nil .nil) .nil) .nil) (.node none .nil (.node none (.node (some zo368) .nil .nil) .nil)))) (.node none (.node none (.node none (.node none (.node (some (zo264 P)) .nil .nil) .nil) (.node none (.node (some zo328) .nil .nil) .nil)) .nil) (.node none (.node (some zo88) .nil .nil) .nil))) (.node none (.node none (.node none .nil (.node none .nil (.node none (.node (some zo356) .nil .nil) .nil))) (.node none .nil (.node (some zo116) .nil (.node (some zo244) .nil .nil)))) (.node none (.node none .nil (.node (some (zo108 P)) .nil (.node (some (zo236 P)) .nil .nil))) (.node (some zo60) (.node none .nil (.node none (.node (some (zo348 P)) .nil .nil) .nil)) .nil)))) (.node none (.node none (.node none (.node none (.node (some (zo66 P)) (.node none (.node (some zo258) .nil .nil) .nil) .nil) .nil) (.node (some (zo50 P)) .nil .nil)) (.node none (.node none .nil (.node none .nil (.node none (.node (some (zo362 P)) .nil .nil) .nil))) (.node none (.node none (.node (some (zo154 P)) .nil .nil) .nil) (.node (some (zo122 P)) (.node (some zo186) (.node (some zo314) .nil .nil) .nil) (.node (some (zo250 P)) .nil .nil))))) (.node none (.node none (.node none .nil (.node (some zo102) .nil .nil)) (.node none (.node none .nil (.node (some zo214) (.node (some zo342) .nil .nil) .nil)) .nil)) (.node (some (zo30 P)) (.node none (.node none .nil (.node none (.node (some (zo334 P)) .nil .nil) .nil)) .nil) (.node none (.node (some (zo94 P)) .nil .nil) .nil))))))
noncomputable def selS : List Nat → List Stmt → List Stmt
  | [], _ => []
  | i :: l, b => nthS i b :: selS l b
noncomputable def qv : Program := { pw with main := { pw.main with body := selS [0, 2, 3, 4, 5, 6, 7, 8, 9, 11, 12, 13, 14, 15, 16, 17, 18, 19, 21, 22, 23, 24, 25, 26, 27, 28, 29, 30, 31, 32, 33, 34, 35, 36, 37, 38, 39, 40, 42, 43, 44, 45] pw.main.body } }
noncomputable def dfQ : DefRec := match stA 45 with
  | .FunctionDef name args body _ _ _ scope _ _ pos => ⟨name, args, body, scope, pos⟩
  | _ => ⟨default, default, [], default, default⟩
noncomputable abbrev XtQ (s : Shared) : Bool := xlAt qv [] s && recOk (RowW.records PySem.Challenge.rw_ok0018_01.row.toRowW) s
set_option maxHeartbeats 0 in
theorem topQ (w : World) (os : OsState) : (topFrom treeTable pw w 4386 ⟨boot_heap w.params, ⟨[]⟩, boot_drawn, boot_toks, os⟩).map (fun s => (openSeen qv [] (importedModules pw.main.body) XtQ true s, obsZ as0 s)) = some (openGood qv [], valZ K0 369 690 w) := by
  unfold topFrom
  rw [PySem.W.Fast.te14082659384304107361, PySem.W.Fast.te14364793385576792824, PySem.W.Fast.te4187177175401517315]
  kernel_rfl
theorem leftQ : LeftO pw qv [] XtQ (obsZ as0) (valZ K0 369 690) 4386 := fun w => by
  have hb := boot_open (p := pw) (N := 4386) (by rfl) (by rfl) (fun s => by kernel_rfl) w
  obtain ⟨⟨h, gs, d, k, os⟩, e, e'⟩ := Option.map_eq_some_iff.mp hb
  obtain ⟨rfl, rfl, rfl, rfl⟩ : h = boot_heap w.params ∧ gs = Array.mk [] ∧ d = boot_drawn ∧ k = boot_toks := by simpa using e'
  unfold openEnds
  rw [e, Option.bind_some]
  exact topQ w os
end Mine
end
section
open PySem PySem.W PySem.W.X
namespace Mine
noncomputable def ty_list : String := PySem.W.S.litE [PySem.W.S.mk8 108 rfl, PySem.W.S.mk8 105 rfl, PySem.W.S.mk8 115 rfl, PySem.W.S.mk8 116 rfl] [108, 105, 115, 116] rfl rfl
theorem ty_list_eq : "list" = ty_list := PySem.W.S.litE_eq _ [108, 105, 115, 116] rfl rfl
noncomputable def ty_tuple : String := PySem.W.S.litE [PySem.W.S.mk8 116 rfl, PySem.W.S.mk8 117 rfl, PySem.W.S.mk8 112 rfl, PySem.W.S.mk8 108 rfl, PySem.W.S.mk8 101 rfl] [116, 117, 112, 108, 101] rfl rfl
theorem ty_tuple_eq : "tuple" = ty_tuple := PySem.W.S.litE_eq _ [116, 117, 112, 108, 101] rfl rfl
noncomputable def ty_dict : String := PySem.W.S.litE [PySem.W.S.mk8 100 rfl, PySem.W.S.mk8 105 rfl, PySem.W.S.mk8 99 rfl, PySem.W.S.mk8 116 rfl] [100, 105, 99, 116] rfl rfl
theorem ty_dict_eq : "dict" = ty_dict := PySem.W.S.litE_eq _ [100, 105, 99, 116] rfl rfl
noncomputable def ty_frame : String := PySem.W.S.litE [PySem.W.S.mk8 102 rfl, PySem.W.S.mk8 114 rfl, PySem.W.S.mk8 97 rfl, PySem.W.S.mk8 109 rfl, PySem.W.S.mk8 101 rfl] [102, 114, 97, 109, 101] rfl rfl
theorem ty_frame_eq : "frame" = ty_frame := PySem.W.S.litE_eq _ [102, 114, 97, 109, 101] rfl rfl
noncomputable def ty_cell : String := PySem.W.S.litE [PySem.W.S.mk8 99 rfl, PySem.W.S.mk8 101 rfl, PySem.W.S.mk8 108 rfl, PySem.W.S.mk8 108 rfl] [99, 101, 108, 108] rfl rfl
theorem ty_cell_eq : "cell" = ty_cell := PySem.W.S.litE_eq _ [99, 101, 108, 108] rfl rfl
noncomputable def id_caller : String := PySem.W.S.litE [PySem.W.S.mk8 99 rfl, PySem.W.S.mk8 108 rfl, PySem.W.S.mk8 97 rfl, PySem.W.S.mk8 105 rfl, PySem.W.S.mk8 109 rfl, PySem.W.S.mk8 46 rfl, PySem.W.S.mk8 99 rfl, PySem.W.S.mk8 97 rfl, PySem.W.S.mk8 108 rfl, PySem.W.S.mk8 108 rfl, PySem.W.S.mk8 101 rfl, PySem.W.S.mk8 114 rfl] [99, 108, 97, 105, 109, 46, 99, 97, 108, 108, 101, 114] rfl rfl
theorem id_caller_eq : "claim.caller" = id_caller := PySem.W.S.litE_eq _ [99, 108, 97, 105, 109, 46, 99, 97, 108, 108, 101, 114] rfl rfl
noncomputable def ty_int : String := PySem.W.S.litE [PySem.W.S.mk8 105 rfl, PySem.W.S.mk8 110 rfl, PySem.W.S.mk8 116 rfl] [105, 110, 116] rfl rfl
theorem ty_int_eq : "int" = ty_int := PySem.W.S.litE_eq _ [105, 110, 116] rfl rfl

noncomputable def hS (P : Params) (s : Str) : Int := match s.cps.isEmpty with
  | true => 0
  | false => reduceHash (P.strHash s.cps)

noncomputable def nocon : Con := ⟨.builtin "" {}, fun _ => false, [], .any, none, fun _ _ => .ok (.ret .none), fun _ _ => []⟩
theorem nocon_valid {S : St} {rs : List (Nat × Nat)} {τ : Nat} : nocon.Valid S rs τ := fun _ _ _ _ _ _ h => (nomatch h)
noncomputable def noc : ConsTy := fun _ _ _ _ _ _ => nocon

/-- what stands, for this program -/
noncomputable abbrev SR (w : World) (P : Params) (U : List Nat) (A : Nat → Nat) (st hi : Nat) (js : List Nat) (F : End → Nat → List (Nat × Nat) → Nat → Nat → List (Option Obj) → Prop) (cons : ConsTy) : St :=
  ⟨pw, w, P, kt0 P, 369, hi, U, A, st, js, F, cons, opsY, ops2⟩
theorem SR_base {w : World} {P : Params} {U A st hi js F cons} (h : P = w.params) : (SR w P U A st hi js F cons).Base := ⟨h, fun _ _ _ _ h => opsY_fit _ _ _ _ h, fun _ _ _ _ _ _ h => ops2_fit _ _ _ _ _ _ h⟩

/-- an end that is a whole number -/
noncomputable def Fint (F : Int → Nat → List (Nat × Nat) → Prop) : End → Nat → List (Nat × Nat) → Nat → Nat → List (Option Obj) → Prop := fun e m rs _ _ _ => match e with
  | .res r => match r with
    | .ok fl => match fl with
      | .ret v => match v with
        | .int x _ => F x m rs
        | _ => False
      | _ => False
    | .error _ => False
  | .turn .. => False
theorem Fint_is {F : Int → Nat → List (Nat × Nat) → Prop} {e m rs τ j os} (h : Fint F e m rs τ j os) : ∃ x t, e = .res (.ok (.ret (.int x t))) ∧ F x m rs := by
  unfold Fint at h
  split at h
  · split at h
    · split at h
      · split at h
        · exact ⟨_, _, rfl, h⟩
        · cases h
      · cases h
    · cases h
  · cases h

/-- the kinds of what waits -/
noncomputable def kd : Code → Nat
  | .func .. => 1
  | .whileLoop .. => 3
  | .builtin id _ => match isLit 35714603318786955769505017188 id with
    | true => 4
    | false => 0
  | _ => 0
noncomputable def shp : List (Code × Pos) → List Nat → Bool
  | [], ks => match ks with
    | [] => true
    | _ :: _ => false
  | x :: l, ks => match ks with
    | [] => false
    | k :: ks => match Nat.beq (kd x.1) k with
      | true => shp l ks
      | false => false
theorem shp_nil {l : List (Code × Pos)} (h : shp l [] = true) : l = [] := by
  cases l with
  | nil => rfl
  | cons => simp [shp] at h
theorem shp_cons {l : List (Code × Pos)} {k : Nat} {ks : List Nat} (h : shp l (k :: ks) = true) : ∃ c p l', l = (c, p) :: l' ∧ kd c = k ∧ shp l' ks = true := by
  cases l with
  | nil => simp [shp] at h
  | cons x l =>
    unfold shp at h
    dsimp only at h
    split at h
    · rename_i q
      exact ⟨x.1, x.2, l, rfl, Nat.eq_of_beq_eq_true q, h⟩
    · cases h
theorem kd1 {c : Code} (h : kd c = 1) : ∃ b e, c = .func b e := by
  cases c with
  | func b e => exact ⟨b, e, rfl⟩
  | builtin id a => unfold kd at h; dsimp only at h; split at h <;> cases h
  | _ => cases h
theorem kd3 {c : Code} (h : kd c = 3) : ∃ a b o e, c = .whileLoop a b o e := by
  cases c with
  | whileLoop a b o e => exact ⟨a, b, o, e, rfl⟩
  | builtin id a => unfold kd at h; dsimp only at h; split at h <;> cases h
  | _ => cases h
theorem kd4 {c : Code} (h : kd c = 4) : ∃ a, c = .builtin id_caller a := by
  cases c with
  | builtin id a =>
    unfold kd at h
    dsimp only at h
    split at h
    · rename_i q
      rw [isLit_of (b := "claim.caller") (by rfl) q, id_caller_eq]
      exact ⟨a, rfl⟩
    · cases h
  | _ => cases h
theorem shp1 {l : List (Code × Pos)} {ks : List Nat} (h : shp l (1 :: ks) = true) : ∃ b e p l', l = (.func b e, p) :: l' ∧ shp l' ks = true := by
  obtain ⟨c, p, l', e1, e2, e3⟩ := shp_cons h
  obtain ⟨b, e, rfl⟩ := kd1 e2
  exact ⟨b, e, p, l', e1, e3⟩
theorem shp3 {l : List (Code × Pos)} {ks : List Nat} (h : shp l (3 :: ks) = true) : ∃ a b o e p l', l = (.whileLoop a b o e, p) :: l' ∧ shp l' ks = true := by
  obtain ⟨c, p, l', e1, e2, e3⟩ := shp_cons h
  obtain ⟨a, b, o, e, rfl⟩ := kd3 e2
  exact ⟨a, b, o, e, p, l', e1, e3⟩
theorem shp4 {l : List (Code × Pos)} (h : shp l [4] = true) : ∃ a p, l = [(.builtin id_caller a, p)] := by
  obtain ⟨c, p, l', e1, e2, e3⟩ := shp_cons h
  obtain ⟨a, rfl⟩ := kd4 e2
  rw [shp_nil e3] at e1
  exact ⟨a, p, e1⟩

/-- nothing is being handled, and what waits has this shape -/
noncomputable def okS (ks : List Nat) (Γ : PySem.Ctx) : Bool := match Γ.handled with
  | some _ => false
  | none => match Γ.own with
    | some _ => false
    | none => match Γ.past with
      | some _ => false
      | none => shp Γ.below ks
theorem okS_is {ks : List Nat} {Γ : PySem.Ctx} (h : okS ks Γ = true) : ∃ l, Γ = ⟨Γ.code, none, none, l, none⟩ ∧ shp l ks = true := by
  obtain ⟨c, h1, h2, l, h3⟩ := Γ
  unfold okS at h
  split at h
  · cases h
  · split at h
    · cases h
    · split at h
      · cases h
      · rename_i _ q1 _ q2 _ q3
        have q1 : h1 = none := q1
        have q2 : h2 = none := q2
        have q3 : h3 = none := q3
        subst q1 q2 q3
        exact ⟨l, rfl, h⟩

noncomputable abbrev oList (vs : List Value) : Obj := ⟨.type ty_list, none, .seq ⟨vs⟩ 0, ⟨[]⟩⟩
noncomputable abbrev oTup (vs : List Value) : Obj := ⟨.type ty_tuple, none, .seq ⟨vs⟩ 0, ⟨[]⟩⟩
end Mine
end
section
open PySem PySem.W PySem.W.X
namespace Mine
noncomputable def h_dPP : List (Nat × H) := [(57, .at 370), (56, .at 370), (53, .at 370), (52, .at 370), (42, .at 370), (40, .op 15), (34, .at 370), (32, .op 15), (29, .op 16), (24, .at 370), (23, .at 370), (19, .at 370), (15, .op 2), (13, .at 370), (9, .op 2), (1, .at 370)]
noncomputable def h_dPN : List (Nat × H) := [(62, .at 370), (61, .at 370), (58, .at 370), (57, .at 370), (47, .at 370), (45, .op 15), (39, .at 370), (37, .op 15), (34, .op 16), (29, .at 370), (28, .at 370), (24, .at 370), (20, .op 2), (18, .at 370), (14, .op 1), (6, .at 370)]
noncomputable def h_dNP : List (Nat × H) := [(62, .at 370), (61, .at 370), (58, .at 370), (57, .at 370), (47, .at 370), (45, .op 15), (39, .at 370), (37, .op 15), (34, .op 16), (29, .at 370), (28, .at 370), (24, .at 370), (20, .op 1), (18, .at 370), (14, .op 2), (6, .at 370)]
noncomputable def h_dNN : List (Nat × H) := [(57, .at 370), (56, .at 370), (53, .at 370), (52, .at 370), (42, .at 370), (40, .op 15), (34, .at 370), (32, .op 15), (29, .op 16), (24, .at 370), (23, .at 370), (19, .at 370), (15, .op 1), (13, .at 370), (9, .op 1), (1, .at 370)]
set_option maxHeartbeats 0 in
theorem run_dPP1 {w : World} {P0 : Params} {b1 b2 : Bool} {τ : Nat} {p : Pos} {kb0 : List Stmt} {ke0 : Env} {kp0 : Pos} {kb1 : List Stmt} {ke1 : Env} {kp1 : Pos} {kb2 : List Stmt} {ke2 : Env} {kp2 : Pos} {ka3 : Expr} {kb3 ko3 : List Stmt} {ke3 : Env} {kp3 : Pos} {kb4 : List Stmt} {ke4 : Env} {kp4 : Pos} {kb5 : List Stmt} {ke5 : Env} {kp5 : Pos} {kb6 : List Stmt} {ke6 : Env} {kp6 : Pos} {ka7 : Args} {kp7 : Pos} {δ tx ty : Nat} {x y : Int} {F : Int → Nat → List (Nat × Nat) → Prop} :
    sim (SR w (fol P0 b1 b2) [] id 370 370 [] (Fint F) noc) 63 ⟨h_dPP, []⟩ [(370, δ)] τ (puts .nil []) 370 690 ⟨.call (.ref 258) ⟨[.int x tx, .int y ty], []⟩, none, none, [(.func kb0 ke0, kp0), (.func kb1 ke1, kp1), (.func kb2 ke2, kp2), (.whileLoop ka3 kb3 ko3 ke3, kp3), (.func kb4 ke4, kp4), (.func kb5 ke5, kp5), (.func kb6 ke6, kp6), (.builtin id_caller ka7, kp7)], none⟩ p .base (den (.call (.ref 258) ⟨[.int x tx, .int y ty], []⟩)) =
    (ad [(370, δ)] 370 = ad [(370, δ)] 370 ∧ ad [(370, δ)] 370 = ad [(370, δ)] 370 ∧ ad [(370, δ)] 370 = ad [(370, δ)] 370 ∧ ad [(370, δ)] 370 = ad [(370, δ)] 370 ∧ ad [(370, δ)] 370 = ad [(370, δ)] 370 ∧ ∀ (_ _ : Nat), ad [(370, δ)] 370 = ad [(370, δ)] 370 ∧ ∀ (_ _ : Nat), ((y.natAbs : Int) ≠ 0 ∧ Builtin.divisionGoesByPylong (x.natAbs : Int) (y.natAbs : Int) = false) ∧ ad [(370, δ)] 370 = ad [(370, δ)] 370 ∧ ad [(370, δ)] 370 = ad [(370, δ)] 370 ∧ ad [(370, δ)] 370 = ad [(370, δ)] 370 ∧ (¬ x < 0) ∧ ad [(370, δ)] 370 = ad [(370, δ)] 370 ∧ (¬ y < 0) ∧ ad [(370, δ)] 370 = ad [(370, δ)] 370 ∧ F ((x.natAbs : Int).fdiv (y.natAbs : Int)) 371 [(370, δ)]) := by
  cases b1 <;> kernel_rfl
set_option maxHeartbeats 0 in
theorem run_dPN1 {w : World} {P0 : Params} {b1 b2 : Bool} {τ : Nat} {p : Pos} {kb0 : List Stmt} {ke0 : Env} {kp0 : Pos} {kb1 : List Stmt} {ke1 : Env} {kp1 : Pos} {kb2 : List Stmt} {ke2 : Env} {kp2 : Pos} {ka3 : Expr} {kb3 ko3 : List Stmt} {ke3 : Env} {kp3 : Pos} {kb4 : List Stmt} {ke4 : Env} {kp4 : Pos} {kb5 : List Stmt} {ke5 : Env} {kp5 : Pos} {kb6 : List Stmt} {ke6 : Env} {kp6 : Pos} {ka7 : Args} {kp7 : Pos} {δ tx ty : Nat} {x y : Int} {F : Int → Nat → List (Nat × Nat) → Prop} :
    sim (SR w (fol P0 b1 b2) [] id 370 370 [] (Fint F) noc) 68 ⟨h_dPN, []⟩ [(370, δ)] τ (puts .nil []) 370 690 ⟨.call (.ref 258) ⟨[.int x tx, .int y ty], []⟩, none, none, [(.func kb0 ke0, kp0), (.func kb1 ke1, kp1), (.func kb2 ke2, kp2), (.whileLoop ka3 kb3 ko3 ke3, kp3), (.func kb4 ke4, kp4), (.func kb5 ke5, kp5), (.func kb6 ke6, kp6), (.builtin id_caller ka7, kp7)], none⟩ p .base (den (.call (.ref 258) ⟨[.int x tx, .int y ty], []⟩)) =
    (ad [(370, δ)] 370 = ad [(370, δ)] 370 ∧ ad [(370, δ)] 370 = ad [(370, δ)] 370 ∧ ad [(370, δ)] 370 = ad [(370, δ)] 370 ∧ ad [(370, δ)] 370 = ad [(370, δ)] 370 ∧ ad [(370, δ)] 370 = ad [(370, δ)] 370 ∧ ∀ (_ _ : Nat), ad [(370, δ)] 370 = ad [(370, δ)] 370 ∧ ∀ (_ _ : Nat), ((y.natAbs : Int) ≠ 0 ∧ Builtin.divisionGoesByPylong (x.natAbs : Int) (y.natAbs : Int) = false) ∧ ad [(370, δ)] 370 = ad [(370, δ)] 370 ∧ ad [(370, δ)] 370 = ad [(370, δ)] 370 ∧ ad [(370, δ)] 370 = ad [(370, δ)] 370 ∧ (¬ x < 0) ∧ ad [(370, δ)] 370 = ad [(370, δ)] 370 ∧ (y < 0) ∧ ad [(370, δ)] 370 = ad [(370, δ)] 370 ∧ F (-((x.natAbs : Int).fdiv (y.natAbs : Int))) 371 [(370, δ)]) := by
  cases b1 <;> kernel_rfl
set_option maxHeartbeats 0 in
theorem run_dNP1 {w : World} {P0 : Params} {b1 b2 : Bool} {τ : Nat} {p : Pos} {kb0 : List Stmt} {ke0 : Env} {kp0 : Pos} {kb1 : List Stmt} {ke1 : Env} {kp1 : Pos} {kb2 : List Stmt} {ke2 : Env} {kp2 : Pos} {ka3 : Expr} {kb3 ko3 : List Stmt} {ke3 : Env} {kp3 : Pos} {kb4 : List Stmt} {ke4 : Env} {kp4 : Pos} {kb5 : List Stmt} {ke5 : Env} {kp5 : Pos} {kb6 : List Stmt} {ke6 : Env} {kp6 : Pos} {ka7 : Args} {kp7 : Pos} {δ tx ty : Nat} {x y : Int} {F : Int → Nat → List (Nat × Nat) → Prop} :
    sim (SR w (fol P0 b1 b2) [] id 370 370 [] (Fint F) noc) 68 ⟨h_dNP, []⟩ [(370, δ)] τ (puts .nil []) 370 690 ⟨.call (.ref 258) ⟨[.int x tx, .int y ty], []⟩, none, none, [(.func kb0 ke0, kp0), (.func kb1 ke1, kp1), (.func kb2 ke2, kp2), (.whileLoop ka3 kb3 ko3 ke3, kp3), (.func kb4 ke4, kp4), (.func kb5 ke5, kp5), (.func kb6 ke6, kp6), (.builtin id_caller ka7, kp7)], none⟩ p .base (den (.call (.ref 258) ⟨[.int x tx, .int y ty], []⟩)) =
    (ad [(370, δ)] 370 = ad [(370, δ)] 370 ∧ ad [(370, δ)] 370 = ad [(370, δ)] 370 ∧ ad [(370, δ)] 370 = ad [(370, δ)] 370 ∧ ad [(370, δ)] 370 = ad [(370, δ)] 370 ∧ ad [(370, δ)] 370 = ad [(370, δ)] 370 ∧ ∀ (_ _ : Nat), ad [(370, δ)] 370 = ad [(370, δ)] 370 ∧ ∀ (_ _ : Nat), ((y.natAbs : Int) ≠ 0 ∧ Builtin.divisionGoesByPylong (x.natAbs : Int) (y.natAbs : Int) = false) ∧ ad [(370, δ)] 370 = ad [(370, δ)] 370 ∧ ad [(370, δ)] 370 = ad [(370, δ)] 370 ∧ ad [(370, δ)] 370 = ad [(370, δ)] 370 ∧ (x < 0) ∧ ad [(370, δ)] 370 = ad [(370, δ)] 370 ∧ (¬ y < 0) ∧ ad [(370, δ)] 370 = ad [(370, δ)] 370 ∧ F (-((x.natAbs : Int).fdiv (y.natAbs : Int))) 371 [(370, δ)]) := by
  cases b1 <;> kernel_rfl
set_option maxHeartbeats 0 in
theorem run_dNN1 {w : World} {P0 : Params} {b1 b2 : Bool} {τ : Nat} {p : Pos} {kb0 : List Stmt} {ke0 : Env} {kp0 : Pos} {kb1 : List Stmt} {ke1 : Env} {kp1 : Pos} {kb2 : List Stmt} {ke2 : Env} {kp2 : Pos} {ka3 : Expr} {kb3 ko3 : List Stmt} {ke3 : Env} {kp3 : Pos} {kb4 : List Stmt} {ke4 : Env} {kp4 : Pos} {kb5 : List Stmt} {ke5 : Env} {kp5 : Pos} {kb6 : List Stmt} {ke6 : Env} {kp6 : Pos} {ka7 : Args} {kp7 : Pos} {δ tx ty : Nat} {x y : Int} {F : Int → Nat → List (Nat × Nat) → Prop} :
    sim (SR w (fol P0 b1 b2) [] id 370 370 [] (Fint F) noc) 63 ⟨h_dNN, []⟩ [(370, δ)] τ (puts .nil []) 370 690 ⟨.call (.ref 258) ⟨[.int x tx, .int y ty], []⟩, none, none, [(.func kb0 ke0, kp0), (.func kb1 ke1, kp1), (.func kb2 ke2, kp2), (.whileLoop ka3 kb3 ko3 ke3, kp3), (.func kb4 ke4, kp4), (.func kb5 ke5, kp5), (.func kb6 ke6, kp6), (.builtin id_caller ka7, kp7)], none⟩ p .base (den (.call (.ref 258) ⟨[.int x tx, .int y ty], []⟩)) =
    (ad [(370, δ)] 370 = ad [(370, δ)] 370 ∧ ad [(370, δ)] 370 = ad [(370, δ)] 370 ∧ ad [(370, δ)] 370 = ad [(370, δ)] 370 ∧ ad [(370, δ)] 370 = ad [(370, δ)] 370 ∧ ad [(370, δ)] 370 = ad [(370, δ)] 370 ∧ ∀ (_ _ : Nat), ad [(370, δ)] 370 = ad [(370, δ)] 370 ∧ ∀ (_ _ : Nat), ((y.natAbs : Int) ≠ 0 ∧ Builtin.divisionGoesByPylong (x.natAbs : Int) (y.natAbs : Int) = false) ∧ ad [(370, δ)] 370 = ad [(370, δ)] 370 ∧ ad [(370, δ)] 370 = ad [(370, δ)] 370 ∧ ad [(370, δ)] 370 = ad [(370, δ)] 370 ∧ (x < 0) ∧ ad [(370, δ)] 370 = ad [(370, δ)] 370 ∧ (y < 0) ∧ ad [(370, δ)] 370 = ad [(370, δ)] 370 ∧ F ((x.natAbs : Int).fdiv (y.natAbs : Int)) 371 [(370, δ)]) := by
  cases b1 <;> kernel_rfl
set_option maxHeartbeats 0 in
theorem run_dPP2 {w : World} {P0 : Params} {b1 b2 : Bool} {τ : Nat} {p : Pos} {kb0 : List Stmt} {ke0 : Env} {kp0 : Pos} {kb1 : List Stmt} {ke1 : Env} {kp1 : Pos} {kb2 : List Stmt} {ke2 : Env} {kp2 : Pos} {kb3 : List Stmt} {ke3 : Env} {kp3 : Pos} {ka4 : Expr} {kb4 ko4 : List Stmt} {ke4 : Env} {kp4 : Pos} {kb5 : List Stmt} {ke5 : Env} {kp5 : Pos} {kb6 : List Stmt} {ke6 : Env} {kp6 : Pos} {kb7 : List Stmt} {ke7 : Env} {kp7 : Pos} {ka8 : Args} {kp8 : Pos} {δ tx ty : Nat} {x y : Int} {F : Int → Nat → List (Nat × Nat) → Prop} :
    sim (SR w (fol P0 b1 b2) [] id 370 370 [] (Fint F) noc) 63 ⟨h_dPP, []⟩ [(370, δ)] τ (puts .nil []) 370 690 ⟨.call (.ref 258) ⟨[.int x tx, .int y ty], []⟩, none, none, [(.func kb0 ke0, kp0), (.func kb1 ke1, kp1), (.func kb2 ke2, kp2), (.func kb3 ke3, kp3), (.whileLoop ka4 kb4 ko4 ke4, kp4), (.func kb5 ke5, kp5), (.func kb6 ke6, kp6), (.func kb7 ke7, kp7), (.builtin id_caller ka8, kp8)], none⟩ p .base (den (.call (.ref 258) ⟨[.int x tx, .int y ty], []⟩)) =
    (ad [(370, δ)] 370 = ad [(370, δ)] 370 ∧ ad [(370, δ)] 370 = ad [(370, δ)] 370 ∧ ad [(370, δ)] 370 = ad [(370, δ)] 370 ∧ ad [(370, δ)] 370 = ad [(370, δ)] 370 ∧ ad [(370, δ)] 370 = ad [(370, δ)] 370 ∧ ∀ (_ _ : Nat), ad [(370, δ)] 370 = ad [(370, δ)] 370 ∧ ∀ (_ _ : Nat), ((y.natAbs : Int) ≠ 0 ∧ Builtin.divisionGoesByPylong (x.natAbs : Int) (y.natAbs : Int) = false) ∧ ad [(370, δ)] 370 = ad [(370, δ)] 370 ∧ ad [(370, δ)] 370 = ad [(370, δ)] 370 ∧ ad [(370, δ)] 370 = ad [(370, δ)] 370 ∧ (¬ x < 0) ∧ ad [(370, δ)] 370 = ad [(370, δ)] 370 ∧ (¬ y < 0) ∧ ad [(370, δ)] 370 = ad [(370, δ)] 370 ∧ F ((x.natAbs : Int).fdiv (y.natAbs : Int)) 371 [(370, δ)]) := by
  cases b1 <;> kernel_rfl
set_option maxHeartbeats 0 in
theorem run_dPN2 {w : World} {P0 : Params} {b1 b2 : Bool} {τ : Nat} {p : Pos} {kb0 : List Stmt} {ke0 : Env} {kp0 : Pos} {kb1 : List Stmt} {ke1 : Env} {kp1 : Pos} {kb2 : List Stmt} {ke2 : Env} {kp2 : Pos} {kb3 : List Stmt} {ke3 : Env} {kp3 : Pos} {ka4 : Expr} {kb4 ko4 : List Stmt} {ke4 : Env} {kp4 : Pos} {kb5 : List Stmt} {ke5 : Env} {kp5 : Pos} {kb6 : List Stmt} {ke6 : Env} {kp6 : Pos} {kb7 : List Stmt} {ke7 : Env} {kp7 : Pos} {ka8 : Args} {kp8 : Pos} {δ tx ty : Nat} {x y : Int} {F : Int → Nat → List (Nat × Nat) → Prop} :
    sim (SR w (fol P0 b1 b2) [] id 370 370 [] (Fint F) noc) 68 ⟨h_dPN, []⟩ [(370, δ)] τ (puts .nil []) 370 690 ⟨.call (.ref 258) ⟨[.int x tx, .int y ty], []⟩, none, none, [(.func kb0 ke0, kp0), (.func kb1 ke1, kp1), (.func kb2 ke2, kp2), (.func kb3 ke3, kp3), (.whileLoop ka4 kb4 ko4 ke4, kp4), (.func kb5 ke5, kp5), (.func kb6 ke6, kp6), (.func kb7 ke7, kp7), (.builtin id_caller ka8, kp8)], none⟩ p .base (den (.call (.ref 258) ⟨[.int x tx, .int y ty], []⟩)) =
    (ad [(370, δ)] 370 = ad [(370, δ)] 370 ∧ ad [(370, δ)] 370 = ad [(370, δ)] 370 ∧ ad [(370, δ)] 370 = ad [(370, δ)] 370 ∧ ad [(370, δ)] 370 = ad [(370, δ)] 370 ∧ ad [(370, δ)] 370 = ad [(370, δ)] 370 ∧ ∀ (_ _ : Nat), ad [(370, δ)] 370 = ad [(370, δ)] 370 ∧ ∀ (_ _ : Nat), ((y.natAbs : Int) ≠ 0 ∧ Builtin.divisionGoesByPylong (x.natAbs : Int) (y.natAbs : Int) = false) ∧ ad [(370, δ)] 370 = ad [(370, δ)] 370 ∧ ad [(370, δ)] 370 = ad [(370, δ)] 370 ∧ ad [(370, δ)] 370 = ad [(370, δ)] 370 ∧ (¬ x < 0) ∧ ad [(370, δ)] 370 = ad [(370, δ)] 370 ∧ (y < 0) ∧ ad [(370, δ)] 370 = ad [(370, δ)] 370 ∧ F (-((x.natAbs : Int).fdiv (y.natAbs : Int))) 371 [(370, δ)]) := by
  cases b1 <;> kernel_rfl
set_option maxHeartbeats 0 in
theorem run_dNP2 {w : World} {P0 : Params} {b1 b2 : Bool} {τ : Nat} {p : Pos} {kb0 : List Stmt} {ke0 : Env} {kp0 : Pos} {kb1 : List Stmt} {ke1 : Env} {kp1 : Pos} {kb2 : List Stmt} {ke2 : Env} {kp2 : Pos} {kb3 : List Stmt} {ke3 : Env} {kp3 : Pos} {ka4 : Expr} {kb4 ko4 : List Stmt} {ke4 : Env} {kp4 : Pos} {kb5 : List Stmt} {ke5 : Env} {kp5 : Pos} {kb6 : List Stmt} {ke6 : Env} {kp6 : Pos} {kb7 : List Stmt} {ke7 : Env} {kp7 : Pos} {ka8 : Args} {kp8 : Pos} {δ tx ty : Nat} {x y : Int} {F : Int → Nat → List (Nat × Nat) → Prop} :
    sim (SR w (fol P0 b1 b2) [] id 370 370 [] (Fint F) noc) 68 ⟨h_dNP, []⟩ [(370, δ)] τ (puts .nil []) 370 690 ⟨.call (.ref 258) ⟨[.int x tx, .int y ty], []⟩, none, none, [(.func kb0 ke0, kp0), (.func kb1 ke1, kp1), (.func kb2 ke2, kp2), (.func kb3 ke3, kp3), (.whileLoop ka4 kb4 ko4 ke4, kp4), (.func kb5 ke5, kp5), (.func kb6 ke6, kp6), (.func kb7 ke7, kp7), (.builtin id_caller ka8, kp8)], none⟩ p .base (den (.call (.ref 258) ⟨[.int x tx, .int y ty], []⟩)) =
    (ad [(370, δ)] 370 = ad [(370, δ)] 370 ∧ ad [(370, δ)] 370 = ad [(370, δ)] 370 ∧ ad [(370, δ)] 370 = ad [(370, δ)] 370 ∧ ad [(370, δ)] 370 = ad [(370, δ)] 370 ∧ ad [(370, δ)] 370 = ad [(370, δ)] 370 ∧ ∀ (_ _ : Nat), ad [(370, δ)] 370 = ad [(370, δ)] 370 ∧ ∀ (_ _ : Nat), ((y.natAbs : Int) ≠ 0 ∧ Builtin.divisionGoesByPylong (x.natAbs : Int) (y.natAbs : Int) = false) ∧ ad [(370, δ)] 370 = ad [(370, δ)] 370 ∧ ad [(370, δ)] 370 = ad [(370, δ)] 370 ∧ ad [(370, δ)] 370 = ad [(370, δ)] 370 ∧ (x < 0) ∧ ad [(370, δ)] 370 = ad [(370, δ)] 370 ∧ (¬ y < 0) ∧ ad [(370, δ)] 370 = ad [(370, δ)] 370 ∧ F (-((x.natAbs : Int).fdiv (y.natAbs : Int))) 371 [(370, δ)]) := by
  cases b1 <;> kernel_rfl
set_option maxHeartbeats 0 in
theorem run_dNN2 {w : World} {P0 : Params} {b1 b2 : Bool} {τ : Nat} {p : Pos} {kb0 : List Stmt} {ke0 : Env} {kp0 : Pos} {kb1 : List Stmt} {ke1 : Env} {kp1 : Pos} {kb2 : List Stmt} {ke2 : Env} {kp2 : Pos} {kb3 : List Stmt} {ke3 : Env} {kp3 : Pos} {ka4 : Expr} {kb4 ko4 : List Stmt} {ke4 : Env} {kp4 : Pos} {kb5 : List Stmt} {ke5 : Env} {kp5 : Pos} {kb6 : List Stmt} {ke6 : Env} {kp6 : Pos} {kb7 : List Stmt} {ke7 : Env} {kp7 : Pos} {ka8 : Args} {kp8 : Pos} {δ tx ty : Nat} {x y : Int} {F : Int → Nat → List (Nat × Nat) → Prop} :
    sim (SR w (fol P0 b1 b2) [] id 370 370 [] (Fint F) noc) 63 ⟨h_dNN, []⟩ [(370, δ)] τ (puts .nil []) 370 690 ⟨.call (.ref 258) ⟨[.int x tx, .int y ty], []⟩, none, none, [(.func kb0 ke0, kp0), (.func kb1 ke1, kp1), (.func kb2 ke2, kp2), (.func kb3 ke3, kp3), (.whileLoop ka4 kb4 ko4 ke4, kp4), (.func kb5 ke5, kp5), (.func kb6 ke6, kp6), (.func kb7 ke7, kp7), (.builtin id_caller ka8, kp8)], none⟩ p .base (den (.call (.ref 258) ⟨[.int x tx, .int y ty], []⟩)) =
    (ad [(370, δ)] 370 = ad [(370, δ)] 370 ∧ ad [(370, δ)] 370 = ad [(370, δ)] 370 ∧ ad [(370, δ)] 370 = ad [(370, δ)] 370 ∧ ad [(370, δ)] 370 = ad [(370, δ)] 370 ∧ ad [(370, δ)] 370 = ad [(370, δ)] 370 ∧ ∀ (_ _ : Nat), ad [(370, δ)] 370 = ad [(370, δ)] 370 ∧ ∀ (_ _ : Nat), ((y.natAbs : Int) ≠ 0 ∧ Builtin.divisionGoesByPylong (x.natAbs : Int) (y.natAbs : Int) = false) ∧ ad [(370, δ)] 370 = ad [(370, δ)] 370 ∧ ad [(370, δ)] 370 = ad [(370, δ)] 370 ∧ ad [(370, δ)] 370 = ad [(370, δ)] 370 ∧ (x < 0) ∧ ad [(370, δ)] 370 = ad [(370, δ)] 370 ∧ (y < 0) ∧ ad [(370, δ)] 370 = ad [(370, δ)] 370 ∧ F ((x.natAbs : Int).fdiv (y.natAbs : Int)) 371 [(370, δ)]) := by
  cases b1 <;> kernel_rfl

/-- the quotient cut toward nought -/
noncomputable def dtzV (x y : Int) : Int := if (x < 0) = (y < 0) then (x.natAbs : Int).fdiv (y.natAbs : Int) else -((x.natAbs : Int).fdiv (y.natAbs : Int))
noncomputable def cDz (ks : List Nat) (x y : Int) (tx ty : Nat) : Nat → Con := fun n => match Nat.ble 370 n with
  | true => { code := .call (.ref 258) ⟨[.int x tx, .int y ty], []⟩, ok := okS ks, need := [], hp := .lit n (Nat.add n 1), tk := none, res := fun _ x' => .ok (.ret (.int (dtzV x y) (x' 0))), post := fun _ _ => [] }
  | false => nocon

theorem cDz1_valid {w : World} {P0 : Params} {b1 b2 : Bool} (hP : fol P0 b1 b2 = w.params) {x y : Int} (hy : y ≠ 0) (hq : Builtin.divisionGoesByPylong (x.natAbs : Int) (y.natAbs : Int) = false) {tx ty : Nat} {U A st hi js F cons} (rs) (τ n : Nat) :
    (cDz [1, 1, 1, 3, 1, 1, 1, 4] x y tx ty n).Valid (SR w (fol P0 b1 b2) U A st hi js F cons) rs τ := by
  unfold cDz
  split
  · rename_i hn
    have hn := Nat.le_of_ble_eq_true hn
    refine Con.valid_leaf (k := 1) (hi := 370) (cons := noc) (SR_base hP) rfl rfl hn (by show 369 ≤ 370; omega) rfl (fun _ _ => rfl) (fun _ _ => rfl) (fun _ _ _ _ _ _ _ => nocon_valid) ?_
    intro Γ p δ τr hok hc
    obtain ⟨l, hΓ, hs0⟩ := okS_is hok
    obtain ⟨kb0, ke0, kp0, l0, rfl, hs1⟩ := shp1 hs0
    obtain ⟨kb1, ke1, kp1, l1, rfl, hs2⟩ := shp1 hs1
    obtain ⟨kb2, ke2, kp2, l2, rfl, hs3⟩ := shp1 hs2
    obtain ⟨ka3, kb3, ko3, ke3, kp3, l3, rfl, hs4⟩ := shp3 hs3
    obtain ⟨kb4, ke4, kp4, l4, rfl, hs5⟩ := shp1 hs4
    obtain ⟨kb5, ke5, kp5, l5, rfl, hs6⟩ := shp1 hs5
    obtain ⟨kb6, ke6, kp6, l6, rfl, hs7⟩ := shp1 hs6
    obtain ⟨ka7, kp7, rfl⟩ := shp4 hs7
    rw [hc] at hΓ
    rw [hΓ]
    have leaf : ∀ v : Int, ∀ e m rs' τ' j os, Fint (fun x m rs => x = v ∧ m = 370 + 1 ∧ rs = [(370, δ)]) e m rs' τ' j os → ∃ x : Nat → Nat, e = .res (.ok (.ret (.int v (x 0)))) ∧ m = 370 + 1 ∧ rs' = [(370, δ)] := by
      intro v e m rs' τ' j os h
      obtain ⟨x, t, rfl, rfl, h2, h3⟩ := Fint_is h
      exact ⟨fun _ => t, rfl, h2, h3⟩
    have hy' : (y.natAbs : Int) ≠ 0 := by omega
    by_cases hx : x < 0
    · by_cases hyy : y < 0
      · have hv : dtzV x y = (x.natAbs : Int).fdiv (y.natAbs : Int) := by
          unfold dtzV
          rw [if_pos (by simp [hx, hyy])]
        rw [hv]
        refine ⟨_, 63, ⟨h_dNN, []⟩, leaf _, ?_⟩
        refine cast (run_dNN1).symm ?_
        exact ⟨rfl, ⟨rfl, ⟨rfl, ⟨rfl, ⟨rfl, fun _ _ => ⟨rfl, fun _ _ => ⟨⟨hy', hq⟩, ⟨rfl, ⟨rfl, ⟨rfl, ⟨hx, ⟨rfl, ⟨hyy, ⟨rfl, ⟨rfl, rfl, rfl⟩⟩⟩⟩⟩⟩⟩⟩⟩⟩⟩⟩⟩⟩⟩
      · have hv : dtzV x y = -((x.natAbs : Int).fdiv (y.natAbs : Int)) := by
          unfold dtzV
          rw [if_neg (by simp [hx, hyy])]
        rw [hv]
        refine ⟨_, 68, ⟨h_dNP, []⟩, leaf _, ?_⟩
        refine cast (run_dNP1).symm ?_
        exact ⟨rfl, ⟨rfl, ⟨rfl, ⟨rfl, ⟨rfl, fun _ _ => ⟨rfl, fun _ _ => ⟨⟨hy', hq⟩, ⟨rfl, ⟨rfl, ⟨rfl, ⟨hx, ⟨rfl, ⟨hyy, ⟨rfl, ⟨rfl, rfl, rfl⟩⟩⟩⟩⟩⟩⟩⟩⟩⟩⟩⟩⟩⟩⟩
    · by_cases hyy : y < 0
      · have hv : dtzV x y = -((x.natAbs : Int).fdiv (y.natAbs : Int)) := by
          unfold dtzV
          rw [if_neg (by simp [hx, hyy])]
        rw [hv]
        refine ⟨_, 68, ⟨h_dPN, []⟩, leaf _, ?_⟩
        refine cast (run_dPN1).symm ?_
        exact ⟨rfl, ⟨rfl, ⟨rfl, ⟨rfl, ⟨rfl, fun _ _ => ⟨rfl, fun _ _ => ⟨⟨hy', hq⟩, ⟨rfl, ⟨rfl, ⟨rfl, ⟨hx, ⟨rfl, ⟨hyy, ⟨rfl, ⟨rfl, rfl, rfl⟩⟩⟩⟩⟩⟩⟩⟩⟩⟩⟩⟩⟩⟩⟩
      · have hv : dtzV x y = (x.natAbs : Int).fdiv (y.natAbs : Int) := by
          unfold dtzV
          rw [if_pos (by simp [hx, hyy])]
        rw [hv]
        refine ⟨_, 63, ⟨h_dPP, []⟩, leaf _, ?_⟩
        refine cast (run_dPP1).symm ?_
        exact ⟨rfl, ⟨rfl, ⟨rfl, ⟨rfl, ⟨rfl, fun _ _ => ⟨rfl, fun _ _ => ⟨⟨hy', hq⟩, ⟨rfl, ⟨rfl, ⟨rfl, ⟨hx, ⟨rfl, ⟨hyy, ⟨rfl, ⟨rfl, rfl, rfl⟩⟩⟩⟩⟩⟩⟩⟩⟩⟩⟩⟩⟩⟩⟩
  · exact nocon_valid

theorem cDz2_valid {w : World} {P0 : Params} {b1 b2 : Bool} (hP : fol P0 b1 b2 = w.params) {x y : Int} (hy : y ≠ 0) (hq : Builtin.divisionGoesByPylong (x.natAbs : Int) (y.natAbs : Int) = false) {tx ty : Nat} {U A st hi js F cons} (rs) (τ n : Nat) :
    (cDz [1, 1, 1, 1, 3, 1, 1, 1, 4] x y tx ty n).Valid (SR w (fol P0 b1 b2) U A st hi js F cons) rs τ := by
  unfold cDz
  split
  · rename_i hn
    have hn := Nat.le_of_ble_eq_true hn
    refine Con.valid_leaf (k := 1) (hi := 370) (cons := noc) (SR_base hP) rfl rfl hn (by show 369 ≤ 370; omega) rfl (fun _ _ => rfl) (fun _ _ => rfl) (fun _ _ _ _ _ _ _ => nocon_valid) ?_
    intro Γ p δ τr hok hc
    obtain ⟨l, hΓ, hs0⟩ := okS_is hok
    obtain ⟨kb0, ke0, kp0, l0, rfl, hs1⟩ := shp1 hs0
    obtain ⟨kb1, ke1, kp1, l1, rfl, hs2⟩ := shp1 hs1
    obtain ⟨kb2, ke2, kp2, l2, rfl, hs3⟩ := shp1 hs2
    obtain ⟨kb3, ke3, kp3, l3, rfl, hs4⟩ := shp1 hs3
    obtain ⟨ka4, kb4, ko4, ke4, kp4, l4, rfl, hs5⟩ := shp3 hs4
    obtain ⟨kb5, ke5, kp5, l5, rfl, hs6⟩ := shp1 hs5
    obtain ⟨kb6, ke6, kp6, l6, rfl, hs7⟩ := shp1 hs6
    obtain ⟨kb7, ke7, kp7, l7, rfl, hs8⟩ := shp1 hs7
    obtain ⟨ka8, kp8, rfl⟩ := shp4 hs8
    rw [hc] at hΓ
    rw [hΓ]
    have leaf : ∀ v : Int, ∀ e m rs' τ' j os, Fint (fun x m rs => x = v ∧ m = 370 + 1 ∧ rs = [(370, δ)]) e m rs' τ' j os → ∃ x : Nat → Nat, e = .res (.ok (.ret (.int v (x 0)))) ∧ m = 370 + 1 ∧ rs' = [(370, δ)] := by
      intro v e m rs' τ' j os h
      obtain ⟨x, t, rfl, rfl, h2, h3⟩ := Fint_is h
      exact ⟨fun _ => t, rfl, h2, h3⟩
    have hy' : (y.natAbs : Int) ≠ 0 := by omega
    by_cases hx : x < 0
    · by_cases hyy : y < 0
      · have hv : dtzV x y = (x.natAbs : Int).fdiv (y.natAbs : Int) := by
          unfold dtzV
          rw [if_pos (by simp [hx, hyy])]
        rw [hv]
        refine ⟨_, 63, ⟨h_dNN, []⟩, leaf _, ?_⟩
        refine cast (run_dNN2).symm ?_
        exact ⟨rfl, ⟨rfl, ⟨rfl, ⟨rfl, ⟨rfl, fun _ _ => ⟨rfl, fun _ _ => ⟨⟨hy', hq⟩, ⟨rfl, ⟨rfl, ⟨rfl, ⟨hx, ⟨rfl, ⟨hyy, ⟨rfl, ⟨rfl, rfl, rfl⟩⟩⟩⟩⟩⟩⟩⟩⟩⟩⟩⟩⟩⟩⟩
      · have hv : dtzV x y = -((x.natAbs : Int).fdiv (y.natAbs : Int)) := by
          unfold dtzV
          rw [if_neg (by simp [hx, hyy])]
        rw [hv]
        refine ⟨_, 68, ⟨h_dNP, []⟩, leaf _, ?_⟩
        refine cast (run_dNP2).symm ?_
        exact ⟨rfl, ⟨rfl, ⟨rfl, ⟨rfl, ⟨rfl, fun _ _ => ⟨rfl, fun _ _ => ⟨⟨hy', hq⟩, ⟨rfl, ⟨rfl, ⟨rfl, ⟨hx, ⟨rfl, ⟨hyy, ⟨rfl, ⟨rfl, rfl, rfl⟩⟩⟩⟩⟩⟩⟩⟩⟩⟩⟩⟩⟩⟩⟩
    · by_cases hyy : y < 0
      · have hv : dtzV x y = -((x.natAbs : Int).fdiv (y.natAbs : Int)) := by
          unfold dtzV
          rw [if_neg (by simp [hx, hyy])]
        rw [hv]
        refine ⟨_, 68, ⟨h_dPN, []⟩, leaf _, ?_⟩
        refine cast (run_dPN2).symm ?_
        exact ⟨rfl, ⟨rfl, ⟨rfl, ⟨rfl, ⟨rfl, fun _ _ => ⟨rfl, fun _ _ => ⟨⟨hy', hq⟩, ⟨rfl, ⟨rfl, ⟨rfl, ⟨hx, ⟨rfl, ⟨hyy, ⟨rfl, ⟨rfl, rfl, rfl⟩⟩⟩⟩⟩⟩⟩⟩⟩⟩⟩⟩⟩⟩⟩
      · have hv : dtzV x y = (x.natAbs : Int).fdiv (y.natAbs : Int) := by
          unfold dtzV
          rw [if_pos (by simp [hx, hyy])]
        rw [hv]
        refine ⟨_, 63, ⟨h_dPP, []⟩, leaf _, ?_⟩
        refine cast (run_dPP2).symm ?_
        exact ⟨rfl, ⟨rfl, ⟨rfl, ⟨rfl, ⟨rfl, fun _ _ => ⟨rfl, fun _ _ => ⟨⟨hy', hq⟩, ⟨rfl, ⟨rfl, ⟨rfl, ⟨hx, ⟨rfl, ⟨hyy, ⟨rfl, ⟨rfl, rfl, rfl⟩⟩⟩⟩⟩⟩⟩⟩⟩⟩⟩⟩⟩⟩⟩
  · exact nocon_valid
end Mine
end
section
open PySem PySem.W PySem.W.X
namespace Mine
noncomputable def h_gTurn : List (Nat × H) := [(72, .at 369), (70, .op 13), (66, .at 369), (64, .at 369), (62, .at 369), (60, .op 17), (57, .at 370), (56, .at 370), (55, .at 370), (52, .at 370), (48, .at 371), (47, .at 371), (45, .at 371), (43, .at 371), (42, .at 371), (41, .at 370), (40, .at 371), (39, .at 371), (37, .at 371), (35, .at 371), (33, .at 371), (32, .at 371), (31, .at 370), (30, .at 371), (29, .at 371), (27, .at 371), (25, .at 371), (23, .at 371), (22, .at 371), (21, .at 370), (19, .at 371), (18, .at 371), (13, .at 373), (9, .at 369), (8, .at 369), (3, .at 369), (2, .at 369), (0, .stop)]
noncomputable def h_gEnd : List (Nat × H) := [(10, .at 369), (8, .op 14)]

/-- a function of the program, by its number -/
noncomputable def fnR (P : Params) (a : Nat) : FuncData := match (kt0 P).get a with
  | some o => match o.data with
    | .func r => r
    | _ => default
  | none => default
noncomputable def fnEnv (P : Params) (a fa : Nat) : Env :=
  { scope := (fnR P a).scope, locals := fa, globals := (fnR P a).globals, cells := (fnR P a).closure, qual := (fnR P a).qualname ++ Str.ofString ".<locals>.", func := some a, code := (fnR P a).code, frame := some fa, builtins := (fnR P a).builtins }
noncomputable def fnBody (P : Params) (a : Nat) : List Stmt := match (fnR P a).body with
  | .stmts l => l
  | .expr _ => []
noncomputable def gcdLoop (P : Params) (fa : Nat) : Code := match fnBody P 272 with
  | [_, _, .While a b o _, _] => .whileLoop a b o (fnEnv P 272 fa)
  | _ => .builtin "" {}
noncomputable def sFirst : Str := ⟨⟨[102, 105, 114, 115, 116]⟩⟩
noncomputable def sSecond : Str := ⟨⟨[115, 101, 99, 111, 110, 100]⟩⟩
/-- the frame of greatest_divisor at its loop -/
noncomputable def gcdFr (P : Params) (kf ks : Nat) (x : Int) (tx : Nat) (y : Int) (ty : Nat) : Obj :=
  ⟨.type ty_frame, none, .dict ⟨[⟨hS P sFirst, .str sFirst kf, .int x tx⟩, ⟨hS P sSecond, .str sSecond ks, .int y ty⟩]⟩ 2, ⟨[]⟩⟩

/-- the ends of one turn -/
noncomputable def Floop (G : Result → Nat → List (Nat × Nat) → List (Option Obj) → Prop) (T : PySem.Ctx → Nat → List (Nat × Nat) → List (Option Obj) → Prop) : End → Nat → List (Nat × Nat) → Nat → Nat → List (Option Obj) → Prop := fun e m rs _ _ os => match e with
  | .res r => G r m rs os
  | .turn Γ _ => T Γ m rs os
set_option maxHeartbeats 0 in
theorem run_gTurn {w : World} {P0 : Params} {b1 b2 : Bool} {τ : Nat} {p : Pos} {l : List (Code × Pos)} {fa δ1 δ2 kf ks tx ty : Nat} {x y : Int} {A : Nat → Nat} {G T} :
    sim (SR w (fol P0 b1 b2) [369] A 370 369 [369] (Floop G T) noc) 74 ⟨h_gTurn, []⟩ [(370, δ2), (369, δ1)] τ (puts .nil [(369, gcdFr (fol P0 b1 b2) kf ks x tx y ty)]) 370 690 ⟨gcdLoop (fol P0 b1 b2) fa, none, none, l, none⟩ p .base (den (gcdLoop (fol P0 b1 b2) fa)) =
    (fa = ad [(370, δ2), (369, δ1)] 369 ∧ (y ≠ 0) ∧ fa = ad [(370, δ2), (369, δ1)] 369 ∧ fa = ad [(370, δ2), (369, δ1)] 369 ∧ fa = ad [(370, δ2), (369, δ1)] 369 ∧ (y ≠ 0) ∧ ad [(370, δ2), (369, δ1)] 370 = ad [(370, δ2), (369, δ1)] 370 ∧ ad [(370, δ2), (369, δ1)] 370 = ad [(370, δ2), (369, δ1)] 370 ∧ ad [(370, δ2), (369, δ1)] 370 = ad [(370, δ2), (369, δ1)] 370 ∧ ad [(370, δ2), (369, δ1)] 370 = ad [(370, δ2), (369, δ1)] 370 ∧ ad [(370, δ2), (369, δ1)] 371 = ad [(370, δ2), (369, δ1)] 371 ∧ ad [(370, δ2), (369, δ1)] 371 = ad [(370, δ2), (369, δ1)] 371 ∧ ad [(370, δ2), (369, δ1)] 371 = ad [(370, δ2), (369, δ1)] 371 ∧ ad [(370, δ2), (369, δ1)] 371 = ad [(370, δ2), (369, δ1)] 371 ∧ ad [(370, δ2), (369, δ1)] 371 = ad [(370, δ2), (369, δ1)] 371 ∧ ad [(370, δ2), (369, δ1)] 370 = ad [(370, δ2), (369, δ1)] 370 ∧ ad [(370, δ2), (369, δ1)] 371 = ad [(370, δ2), (369, δ1)] 371 ∧ ad [(370, δ2), (369, δ1)] 371 = ad [(370, δ2), (369, δ1)] 371 ∧ ad [(370, δ2), (369, δ1)] 371 = ad [(370, δ2), (369, δ1)] 371 ∧ ad [(370, δ2), (369, δ1)] 371 = ad [(370, δ2), (369, δ1)] 371 ∧ ad [(370, δ2), (369, δ1)] 371 = ad [(370, δ2), (369, δ1)] 371 ∧ ad [(370, δ2), (369, δ1)] 371 = ad [(370, δ2), (369, δ1)] 371 ∧ ad [(370, δ2), (369, δ1)] 370 = ad [(370, δ2), (369, δ1)] 370 ∧ ad [(370, δ2), (369, δ1)] 371 = ad [(370, δ2), (369, δ1)] 371 ∧ ad [(370, δ2), (369, δ1)] 371 = ad [(370, δ2), (369, δ1)] 371 ∧ ad [(370, δ2), (369, δ1)] 371 = ad [(370, δ2), (369, δ1)] 371 ∧ ad [(370, δ2), (369, δ1)] 371 = ad [(370, δ2), (369, δ1)] 371 ∧ ad [(370, δ2), (369, δ1)] 371 = ad [(370, δ2), (369, δ1)] 371 ∧ ad [(370, δ2), (369, δ1)] 371 = ad [(370, δ2), (369, δ1)] 371 ∧ ad [(370, δ2), (369, δ1)] 370 = ad [(370, δ2), (369, δ1)] 370 ∧ ad [(370, δ2), (369, δ1)] 371 = ad [(370, δ2), (369, δ1)] 371 ∧ ad [(370, δ2), (369, δ1)] 371 = ad [(370, δ2), (369, δ1)] 371 ∧ ad [(370, δ2), (369, δ1)] 373 = ad [(370, δ2), (369, δ1)] 373 ∧ fa = ad [(370, δ2), (369, δ1)] 369 ∧ fa = ad [(370, δ2), (369, δ1)] 369 ∧ fa = ad [(370, δ2), (369, δ1)] 369 ∧ fa = ad [(370, δ2), (369, δ1)] 369 ∧ T ⟨gcdLoop (fol P0 b1 b2) fa, none, none, l, none⟩ 374 [(370, δ2), (369, δ1)] [some (gcdFr (fol P0 b1 b2) kf ks y ty (x.fmod y) (Nat.add τ 690))]) := by
  cases b1 <;> kernel_rfl
set_option maxHeartbeats 0 in
theorem run_gEnd {w : World} {P0 : Params} {b1 b2 : Bool} {τ : Nat} {p : Pos} {l : List (Code × Pos)} {fa δ1 δ2 kf ks tx ty : Nat} {x y : Int} {A : Nat → Nat} {G T} :
    sim (SR w (fol P0 b1 b2) [369] A 370 369 [369] (Floop G T) noc) 12 ⟨h_gEnd, []⟩ [(370, δ2), (369, δ1)] τ (puts .nil [(369, gcdFr (fol P0 b1 b2) kf ks x tx y ty)]) 370 690 ⟨gcdLoop (fol P0 b1 b2) fa, none, none, l, none⟩ p .base (den (gcdLoop (fol P0 b1 b2) fa)) =
    (fa = ad [(370, δ2), (369, δ1)] 369 ∧ (y = 0) ∧ G (.ok .next) 370 [(370, δ2), (369, δ1)] [some (gcdFr (fol P0 b1 b2) kf ks x tx y ty)]) := by
  cases b1 <;> kernel_rfl

theorem gcd_turn (x y : Int) : Int.gcd y (x % y) = Int.gcd x y := by
  have h : x % y = x + (-(x / y)) * y := by
    have := Int.mul_ediv_add_emod x y
    rw [Int.mul_comm] at this
    rw [Int.neg_mul]; omega
  rw [h, Int.gcd_add_mul_right_right, Int.gcd_comm]

theorem gcd_loop {w : World} {P0 : Params} {b1 b2 : Bool} (hP : fol P0 b1 b2 = w.params) {l : List (Code × Pos)} {fa kf ks : Nat} (h1 : 369 ≤ fa) : ∀ (k : Nat) (x y : Int) (tx ty : Nat) (p : Pos) (s : Shared), y.natAbs < k → 0 ≤ x → 0 ≤ y →
    s.heap.get? fa = some (gcdFr (fol P0 b1 b2) kf ks x tx y ty) → (∀ a o, a < 369 → (kt0 (fol P0 b1 b2)).get a = some o → s.heap.get? a = some o) → 690 ≤ s.toks → s.gens = #[] →
    wpCode (model pw w) ⟨gcdLoop (fol P0 b1 b2) fa, none, none, l, none⟩ (fun r s' => r = .ok .next ∧ (∃ tg t0, s'.heap.get? fa = some (gcdFr (fol P0 b1 b2) kf ks (Int.gcd x y) tg 0 t0)) ∧
      (∀ b o, b ≠ fa → s.heap.get? b = some o → s'.heap.get? b = some o) ∧ s.heap.objs.size ≤ s'.heap.objs.size ∧ s.toks ≤ s'.toks ∧ s'.gens = #[] ∧ s'.os = s.os) p s := by
  intro k
  induction k with
  | zero => intro x y tx ty p s h; omega
  | succ k ih =>
    intro x y tx ty p s hk hx hy hfr hold ht hg
    have hsz : fa < s.heap.objs.size := Heap.lt_size hfr
    have hfa : fa = ad (fr 369 fa s.heap.objs.size) 369 := (fr_own h1 hsz).symm
    by_cases h0 : y = 0
    · subst h0
      refine frame_run (S := SR w (fol P0 b1 b2) [] id 370 369 [] (Floop (fun _ _ _ _ => True) (fun _ _ _ _ => True)) noc) (lo := 369) (o := gcdFr (fol P0 b1 b2) kf ks x tx 0 ty) (cons := noc) (f := 12) (hs := ⟨h_gEnd, []⟩)
        (W := fun e m o' => e = .res (.ok .next) ∧ m = 370 ∧ o' = gcdFr (fol P0 b1 b2) kf ks x tx 0 ty)
        (F := Floop (fun r m rs os => r = .ok .next ∧ m = 370 ∧ rs = fr 369 fa s.heap.objs.size ∧ os = [some (gcdFr (fol P0 b1 b2) kf ks x tx 0 ty)]) (fun _ _ _ _ => False))
        rfl (by decide) (SR_base hP) h1 hfr hold ht hg (fun _ _ _ _ _ _ _ => nocon_valid) ?_ ?_ ?_
      · intro e m rs τ' j os h
        cases e with
        | res r => obtain ⟨h1, h2, h3, h4⟩ := h; exact ⟨_, h4, h3, by rw [h1], h2, rfl⟩
        | turn => cases h
      · refine cast (run_gEnd (kf := kf) (ks := ks) (x := x) (y := 0)).symm ?_
        exact ⟨hfa, rfl, rfl, rfl, rfl, rfl⟩
      · rintro e m o' s' ⟨rfl, rfl, rfl⟩ e1 e2 e3 e4 e5 e6 e7
        refine ⟨rfl, ⟨tx, ty, ?_⟩, e2, by omega, e5, e6, e7⟩
        rw [e1]
        have : ((Int.gcd x 0 : Nat) : Int) = x := by rw [Int.gcd_zero_right]; omega
        rw [this]
    · refine frame_run (S := SR w (fol P0 b1 b2) [] id 370 369 [] (Floop (fun _ _ _ _ => True) (fun _ _ _ _ => True)) noc) (lo := 369) (o := gcdFr (fol P0 b1 b2) kf ks x tx y ty) (cons := noc) (f := 74) (hs := ⟨h_gTurn, []⟩)
        (W := fun e m o' => (∃ q, e = .turn ⟨gcdLoop (fol P0 b1 b2) fa, none, none, l, none⟩ q) ∧ m = 374 ∧ o' = gcdFr (fol P0 b1 b2) kf ks y ty (x.fmod y) (Nat.add (s.toks - 690) 690))
        (F := Floop (fun _ _ _ _ => False) (fun Γ m rs os => Γ = ⟨gcdLoop (fol P0 b1 b2) fa, none, none, l, none⟩ ∧ m = 374 ∧ rs = fr 369 fa s.heap.objs.size ∧ os = [some (gcdFr (fol P0 b1 b2) kf ks y ty (x.fmod y) (Nat.add (s.toks - 690) 690))]))
        rfl (by decide) (SR_base hP) h1 hfr hold ht hg (fun _ _ _ _ _ _ _ => nocon_valid) ?_ ?_ ?_
      · intro e m rs τ' j os h
        cases e with
        | res r => cases h
        | turn Γ q => obtain ⟨h1, h2, h3, h4⟩ := h; exact ⟨_, h4, h3, ⟨q, by rw [h1]⟩, h2, rfl⟩
      · refine cast (run_gTurn (kf := kf) (ks := ks) (x := x) (y := y)).symm ?_
        exact ⟨hfa, h0, hfa, hfa, hfa, h0, rfl, rfl, rfl, rfl, rfl, rfl, rfl, rfl, rfl, rfl, rfl, rfl, rfl, rfl, rfl, rfl, rfl, rfl, rfl, rfl, rfl, rfl, rfl, rfl, rfl, rfl, rfl, hfa, hfa, hfa, hfa, rfl, rfl, rfl, rfl⟩
      · rintro e m o' s' ⟨⟨q, rfl⟩, rfl, rfl⟩ e1 e2 e3 e4 e5 e6 e7
        have f1 : 0 ≤ x.fmod y := Int.fmod_nonneg hx hy
        have f2 : x.fmod y < y := Int.fmod_lt_of_pos x (by omega)
        have := ih y (x.fmod y) ty (Nat.add (s.toks - 690) 690) q s' (by omega) hy f1 e1 (fun a o ha e => e2 a o (by omega) (hold a o ha e)) (by omega) e6
        refine wpCode_mono (fun r s'' h => ?_) this
        obtain ⟨g1, ⟨tg, t0, g2⟩, g3, g4, g5, g6, g7⟩ := h
        have hgcd : Int.gcd y (x.fmod y) = Int.gcd x y := by
          rw [Int.fmod_eq_emod_of_nonneg x hy]
          exact gcd_turn x y
        rw [hgcd] at g2
        exact ⟨g1, ⟨tg, t0, g2⟩, fun b o hb e => g3 b o hb (e2 b o hb e), by omega, by omega, g6, g7.trans e7⟩

noncomputable def okN (Γ : PySem.Ctx) : Bool := match Γ.handled with
  | some _ => false
  | none => match Γ.own with
    | some _ => false
    | none => match Γ.past with
      | some _ => false
      | none => true
theorem okN_is {Γ : PySem.Ctx} (h : okN Γ = true) : ∃ l, Γ = ⟨Γ.code, none, none, l, none⟩ := by
  obtain ⟨c, h1, h2, l, h3⟩ := Γ
  unfold okN at h
  split at h
  · cases h
  · split at h
    · cases h
    · split at h
      · cases h
      · rename_i _ q1 _ q2 _ q3
        have q1 : h1 = none := q1
        have q2 : h2 = none := q2
        have q3 : h3 = none := q3
        subst q1 q2 q3
        exact ⟨l, rfl⟩

/-- the promise of the loop; its frame's number is the newest -/
noncomputable def cGl (P : Params) (g : Bool) (x y : Int) (kf ks tx ty : Nat) : List (Nat × Nat) → Nat → Con := fun rs n => match Nat.ble 370 n with
  | true => { code := gcdLoop P (ad rs (Nat.pred n)), ok := okN, need := [(Nat.pred n, gcdFr P kf ks x tx y ty)], hp := (match g with | true => Gr.grow n n | false => Gr.any), tk := none, res := fun _ _ => .ok .next, post := fun _ x' => [(Nat.pred n, gcdFr P kf ks (Int.gcd x y) (x' 0) 0 (x' 1))] }
  | false => nocon
theorem cGl_valid {w : World} {P0 : Params} {b1 b2 : Bool} (hP : fol P0 b1 b2 = w.params) {x y : Int} (hx : 0 ≤ x) (hy : 0 ≤ y) (g : Bool) {kf ks tx ty : Nat} {U A st hi js F cons} (rs) (τ n : Nat) :
    (cGl (fol P0 b1 b2) g x y kf ks tx ty rs n).Valid (SR w (fol P0 b1 b2) U A st hi js F cons) rs τ := by
  unfold cGl
  split
  · rename_i hn
    have hn := Nat.le_of_ble_eq_true hn
    intro m i Γ p s hc hok hm hlow hh hold hneed hsz ht hg
    obtain ⟨hh1, hh2⟩ := hh
    have hh2 : 690 ≤ i := hh2
    obtain ⟨l, hΓ⟩ := okN_is hok
    rw [hc] at hΓ
    rw [hΓ]
    have hfr := hneed _ (List.mem_singleton.mpr rfl)
    have hp1 : Nat.pred n = n - 1 := rfl
    have hfa : 369 ≤ ad rs (Nat.pred n) := by
      have := hm.ge (Nat.pred n)
      omega
    refine wpCode_mono (fun r s' h => ?_) (gcd_loop hP hfa (y.natAbs + 1) x y tx ty p s (Nat.lt_succ_self _) hx hy hfr hold (by omega) hg)
    obtain ⟨g1, ⟨tg, t0, g2⟩, g3, g4, g5, g6, g7⟩ := h
    refine ⟨s'.toks - i, fun k => if k = 0 then tg else t0, g1, ⟨fun z hz => ?_, fun b o hb e => g3 b o (hb _ (.head _)) e, g6, g7⟩, g5, ?_, ?_⟩
    · cases List.mem_singleton.mp hz
      exact g2
    · cases g with
      | true =>
        obtain ⟨rfl, rfl⟩ := hh1
        show m ≤ s'.heap.objs.size
        have : s.heap.objs.size = m := hsz
        omega
      | false => exact g4
    · show s'.toks = s'.toks - i + i
      omega
  · exact nocon_valid
end Mine
end
section
open PySem PySem.W PySem.W.X
namespace Mine
/-- the names, as they are made -/
noncomputable def symObjs (P : Params) (τ : Nat) : List (Nat × Obj) := [(373, ⟨.type ty_dict, none, .dict ⟨[⟨(hS P ⟨⟨[116, 101, 120, 116, 115]⟩⟩), .str ⟨⟨[116, 101, 120, 116, 115]⟩⟩ (Nat.add τ 693), .ref 376⟩, ⟨(hS P ⟨⟨[97, 116, 111, 109, 95, 110, 117, 109, 98, 101, 114, 115]⟩⟩), .str ⟨⟨[97, 116, 111, 109, 95, 110, 117, 109, 98, 101, 114, 115]⟩⟩ (Nat.add τ 695), .ref 377⟩, ⟨(hS P ⟨⟨[102, 117, 110, 99, 116, 111, 114, 115]⟩⟩), .str ⟨⟨[102, 117, 110, 99, 116, 111, 114, 115]⟩⟩ (Nat.add τ 697), .ref 378⟩, ⟨(hS P ⟨⟨[102, 117, 110, 99, 116, 111, 114, 95, 110, 117, 109, 98, 101, 114, 115]⟩⟩), .str ⟨⟨[102, 117, 110, 99, 116, 111, 114, 95, 110, 117, 109, 98, 101, 114, 115]⟩⟩ (Nat.add τ 699), .ref 379⟩]⟩ 4, ⟨[]⟩⟩),
  (374, ⟨.ref 154, some 373, .plain, ⟨[]⟩⟩),
  (376, ⟨.type ty_list, none, .seq ⟨[.str ⟨⟨[91, 93]⟩⟩ (Nat.add τ 700), .str ⟨⟨[46]⟩⟩ (Nat.add τ 701), .str ⟨⟨[123, 125]⟩⟩ (Nat.add τ 702), .str ⟨⟨[45]⟩⟩ (Nat.add τ 703), .str ⟨⟨[43]⟩⟩ (Nat.add τ 704), .str ⟨⟨[42]⟩⟩ (Nat.add τ 705), .str ⟨⟨[47]⟩⟩ (Nat.add τ 706), .str ⟨⟨[44]⟩⟩ (Nat.add τ 707), .str ⟨⟨[124]⟩⟩ (Nat.add τ 708), .str ⟨⟨[59]⟩⟩ (Nat.add τ 709), .str ⟨⟨[45, 62]⟩⟩ (Nat.add τ 710), .str ⟨⟨[92, 43]⟩⟩ (Nat.add τ 711), .str ⟨⟨[58, 45]⟩⟩ (Nat.add τ 712), .str ⟨⟨[63, 45]⟩⟩ (Nat.add τ 713), .str ⟨⟨[45, 45, 62]⟩⟩ (Nat.add τ 714), .str ⟨⟨[33]⟩⟩ (Nat.add τ 715), .str ⟨⟨[116, 114, 117, 101]⟩⟩ (Nat.add τ 716), .str ⟨⟨[102, 97, 105, 108]⟩⟩ (Nat.add τ 717), .str ⟨⟨[102, 97, 108, 115, 101]⟩⟩ (Nat.add τ 718), .str ⟨⟨[99, 97, 108, 108]⟩⟩ (Nat.add τ 719), .str ⟨⟨[61]⟩⟩ (Nat.add τ 720), .str ⟨⟨[94]⟩⟩ (Nat.add τ 721), .str ⟨⟨[101, 114, 114, 111, 114]⟩⟩ (Nat.add τ 722), .str ⟨⟨[]⟩⟩ (Nat.add τ 723), .str ⟨⟨[101, 110, 100, 95, 111, 102, 95, 102, 105, 108, 101]⟩⟩ (Nat.add τ 724), .str ⟨⟨[115, 121, 115, 116, 101, 109]⟩⟩ (Nat.add τ 725), .str ⟨⟨[36, 86, 65, 82]⟩⟩ (Nat.add τ 726), .str ⟨⟨[99, 97, 116, 99, 104]⟩⟩ (Nat.add τ 727), .str ⟨⟨[116, 104, 114, 111, 119]⟩⟩ (Nat.add τ 728)]⟩ 29, ⟨[]⟩⟩),
  (377, ⟨.type ty_dict, none, .dict ⟨[⟨(hS P ⟨⟨[91, 93]⟩⟩), .str ⟨⟨[91, 93]⟩⟩ (Nat.add τ 700), .int (0) (Nat.add τ 740)⟩, ⟨(hS P ⟨⟨[46]⟩⟩), .str ⟨⟨[46]⟩⟩ (Nat.add τ 701), .int (1) (Nat.add τ 756)⟩, ⟨(hS P ⟨⟨[123, 125]⟩⟩), .str ⟨⟨[123, 125]⟩⟩ (Nat.add τ 702), .int (2) (Nat.add τ 772)⟩, ⟨(hS P ⟨⟨[45]⟩⟩), .str ⟨⟨[45]⟩⟩ (Nat.add τ 703), .int (3) (Nat.add τ 788)⟩, ⟨(hS P ⟨⟨[43]⟩⟩), .str ⟨⟨[43]⟩⟩ (Nat.add τ 704), .int (4) (Nat.add τ 804)⟩, ⟨(hS P ⟨⟨[42]⟩⟩), .str ⟨⟨[42]⟩⟩ (Nat.add τ 705), .int (5) (Nat.add τ 820)⟩, ⟨(hS P ⟨⟨[47]⟩⟩), .str ⟨⟨[47]⟩⟩ (Nat.add τ 706), .int (6) (Nat.add τ 836)⟩, ⟨(hS P ⟨⟨[44]⟩⟩), .str ⟨⟨[44]⟩⟩ (Nat.add τ 707), .int (7) (Nat.add τ 852)⟩, ⟨(hS P ⟨⟨[124]⟩⟩), .str ⟨⟨[124]⟩⟩ (Nat.add τ 708), .int (8) (Nat.add τ 868)⟩, ⟨(hS P ⟨⟨[59]⟩⟩), .str ⟨⟨[59]⟩⟩ (Nat.add τ 709), .int (9) (Nat.add τ 884)⟩, ⟨(hS P ⟨⟨[45, 62]⟩⟩), .str ⟨⟨[45, 62]⟩⟩ (Nat.add τ 710), .int (10) (Nat.add τ 900)⟩, ⟨(hS P ⟨⟨[92, 43]⟩⟩), .str ⟨⟨[92, 43]⟩⟩ (Nat.add τ 711), .int (11) (Nat.add τ 916)⟩, ⟨(hS P ⟨⟨[58, 45]⟩⟩), .str ⟨⟨[58, 45]⟩⟩ (Nat.add τ 712), .int (12) (Nat.add τ 932)⟩, ⟨(hS P ⟨⟨[63, 45]⟩⟩), .str ⟨⟨[63, 45]⟩⟩ (Nat.add τ 713), .int (13) (Nat.add τ 948)⟩, ⟨(hS P ⟨⟨[45, 45, 62]⟩⟩), .str ⟨⟨[45, 45, 62]⟩⟩ (Nat.add τ 714), .int (14) (Nat.add τ 964)⟩, ⟨(hS P ⟨⟨[33]⟩⟩), .str ⟨⟨[33]⟩⟩ (Nat.add τ 715), .int (15) (Nat.add τ 980)⟩, ⟨(hS P ⟨⟨[116, 114, 117, 101]⟩⟩), .str ⟨⟨[116, 114, 117, 101]⟩⟩ (Nat.add τ 716), .int (16) (Nat.add τ 996)⟩, ⟨(hS P ⟨⟨[102, 97, 105, 108]⟩⟩), .str ⟨⟨[102, 97, 105, 108]⟩⟩ (Nat.add τ 717), .int (17) (Nat.add τ 1012)⟩, ⟨(hS P ⟨⟨[102, 97, 108, 115, 101]⟩⟩), .str ⟨⟨[102, 97, 108, 115, 101]⟩⟩ (Nat.add τ 718), .int (18) (Nat.add τ 1028)⟩, ⟨(hS P ⟨⟨[99, 97, 108, 108]⟩⟩), .str ⟨⟨[99, 97, 108, 108]⟩⟩ (Nat.add τ 719), .int (19) (Nat.add τ 1044)⟩, ⟨(hS P ⟨⟨[61]⟩⟩), .str ⟨⟨[61]⟩⟩ (Nat.add τ 720), .int (20) (Nat.add τ 1060)⟩, ⟨(hS P ⟨⟨[94]⟩⟩), .str ⟨⟨[94]⟩⟩ (Nat.add τ 721), .int (21) (Nat.add τ 1076)⟩, ⟨(hS P ⟨⟨[101, 114, 114, 111, 114]⟩⟩), .str ⟨⟨[101, 114, 114, 111, 114]⟩⟩ (Nat.add τ 722), .int (22) (Nat.add τ 1092)⟩, ⟨(hS P ⟨⟨[]⟩⟩), .str ⟨⟨[]⟩⟩ (Nat.add τ 723), .int (23) (Nat.add τ 1108)⟩, ⟨(hS P ⟨⟨[101, 110, 100, 95, 111, 102, 95, 102, 105, 108, 101]⟩⟩), .str ⟨⟨[101, 110, 100, 95, 111, 102, 95, 102, 105, 108, 101]⟩⟩ (Nat.add τ 724), .int (24) (Nat.add τ 1124)⟩, ⟨(hS P ⟨⟨[115, 121, 115, 116, 101, 109]⟩⟩), .str ⟨⟨[115, 121, 115, 116, 101, 109]⟩⟩ (Nat.add τ 725), .int (25) (Nat.add τ 1140)⟩, ⟨(hS P ⟨⟨[36, 86, 65, 82]⟩⟩), .str ⟨⟨[36, 86, 65, 82]⟩⟩ (Nat.add τ 726), .int (26) (Nat.add τ 1156)⟩, ⟨(hS P ⟨⟨[99, 97, 116, 99, 104]⟩⟩), .str ⟨⟨[99, 97, 116, 99, 104]⟩⟩ (Nat.add τ 727), .int (27) (Nat.add τ 1172)⟩, ⟨(hS P ⟨⟨[116, 104, 114, 111, 119]⟩⟩), .str ⟨⟨[116, 104, 114, 111, 119]⟩⟩ (Nat.add τ 728), .int (28) (Nat.add τ 1188)⟩]⟩ 29, ⟨[]⟩⟩),
  (378, ⟨.type ty_list, none, .seq ⟨[.ref 452, .ref 456, .ref 460, .ref 464, .ref 468, .ref 472, .ref 476, .ref 480, .ref 484, .ref 488, .ref 492, .ref 496, .ref 500, .ref 504, .ref 508, .ref 512, .ref 516, .ref 520, .ref 524, .ref 528, .ref 532, .ref 536, .ref 540, .ref 544, .ref 548, .ref 552, .ref 556, .ref 560, .ref 564, .ref 568, .ref 572, .ref 576]⟩ 32, ⟨[]⟩⟩),
  (379, ⟨.type ty_dict, none, .dict ⟨[⟨(-3550055125485641917), .ref 452, .int (0) (Nat.add τ 1285)⟩, ⟨(5973048414285056246), .ref 456, .int (1) (Nat.add τ 1320)⟩, ⟨(-5060604854200353011), .ref 460, .int (2) (Nat.add τ 1355)⟩, ⟨(-1767087503132776002), .ref 464, .int (3) (Nat.add τ 1390)⟩, ⟨(-5470608895905243200), .ref 468, .int (4) (Nat.add τ 1425)⟩, ⟨(5646003302091366357), .ref 472, .int (5) (Nat.add τ 1460)⟩, ⟨(-7907666742645488893), .ref 476, .int (6) (Nat.add τ 1495)⟩, ⟨(8102019484323817030), .ref 480, .int (7) (Nat.add τ 1530)⟩, ⟨(342925231413779802), .ref 484, .int (8) (Nat.add τ 1565)⟩, ⟨(6794810172467074373), .ref 488, .int (9) (Nat.add τ 1600)⟩, ⟨(-2421177727520155780), .ref 492, .int (10) (Nat.add τ 1635)⟩, ⟨(7428970924444232272), .ref 496, .int (11) (Nat.add τ 1670)⟩, ⟨(8756109708711196808), .ref 500, .int (12) (Nat.add τ 1705)⟩, ⟨(3863035679738500442), .ref 504, .int (13) (Nat.add τ 1740)⟩, ⟨(-9131917124991031250), .ref 508, .int (14) (Nat.add τ 1775)⟩, ⟨(-3877100237679331806), .ref 512, .int (15) (Nat.add τ 1810)⟩, ⟨(-7724255798197742335), .ref 516, .int (16) (Nat.add τ 1845)⟩, ⟨(6324860253956366660), .ref 520, .int (17) (Nat.add τ 1880)⟩, ⟨(-1543660154289433799), .ref 524, .int (18) (Nat.add τ 1915)⟩, ⟨(6691921770545652194), .ref 528, .int (19) (Nat.add τ 1950)⟩, ⟨(-3708699342455767950), .ref 532, .int (20) (Nat.add τ 1985)⟩, ⟨(6141449309508620102), .ref 536, .int (21) (Nat.add τ 2020)⟩, ⟨(8102748845752742537), .ref 540, .int (22) (Nat.add τ 2055)⟩, ⟨(838371238831033547), .ref 544, .int (23) (Nat.add τ 2090)⟩, ⟨(4908954148192786279), .ref 548, .int (24) (Nat.add τ 2125)⟩, ⟨(15880119220089913), .ref 552, .int (25) (Nat.add τ 2160)⟩, ⟨(6523520875322088338), .ref 556, .int (26) (Nat.add τ 2195)⟩, ⟨(-2767910536634976156), .ref 560, .int (27) (Nat.add τ 2230)⟩, ⟨(3739730219467022269), .ref 564, .int (28) (Nat.add τ 2265)⟩, ⟨(-1153343809505674097), .ref 568, .int (29) (Nat.add τ 2300)⟩, ⟨(5354296946596324328), .ref 572, .int (30) (Nat.add τ 2335)⟩, ⟨(-6584806371011228863), .ref 576, .int (31) (Nat.add τ 2370)⟩]⟩ 32, ⟨[]⟩⟩),
  (452, ⟨.type ty_tuple, none, .seq ⟨[.int (1) (Nat.add τ 756), .int (2) (Nat.add τ 1194)]⟩ 0, ⟨[]⟩⟩),
  (456, ⟨.type ty_tuple, none, .seq ⟨[.int (7) (Nat.add τ 852), .int (2) (Nat.add τ 1196)]⟩ 0, ⟨[]⟩⟩),
  (460, ⟨.type ty_tuple, none, .seq ⟨[.int (9) (Nat.add τ 884), .int (2) (Nat.add τ 1198)]⟩ 0, ⟨[]⟩⟩),
  (464, ⟨.type ty_tuple, none, .seq ⟨[.int (10) (Nat.add τ 900), .int (2) (Nat.add τ 1200)]⟩ 0, ⟨[]⟩⟩),
  (468, ⟨.type ty_tuple, none, .seq ⟨[.int (11) (Nat.add τ 916), .int (1) (Nat.add τ 1202)]⟩ 0, ⟨[]⟩⟩),
  (472, ⟨.type ty_tuple, none, .seq ⟨[.int (12) (Nat.add τ 932), .int (2) (Nat.add τ 1204)]⟩ 0, ⟨[]⟩⟩),
  (476, ⟨.type ty_tuple, none, .seq ⟨[.int (12) (Nat.add τ 932), .int (1) (Nat.add τ 1206)]⟩ 0, ⟨[]⟩⟩),
  (480, ⟨.type ty_tuple, none, .seq ⟨[.int (13) (Nat.add τ 948), .int (1) (Nat.add τ 1208)]⟩ 0, ⟨[]⟩⟩),
  (484, ⟨.type ty_tuple, none, .seq ⟨[.int (14) (Nat.add τ 964), .int (2) (Nat.add τ 1210)]⟩ 0, ⟨[]⟩⟩),
  (488, ⟨.type ty_tuple, none, .seq ⟨[.int (2) (Nat.add τ 772), .int (1) (Nat.add τ 1212)]⟩ 0, ⟨[]⟩⟩),
  (492, ⟨.type ty_tuple, none, .seq ⟨[.int (20) (Nat.add τ 1060), .int (2) (Nat.add τ 1214)]⟩ 0, ⟨[]⟩⟩),
  (496, ⟨.type ty_tuple, none, .seq ⟨[.int (21) (Nat.add τ 1076), .int (2) (Nat.add τ 1216)]⟩ 0, ⟨[]⟩⟩),
  (500, ⟨.type ty_tuple, none, .seq ⟨[.int (3) (Nat.add τ 788), .int (1) (Nat.add τ 1218)]⟩ 0, ⟨[]⟩⟩),
  (504, ⟨.type ty_tuple, none, .seq ⟨[.int (3) (Nat.add τ 788), .int (2) (Nat.add τ 1220)]⟩ 0, ⟨[]⟩⟩),
  (508, ⟨.type ty_tuple, none, .seq ⟨[.int (4) (Nat.add τ 804), .int (2) (Nat.add τ 1222)]⟩ 0, ⟨[]⟩⟩),
  (512, ⟨.type ty_tuple, none, .seq ⟨[.int (6) (Nat.add τ 836), .int (2) (Nat.add τ 1224)]⟩ 0, ⟨[]⟩⟩),
  (516, ⟨.type ty_tuple, none, .seq ⟨[.int (22) (Nat.add τ 1092), .int (2) (Nat.add τ 1226)]⟩ 0, ⟨[]⟩⟩),
  (520, ⟨.type ty_tuple, none, .seq ⟨[.int (26) (Nat.add τ 1156), .int (1) (Nat.add τ 1228)]⟩ 0, ⟨[]⟩⟩),
  (524, ⟨.type ty_tuple, none, .seq ⟨[.int (27) (Nat.add τ 1172), .int (3) (Nat.add τ 1230)]⟩ 0, ⟨[]⟩⟩),
  (528, ⟨.type ty_tuple, none, .seq ⟨[.int (28) (Nat.add τ 1188), .int (1) (Nat.add τ 1232)]⟩ 0, ⟨[]⟩⟩),
  (532, ⟨.type ty_tuple, none, .seq ⟨[.int (15) (Nat.add τ 980), .int (0) (Nat.add τ 1234)]⟩ 0, ⟨[]⟩⟩),
  (536, ⟨.type ty_tuple, none, .seq ⟨[.int (16) (Nat.add τ 996), .int (0) (Nat.add τ 1236)]⟩ 0, ⟨[]⟩⟩),
  (540, ⟨.type ty_tuple, none, .seq ⟨[.int (17) (Nat.add τ 1012), .int (0) (Nat.add τ 1238)]⟩ 0, ⟨[]⟩⟩),
  (544, ⟨.type ty_tuple, none, .seq ⟨[.int (18) (Nat.add τ 1028), .int (0) (Nat.add τ 1240)]⟩ 0, ⟨[]⟩⟩),
  (548, ⟨.type ty_tuple, none, .seq ⟨[.int (19) (Nat.add τ 1044), .int (1) (Nat.add τ 1242)]⟩ 0, ⟨[]⟩⟩),
  (552, ⟨.type ty_tuple, none, .seq ⟨[.int (19) (Nat.add τ 1044), .int (2) (Nat.add τ 1244)]⟩ 0, ⟨[]⟩⟩),
  (556, ⟨.type ty_tuple, none, .seq ⟨[.int (19) (Nat.add τ 1044), .int (3) (Nat.add τ 1246)]⟩ 0, ⟨[]⟩⟩),
  (560, ⟨.type ty_tuple, none, .seq ⟨[.int (19) (Nat.add τ 1044), .int (4) (Nat.add τ 1248)]⟩ 0, ⟨[]⟩⟩),
  (564, ⟨.type ty_tuple, none, .seq ⟨[.int (19) (Nat.add τ 1044), .int (5) (Nat.add τ 1250)]⟩ 0, ⟨[]⟩⟩),
  (568, ⟨.type ty_tuple, none, .seq ⟨[.int (19) (Nat.add τ 1044), .int (6) (Nat.add τ 1252)]⟩ 0, ⟨[]⟩⟩),
  (572, ⟨.type ty_tuple, none, .seq ⟨[.int (19) (Nat.add τ 1044), .int (7) (Nat.add τ 1254)]⟩ 0, ⟨[]⟩⟩),
  (576, ⟨.type ty_tuple, none, .seq ⟨[.int (19) (Nat.add τ 1044), .int (8) (Nat.add τ 1256)]⟩ 0, ⟨[]⟩⟩)]
noncomputable def h_sym : List (Nat × H) := [(22000, .op 0), (21758, .op 0), (21516, .op 0), (21274, .op 0), (21032, .op 0), (20790, .op 0), (20548, .op 0), (20306, .op 0), (20064, .op 0), (19822, .op 0), (19580, .op 0), (19338, .op 0), (19096, .op 0), (18854, .op 0), (18612, .op 0), (18370, .op 0), (18128, .op 0), (17886, .op 0), (17644, .op 0), (17402, .op 0), (17160, .op 0), (16918, .op 0), (16676, .op 0), (16434, .op 0), (16192, .op 0), (15950, .op 0), (15708, .op 0), (15466, .op 0), (15224, .op 0), (14722, .op 0), (14257, .op 0), (13792, .op 0), (13327, .op 0), (12862, .op 0), (12397, .op 0), (11932, .op 0), (11467, .op 0), (11002, .op 0), (10537, .op 0), (10072, .op 0), (9607, .op 0), (9142, .op 0), (8677, .op 0), (8212, .op 0), (7747, .op 0), (7282, .op 0), (6817, .op 0), (6352, .op 0), (5887, .op 0), (5422, .op 0), (4957, .op 0), (4492, .op 0), (4027, .op 0), (3562, .op 0), (3097, .op 0), (2632, .op 0), (2167, .op 0), (1702, .op 0), (1237, .op 0), (772, .op 0), (307, .op 0)]
set_option maxHeartbeats 0 in
theorem run_sym {w : World} {P0 : Params} {b1 b2 : Bool} {τ : Nat} {p : Pos} {e1 : List Stmt} {e2 : Env} {p1 p2 : Pos} {a : Args} {F : End → Nat → List (Nat × Nat) → Nat → Nat → List (Option Obj) → Prop} :
    sim (SR w (fol P0 b1 b2) [] id 373 1000 [373, 374, 376, 377, 378, 379, 452, 456, 460, 464, 468, 472, 476, 480, 484, 488, 492, 496, 500, 504, 508, 512, 516, 520, 524, 528, 532, 536, 540, 544, 548, 552, 556, 560, 564, 568, 572, 576] F noc) 22319 ⟨h_sym, []⟩ [] τ (puts .nil []) 373 691 ⟨.call (.ref 154) ⟨[], []⟩, none, none, [(.func e1 e2, p1), (.builtin id_caller a, p2)], none⟩ p .base (den (.call (.ref 154) ⟨[], []⟩)) =
    F (.res (.ok (.ret (.ref 374)))) 579 [] τ 2377 ((symObjs (fol P0 b1 b2) τ).map fun y => some y.2) := by
  cases b1 <;> kernel_rfl
noncomputable def cSy (P : Params) : Nat → Con := fun τ => { code := .call (.ref 154) ⟨[], []⟩, ok := okS [1, 4], need := [], hp := .lit 373 579, tk := some (691, 2377), res := fun _ _ => .ok (.ret (.ref 374)), post := fun τ' _ => symObjs P τ' }
theorem cSy_valid {w : World} {P0 : Params} {b1 b2 : Bool} (hP : fol P0 b1 b2 = w.params) {U A st hi js F cons} (rs) (τ τ' : Nat) :
    (cSy (fol P0 b1 b2) τ').Valid (SR w (fol P0 b1 b2) U A st hi js F cons) rs τ := by
  refine Con.valid_lit (hi := 1000) (cons := noc) (f := 22319) (hs := ⟨h_sym, []⟩) (SR_base hP) rfl rfl (by show 369 ≤ 373; omega) (by omega) rfl (by show 369 ≤ 1000; omega) (fun _ _ _ _ _ _ _ => nocon_valid) ?_
  intro Γ p hok hc F hF
  obtain ⟨l, hΓ, hs0⟩ := okS_is hok
  obtain ⟨e1, e2, p1, l, rfl, hs1⟩ := shp1 hs0
  obtain ⟨a, p2, rfl⟩ := shp4 hs1
  rw [hc] at hΓ
  rw [hΓ]
  exact cast run_sym.symm hF
end Mine
end
section
open PySem PySem.W PySem.W.X
namespace Mine
noncomputable def h_wAbs : List (Nat × H) := [(27, .at 370), (26, .at 370), (23, .at 370), (22, .at 370), (15, .at 370), (10, .at 370), (8, .op 19), (4, .op 7), (1, .at 370)]
noncomputable def h_wPos : List (Nat × H) := [(64, .at 370), (63, .at 370), (60, .at 370), (59, .at 370), (52, .at 370), (47, .at 370), (45, .op 19), (41, .op 8), (38, .at 370), (36, .at 370), (23, .op 3), (21, .at 370), (19, .at 370), (1, .op 17)]
noncomputable def h_wNon : List (Nat × H) := [(74, .at 370), (73, .at 370), (70, .at 370), (69, .at 370), (62, .at 370), (57, .at 370), (55, .op 19), (51, .op 8), (48, .at 370), (46, .at 370), (33, .op 4), (31, .at 370), (29, .at 370), (6, .op 17)]
set_option maxHeartbeats 0 in
theorem run_wAbs0 {w : World} {P0 : Params} {b1 b2 : Bool} {τ : Nat} {p : Pos} {e1 : List Stmt} {e2 : Env} {p1 p2 : Pos} {a : Args} {δ tk : Nat} {vs : List Value} {F : Int → Nat → List (Nat × Nat) → Prop} :
    sim (SR w (fol P0 b1 b2) [] id 370 370 [] (Fint F) noc) 33 ⟨h_wAbs, []⟩ [(370, δ)] τ (puts .nil [(369, oList vs)]) 370 690 ⟨.call (.ref 349) ⟨[.ref 369, .int 0 tk], []⟩, none, none, [(.func e1 e2, p1), (.builtin id_caller a, p2)], none⟩ p .base (den (.call (.ref 349) ⟨[.ref 369, .int 0 tk], []⟩)) =
    (ad [(370, δ)] 370 = ad [(370, δ)] 370 ∧ ad [(370, δ)] 370 = ad [(370, δ)] 370 ∧ ad [(370, δ)] 370 = ad [(370, δ)] 370 ∧ ad [(370, δ)] 370 = ad [(370, δ)] 370 ∧ ad [(370, δ)] 370 = ad [(370, δ)] 370 ∧ ad [(370, δ)] 370 = ad [(370, δ)] 370 ∧ ((((⟨vs⟩ : Array Value).size : Nat) : Int) < 2 ^ 63) ∧ ((0 : Int) ≥ (((⟨vs⟩ : Array Value).size : Nat) : Int)) ∧ ad [(370, δ)] 370 = ad [(370, δ)] 370 ∧ F 0 371 [(370, δ)]) := by
  cases b1 <;> kernel_rfl
set_option maxHeartbeats 0 in
theorem run_wPos0 {w : World} {P0 : Params} {b1 b2 : Bool} {τ : Nat} {p : Pos} {e1 : List Stmt} {e2 : Env} {p1 p2 : Pos} {a : Args} {δ tk t : Nat} {x : Int} {r : List Value} {F : Int → Nat → List (Nat × Nat) → Prop} :
    sim (SR w (fol P0 b1 b2) [] id 370 370 [] (Fint F) noc) 70 ⟨h_wPos, []⟩ [(370, δ)] τ (puts .nil [(369, oList (.int x t :: r))]) 370 690 ⟨.call (.ref 349) ⟨[.ref 369, .int 0 tk], []⟩, none, none, [(.func e1 e2, p1), (.builtin id_caller a, p2)], none⟩ p .base (den (.call (.ref 349) ⟨[.ref 369, .int 0 tk], []⟩)) =
    (ad [(370, δ)] 370 = ad [(370, δ)] 370 ∧ ad [(370, δ)] 370 = ad [(370, δ)] 370 ∧ ad [(370, δ)] 370 = ad [(370, δ)] 370 ∧ ad [(370, δ)] 370 = ad [(370, δ)] 370 ∧ ad [(370, δ)] 370 = ad [(370, δ)] 370 ∧ ad [(370, δ)] 370 = ad [(370, δ)] 370 ∧ ((((⟨(.int x t :: r)⟩ : Array Value).size : Nat) : Int) < 2 ^ 63) ∧ (¬ (0 : Int) ≥ (((⟨(.int x t :: r)⟩ : Array Value).size : Nat) : Int)) ∧ ad [(370, δ)] 370 = ad [(370, δ)] 370 ∧ ad [(370, δ)] 370 = ad [(370, δ)] 370 ∧ (x > 0) ∧ ad [(370, δ)] 370 = ad [(370, δ)] 370 ∧ ad [(370, δ)] 370 = ad [(370, δ)] 370 ∧ ((1000000000000000000000000000000000000000000000000000000000000 : Int) ≠ 0) ∧ F (x.fmod 1000000000000000000000000000000000000000000000000000000000000) 371 [(370, δ)]) := by
  cases b1 <;> kernel_rfl
set_option maxHeartbeats 0 in
theorem run_wNon0 {w : World} {P0 : Params} {b1 b2 : Bool} {τ : Nat} {p : Pos} {e1 : List Stmt} {e2 : Env} {p1 p2 : Pos} {a : Args} {δ tk t : Nat} {x : Int} {r : List Value} {F : Int → Nat → List (Nat × Nat) → Prop} :
    sim (SR w (fol P0 b1 b2) [] id 370 370 [] (Fint F) noc) 80 ⟨h_wNon, []⟩ [(370, δ)] τ (puts .nil [(369, oList (.int x t :: r))]) 370 690 ⟨.call (.ref 349) ⟨[.ref 369, .int 0 tk], []⟩, none, none, [(.func e1 e2, p1), (.builtin id_caller a, p2)], none⟩ p .base (den (.call (.ref 349) ⟨[.ref 369, .int 0 tk], []⟩)) =
    (ad [(370, δ)] 370 = ad [(370, δ)] 370 ∧ ad [(370, δ)] 370 = ad [(370, δ)] 370 ∧ ad [(370, δ)] 370 = ad [(370, δ)] 370 ∧ ad [(370, δ)] 370 = ad [(370, δ)] 370 ∧ ad [(370, δ)] 370 = ad [(370, δ)] 370 ∧ ad [(370, δ)] 370 = ad [(370, δ)] 370 ∧ ((((⟨(.int x t :: r)⟩ : Array Value).size : Nat) : Int) < 2 ^ 63) ∧ (¬ (0 : Int) ≥ (((⟨(.int x t :: r)⟩ : Array Value).size : Nat) : Int)) ∧ ad [(370, δ)] 370 = ad [(370, δ)] 370 ∧ ad [(370, δ)] 370 = ad [(370, δ)] 370 ∧ (¬ x > 0) ∧ ad [(370, δ)] 370 = ad [(370, δ)] 370 ∧ ad [(370, δ)] 370 = ad [(370, δ)] 370 ∧ ((1000000000000000000000000000000000000000000000000000000000000 : Int) ≠ 0) ∧ F (-((-x).fmod 1000000000000000000000000000000000000000000000000000000000000)) 371 [(370, δ)]) := by
  cases b1 <;> kernel_rfl
set_option maxHeartbeats 0 in
theorem run_wAbs1 {w : World} {P0 : Params} {b1 b2 : Bool} {τ : Nat} {p : Pos} {e1 : List Stmt} {e2 : Env} {p1 p2 : Pos} {a : Args} {δ tk : Nat} {vs : List Value} {F : Int → Nat → List (Nat × Nat) → Prop} :
    sim (SR w (fol P0 b1 b2) [] id 370 370 [] (Fint F) noc) 33 ⟨h_wAbs, []⟩ [(370, δ)] τ (puts .nil [(369, oList vs)]) 370 690 ⟨.call (.ref 349) ⟨[.ref 369, .int 1 tk], []⟩, none, none, [(.func e1 e2, p1), (.builtin id_caller a, p2)], none⟩ p .base (den (.call (.ref 349) ⟨[.ref 369, .int 1 tk], []⟩)) =
    (ad [(370, δ)] 370 = ad [(370, δ)] 370 ∧ ad [(370, δ)] 370 = ad [(370, δ)] 370 ∧ ad [(370, δ)] 370 = ad [(370, δ)] 370 ∧ ad [(370, δ)] 370 = ad [(370, δ)] 370 ∧ ad [(370, δ)] 370 = ad [(370, δ)] 370 ∧ ad [(370, δ)] 370 = ad [(370, δ)] 370 ∧ ((((⟨vs⟩ : Array Value).size : Nat) : Int) < 2 ^ 63) ∧ ((1 : Int) ≥ (((⟨vs⟩ : Array Value).size : Nat) : Int)) ∧ ad [(370, δ)] 370 = ad [(370, δ)] 370 ∧ F 1 371 [(370, δ)]) := by
  cases b1 <;> kernel_rfl
set_option maxHeartbeats 0 in
theorem run_wPos1 {w : World} {P0 : Params} {b1 b2 : Bool} {τ : Nat} {p : Pos} {e1 : List Stmt} {e2 : Env} {p1 p2 : Pos} {a : Args} {δ tk t : Nat} {x : Int} {v0 : Value} {r : List Value} {F : Int → Nat → List (Nat × Nat) → Prop} :
    sim (SR w (fol P0 b1 b2) [] id 370 370 [] (Fint F) noc) 70 ⟨h_wPos, []⟩ [(370, δ)] τ (puts .nil [(369, oList (v0 :: .int x t :: r))]) 370 690 ⟨.call (.ref 349) ⟨[.ref 369, .int 1 tk], []⟩, none, none, [(.func e1 e2, p1), (.builtin id_caller a, p2)], none⟩ p .base (den (.call (.ref 349) ⟨[.ref 369, .int 1 tk], []⟩)) =
    (ad [(370, δ)] 370 = ad [(370, δ)] 370 ∧ ad [(370, δ)] 370 = ad [(370, δ)] 370 ∧ ad [(370, δ)] 370 = ad [(370, δ)] 370 ∧ ad [(370, δ)] 370 = ad [(370, δ)] 370 ∧ ad [(370, δ)] 370 = ad [(370, δ)] 370 ∧ ad [(370, δ)] 370 = ad [(370, δ)] 370 ∧ ((((⟨(v0 :: .int x t :: r)⟩ : Array Value).size : Nat) : Int) < 2 ^ 63) ∧ (¬ (1 : Int) ≥ (((⟨(v0 :: .int x t :: r)⟩ : Array Value).size : Nat) : Int)) ∧ ad [(370, δ)] 370 = ad [(370, δ)] 370 ∧ ad [(370, δ)] 370 = ad [(370, δ)] 370 ∧ (x > 0) ∧ ad [(370, δ)] 370 = ad [(370, δ)] 370 ∧ ad [(370, δ)] 370 = ad [(370, δ)] 370 ∧ ((1000000000000000000000000000000000000000000000000000000000000 : Int) ≠ 0) ∧ F (x.fmod 1000000000000000000000000000000000000000000000000000000000000) 371 [(370, δ)]) := by
  cases b1 <;> kernel_rfl
set_option maxHeartbeats 0 in
theorem run_wNon1 {w : World} {P0 : Params} {b1 b2 : Bool} {τ : Nat} {p : Pos} {e1 : List Stmt} {e2 : Env} {p1 p2 : Pos} {a : Args} {δ tk t : Nat} {x : Int} {v0 : Value} {r : List Value} {F : Int → Nat → List (Nat × Nat) → Prop} :
    sim (SR w (fol P0 b1 b2) [] id 370 370 [] (Fint F) noc) 80 ⟨h_wNon, []⟩ [(370, δ)] τ (puts .nil [(369, oList (v0 :: .int x t :: r))]) 370 690 ⟨.call (.ref 349) ⟨[.ref 369, .int 1 tk], []⟩, none, none, [(.func e1 e2, p1), (.builtin id_caller a, p2)], none⟩ p .base (den (.call (.ref 349) ⟨[.ref 369, .int 1 tk], []⟩)) =
    (ad [(370, δ)] 370 = ad [(370, δ)] 370 ∧ ad [(370, δ)] 370 = ad [(370, δ)] 370 ∧ ad [(370, δ)] 370 = ad [(370, δ)] 370 ∧ ad [(370, δ)] 370 = ad [(370, δ)] 370 ∧ ad [(370, δ)] 370 = ad [(370, δ)] 370 ∧ ad [(370, δ)] 370 = ad [(370, δ)] 370 ∧ ((((⟨(v0 :: .int x t :: r)⟩ : Array Value).size : Nat) : Int) < 2 ^ 63) ∧ (¬ (1 : Int) ≥ (((⟨(v0 :: .int x t :: r)⟩ : Array Value).size : Nat) : Int)) ∧ ad [(370, δ)] 370 = ad [(370, δ)] 370 ∧ ad [(370, δ)] 370 = ad [(370, δ)] 370 ∧ (¬ x > 0) ∧ ad [(370, δ)] 370 = ad [(370, δ)] 370 ∧ ad [(370, δ)] 370 = ad [(370, δ)] 370 ∧ ((1000000000000000000000000000000000000000000000000000000000000 : Int) ≠ 0) ∧ F (-((-x).fmod 1000000000000000000000000000000000000000000000000000000000000)) 371 [(370, δ)]) := by
  cases b1 <;> kernel_rfl
set_option maxHeartbeats 0 in
theorem run_wAbs2 {w : World} {P0 : Params} {b1 b2 : Bool} {τ : Nat} {p : Pos} {e1 : List Stmt} {e2 : Env} {p1 p2 : Pos} {a : Args} {δ tk : Nat} {vs : List Value} {F : Int → Nat → List (Nat × Nat) → Prop} :
    sim (SR w (fol P0 b1 b2) [] id 370 370 [] (Fint F) noc) 33 ⟨h_wAbs, []⟩ [(370, δ)] τ (puts .nil [(369, oList vs)]) 370 690 ⟨.call (.ref 349) ⟨[.ref 369, .int 2 tk], []⟩, none, none, [(.func e1 e2, p1), (.builtin id_caller a, p2)], none⟩ p .base (den (.call (.ref 349) ⟨[.ref 369, .int 2 tk], []⟩)) =
    (ad [(370, δ)] 370 = ad [(370, δ)] 370 ∧ ad [(370, δ)] 370 = ad [(370, δ)] 370 ∧ ad [(370, δ)] 370 = ad [(370, δ)] 370 ∧ ad [(370, δ)] 370 = ad [(370, δ)] 370 ∧ ad [(370, δ)] 370 = ad [(370, δ)] 370 ∧ ad [(370, δ)] 370 = ad [(370, δ)] 370 ∧ ((((⟨vs⟩ : Array Value).size : Nat) : Int) < 2 ^ 63) ∧ ((2 : Int) ≥ (((⟨vs⟩ : Array Value).size : Nat) : Int)) ∧ ad [(370, δ)] 370 = ad [(370, δ)] 370 ∧ F 2 371 [(370, δ)]) := by
  cases b1 <;> kernel_rfl
set_option maxHeartbeats 0 in
theorem run_wPos2 {w : World} {P0 : Params} {b1 b2 : Bool} {τ : Nat} {p : Pos} {e1 : List Stmt} {e2 : Env} {p1 p2 : Pos} {a : Args} {δ tk t : Nat} {x : Int} {v0 v1 : Value} {r : List Value} {F : Int → Nat → List (Nat × Nat) → Prop} :
    sim (SR w (fol P0 b1 b2) [] id 370 370 [] (Fint F) noc) 70 ⟨h_wPos, []⟩ [(370, δ)] τ (puts .nil [(369, oList (v0 :: v1 :: .int x t :: r))]) 370 690 ⟨.call (.ref 349) ⟨[.ref 369, .int 2 tk], []⟩, none, none, [(.func e1 e2, p1), (.builtin id_caller a, p2)], none⟩ p .base (den (.call (.ref 349) ⟨[.ref 369, .int 2 tk], []⟩)) =
    (ad [(370, δ)] 370 = ad [(370, δ)] 370 ∧ ad [(370, δ)] 370 = ad [(370, δ)] 370 ∧ ad [(370, δ)] 370 = ad [(370, δ)] 370 ∧ ad [(370, δ)] 370 = ad [(370, δ)] 370 ∧ ad [(370, δ)] 370 = ad [(370, δ)] 370 ∧ ad [(370, δ)] 370 = ad [(370, δ)] 370 ∧ ((((⟨(v0 :: v1 :: .int x t :: r)⟩ : Array Value).size : Nat) : Int) < 2 ^ 63) ∧ (¬ (2 : Int) ≥ (((⟨(v0 :: v1 :: .int x t :: r)⟩ : Array Value).size : Nat) : Int)) ∧ ad [(370, δ)] 370 = ad [(370, δ)] 370 ∧ ad [(370, δ)] 370 = ad [(370, δ)] 370 ∧ (x > 0) ∧ ad [(370, δ)] 370 = ad [(370, δ)] 370 ∧ ad [(370, δ)] 370 = ad [(370, δ)] 370 ∧ ((1000000000000000000000000000000000000000000000000000000000000 : Int) ≠ 0) ∧ F (x.fmod 1000000000000000000000000000000000000000000000000000000000000) 371 [(370, δ)]) := by
  cases b1 <;> kernel_rfl
set_option maxHeartbeats 0 in
theorem run_wNon2 {w : World} {P0 : Params} {b1 b2 : Bool} {τ : Nat} {p : Pos} {e1 : List Stmt} {e2 : Env} {p1 p2 : Pos} {a : Args} {δ tk t : Nat} {x : Int} {v0 v1 : Value} {r : List Value} {F : Int → Nat → List (Nat × Nat) → Prop} :
    sim (SR w (fol P0 b1 b2) [] id 370 370 [] (Fint F) noc) 80 ⟨h_wNon, []⟩ [(370, δ)] τ (puts .nil [(369, oList (v0 :: v1 :: .int x t :: r))]) 370 690 ⟨.call (.ref 349) ⟨[.ref 369, .int 2 tk], []⟩, none, none, [(.func e1 e2, p1), (.builtin id_caller a, p2)], none⟩ p .base (den (.call (.ref 349) ⟨[.ref 369, .int 2 tk], []⟩)) =
    (ad [(370, δ)] 370 = ad [(370, δ)] 370 ∧ ad [(370, δ)] 370 = ad [(370, δ)] 370 ∧ ad [(370, δ)] 370 = ad [(370, δ)] 370 ∧ ad [(370, δ)] 370 = ad [(370, δ)] 370 ∧ ad [(370, δ)] 370 = ad [(370, δ)] 370 ∧ ad [(370, δ)] 370 = ad [(370, δ)] 370 ∧ ((((⟨(v0 :: v1 :: .int x t :: r)⟩ : Array Value).size : Nat) : Int) < 2 ^ 63) ∧ (¬ (2 : Int) ≥ (((⟨(v0 :: v1 :: .int x t :: r)⟩ : Array Value).size : Nat) : Int)) ∧ ad [(370, δ)] 370 = ad [(370, δ)] 370 ∧ ad [(370, δ)] 370 = ad [(370, δ)] 370 ∧ (¬ x > 0) ∧ ad [(370, δ)] 370 = ad [(370, δ)] 370 ∧ ad [(370, δ)] 370 = ad [(370, δ)] 370 ∧ ((1000000000000000000000000000000000000000000000000000000000000 : Int) ≠ 0) ∧ F (-((-x).fmod 1000000000000000000000000000000000000000000000000000000000000)) 371 [(370, δ)]) := by
  cases b1 <;> kernel_rfl

/-- what is read at a place of the script -/
noncomputable def wholeV (vs : List Value) (k : Nat) : Int := match vs[k]? with
  | some (.int x _) => if x > 0 then x.fmod 1000000000000000000000000000000000000000000000000000000000000 else -((-x).fmod 1000000000000000000000000000000000000000000000000000000000000)
  | _ => k
noncomputable def cWh (vs : List Value) (k v : Int) : ConsTy := fun _ _ _ τ n i => match Nat.ble 370 n with
  | true => { code := .call (.ref 349) ⟨[.ref 369, .int k (Nat.add τ (Nat.pred i))], []⟩, ok := okS [1, 4], need := [(369, oList vs)], hp := .lit n (Nat.add n 1), tk := none, res := fun _ x => .ok (.ret (.int v (x 0))), post := fun _ _ => [] }
  | false => nocon

theorem cWh0_valid {w : World} {P0 : Params} {b1 b2 : Bool} (hP : fol P0 b1 b2 = w.params) {vs : List Value} (hi0 : ∀ v ∈ vs, ∃ x t, v = .int x t) (hl : vs.length < 2 ^ 63) {U A st hi js F cons} (q : Nat) (ts) (rs) (τ n i : Nat) :
    (cWh vs 0 (wholeV vs 0) q ts rs τ n i).Valid (SR w (fol P0 b1 b2) U A st hi js F cons) rs τ := by
  unfold cWh
  split
  · rename_i hn
    have hn := Nat.le_of_ble_eq_true hn
    refine Con.valid_leaf (k := 1) (hi := 370) (cons := noc) (SR_base hP) rfl rfl hn (by show 369 ≤ 370; omega) rfl (fun _ _ => rfl) (fun _ _ => rfl) (fun _ _ _ _ _ _ _ => nocon_valid) ?_
    intro Γ p δ τr hok hc
    obtain ⟨l, hΓ, hs⟩ := okS_is hok
    obtain ⟨e1, e2, p1, l, rfl, hs⟩ := shp1 hs
    obtain ⟨a, p2, rfl⟩ := shp4 hs
    rw [hc] at hΓ
    rw [hΓ]
    have hsz : ∀ l : List Value, l.length < 2 ^ 63 → (((⟨l⟩ : Array Value).size : Nat) : Int) < 2 ^ 63 := fun l h => by
      have e : (⟨l⟩ : Array Value).size = l.length := rfl
      rw [e]; omega
    have leaf : ∀ v : Int, ∀ e m rs' τ' j os, Fint (fun x m rs => x = v ∧ m = 370 + 1 ∧ rs = [(370, δ)]) e m rs' τ' j os → ∃ x : Nat → Nat, e = .res (.ok (.ret (.int v (x 0)))) ∧ m = 370 + 1 ∧ rs' = [(370, δ)] := by
      intro v e m rs' τ' j os h
      obtain ⟨x, t, rfl, rfl, h2, h3⟩ := Fint_is h
      exact ⟨fun _ => t, rfl, h2, h3⟩
    by_cases hk : 0 < vs.length
    · have hx := hi0 vs[0] (List.getElem_mem hk)
      obtain ⟨x, t, hx⟩ := hx
      have hv : wholeV vs 0 = if x > 0 then x.fmod 1000000000000000000000000000000000000000000000000000000000000 else -((-x).fmod 1000000000000000000000000000000000000000000000000000000000000) := by
        unfold wholeV
        rw [List.getElem?_eq_getElem hk, hx]
      obtain ⟨r, rfl⟩ : ∃ r, vs = .int x t :: r := by
        match vs, hk, hx with
        | v :: r, _, hx => exact ⟨r, by cases (show v = _ from hx); rfl⟩
      have hge : ¬ (0 : Int) ≥ (((⟨.int x t :: r⟩ : Array Value).size : Nat) : Int) := by
        have e : (⟨.int x t :: r⟩ : Array Value).size = (.int x t :: r).length := rfl
        rw [e]; omega
      rw [hv]
      by_cases hpos : x > 0
      · rw [if_pos hpos]
        refine ⟨_, 70, ⟨h_wPos, []⟩, leaf _, ?_⟩
        refine cast (run_wPos0).symm ?_
        exact ⟨rfl, rfl, rfl, rfl, rfl, rfl, hsz _ hl, hge, rfl, rfl, hpos, rfl, rfl, by decide, rfl, rfl, rfl⟩
      · rw [if_neg hpos]
        refine ⟨_, 80, ⟨h_wNon, []⟩, leaf _, ?_⟩
        refine cast (run_wNon0).symm ?_
        exact ⟨rfl, rfl, rfl, rfl, rfl, rfl, hsz _ hl, hge, rfl, rfl, hpos, rfl, rfl, by decide, rfl, rfl, rfl⟩
    · have hv : wholeV vs 0 = 0 := by
        unfold wholeV
        rw [List.getElem?_eq_none (by omega)]
        rfl
      rw [hv]
      have hge : (0 : Int) ≥ (((⟨vs⟩ : Array Value).size : Nat) : Int) := by
        have e : (⟨vs⟩ : Array Value).size = vs.length := rfl
        rw [e]; omega
      refine ⟨_, 33, ⟨h_wAbs, []⟩, leaf _, ?_⟩
      refine cast (run_wAbs0).symm ?_
      exact ⟨rfl, rfl, rfl, rfl, rfl, rfl, hsz _ hl, hge, rfl, rfl, rfl, rfl⟩
  · exact nocon_valid

theorem cWh1_valid {w : World} {P0 : Params} {b1 b2 : Bool} (hP : fol P0 b1 b2 = w.params) {vs : List Value} (hi0 : ∀ v ∈ vs, ∃ x t, v = .int x t) (hl : vs.length < 2 ^ 63) {U A st hi js F cons} (q : Nat) (ts) (rs) (τ n i : Nat) :
    (cWh vs 1 (wholeV vs 1) q ts rs τ n i).Valid (SR w (fol P0 b1 b2) U A st hi js F cons) rs τ := by
  unfold cWh
  split
  · rename_i hn
    have hn := Nat.le_of_ble_eq_true hn
    refine Con.valid_leaf (k := 1) (hi := 370) (cons := noc) (SR_base hP) rfl rfl hn (by show 369 ≤ 370; omega) rfl (fun _ _ => rfl) (fun _ _ => rfl) (fun _ _ _ _ _ _ _ => nocon_valid) ?_
    intro Γ p δ τr hok hc
    obtain ⟨l, hΓ, hs⟩ := okS_is hok
    obtain ⟨e1, e2, p1, l, rfl, hs⟩ := shp1 hs
    obtain ⟨a, p2, rfl⟩ := shp4 hs
    rw [hc] at hΓ
    rw [hΓ]
    have hsz : ∀ l : List Value, l.length < 2 ^ 63 → (((⟨l⟩ : Array Value).size : Nat) : Int) < 2 ^ 63 := fun l h => by
      have e : (⟨l⟩ : Array Value).size = l.length := rfl
      rw [e]; omega
    have leaf : ∀ v : Int, ∀ e m rs' τ' j os, Fint (fun x m rs => x = v ∧ m = 370 + 1 ∧ rs = [(370, δ)]) e m rs' τ' j os → ∃ x : Nat → Nat, e = .res (.ok (.ret (.int v (x 0)))) ∧ m = 370 + 1 ∧ rs' = [(370, δ)] := by
      intro v e m rs' τ' j os h
      obtain ⟨x, t, rfl, rfl, h2, h3⟩ := Fint_is h
      exact ⟨fun _ => t, rfl, h2, h3⟩
    by_cases hk : 1 < vs.length
    · have hx := hi0 vs[1] (List.getElem_mem hk)
      obtain ⟨x, t, hx⟩ := hx
      have hv : wholeV vs 1 = if x > 0 then x.fmod 1000000000000000000000000000000000000000000000000000000000000 else -((-x).fmod 1000000000000000000000000000000000000000000000000000000000000) := by
        unfold wholeV
        rw [List.getElem?_eq_getElem hk, hx]
      obtain ⟨v0, r, rfl⟩ : ∃ v0 r, vs = v0 :: .int x t :: r := by
        match vs, hk, hx with
        | v0 :: v :: r, _, hx => exact ⟨v0, r, by cases (show v = _ from hx); rfl⟩
      have hge : ¬ (1 : Int) ≥ (((⟨v0 :: .int x t :: r⟩ : Array Value).size : Nat) : Int) := by
        have e : (⟨v0 :: .int x t :: r⟩ : Array Value).size = (v0 :: .int x t :: r).length := rfl
        rw [e]; omega
      rw [hv]
      by_cases hpos : x > 0
      · rw [if_pos hpos]
        refine ⟨_, 70, ⟨h_wPos, []⟩, leaf _, ?_⟩
        refine cast (run_wPos1).symm ?_
        exact ⟨rfl, rfl, rfl, rfl, rfl, rfl, hsz _ hl, hge, rfl, rfl, hpos, rfl, rfl, by decide, rfl, rfl, rfl⟩
      · rw [if_neg hpos]
        refine ⟨_, 80, ⟨h_wNon, []⟩, leaf _, ?_⟩
        refine cast (run_wNon1).symm ?_
        exact ⟨rfl, rfl, rfl, rfl, rfl, rfl, hsz _ hl, hge, rfl, rfl, hpos, rfl, rfl, by decide, rfl, rfl, rfl⟩
    · have hv : wholeV vs 1 = 1 := by
        unfold wholeV
        rw [List.getElem?_eq_none (by omega)]
        rfl
      rw [hv]
      have hge : (1 : Int) ≥ (((⟨vs⟩ : Array Value).size : Nat) : Int) := by
        have e : (⟨vs⟩ : Array Value).size = vs.length := rfl
        rw [e]; omega
      refine ⟨_, 33, ⟨h_wAbs, []⟩, leaf _, ?_⟩
      refine cast (run_wAbs1).symm ?_
      exact ⟨rfl, rfl, rfl, rfl, rfl, rfl, hsz _ hl, hge, rfl, rfl, rfl, rfl⟩
  · exact nocon_valid

theorem cWh2_valid {w : World} {P0 : Params} {b1 b2 : Bool} (hP : fol P0 b1 b2 = w.params) {vs : List Value} (hi0 : ∀ v ∈ vs, ∃ x t, v = .int x t) (hl : vs.length < 2 ^ 63) {U A st hi js F cons} (q : Nat) (ts) (rs) (τ n i : Nat) :
    (cWh vs 2 (wholeV vs 2) q ts rs τ n i).Valid (SR w (fol P0 b1 b2) U A st hi js F cons) rs τ := by
  unfold cWh
  split
  · rename_i hn
    have hn := Nat.le_of_ble_eq_true hn
    refine Con.valid_leaf (k := 1) (hi := 370) (cons := noc) (SR_base hP) rfl rfl hn (by show 369 ≤ 370; omega) rfl (fun _ _ => rfl) (fun _ _ => rfl) (fun _ _ _ _ _ _ _ => nocon_valid) ?_
    intro Γ p δ τr hok hc
    obtain ⟨l, hΓ, hs⟩ := okS_is hok
    obtain ⟨e1, e2, p1, l, rfl, hs⟩ := shp1 hs
    obtain ⟨a, p2, rfl⟩ := shp4 hs
    rw [hc] at hΓ
    rw [hΓ]
    have hsz : ∀ l : List Value, l.length < 2 ^ 63 → (((⟨l⟩ : Array Value).size : Nat) : Int) < 2 ^ 63 := fun l h => by
      have e : (⟨l⟩ : Array Value).size = l.length := rfl
      rw [e]; omega
    have leaf : ∀ v : Int, ∀ e m rs' τ' j os, Fint (fun x m rs => x = v ∧ m = 370 + 1 ∧ rs = [(370, δ)]) e m rs' τ' j os → ∃ x : Nat → Nat, e = .res (.ok (.ret (.int v (x 0)))) ∧ m = 370 + 1 ∧ rs' = [(370, δ)] := by
      intro v e m rs' τ' j os h
      obtain ⟨x, t, rfl, rfl, h2, h3⟩ := Fint_is h
      exact ⟨fun _ => t, rfl, h2, h3⟩
    by_cases hk : 2 < vs.length
    · have hx := hi0 vs[2] (List.getElem_mem hk)
      obtain ⟨x, t, hx⟩ := hx
      have hv : wholeV vs 2 = if x > 0 then x.fmod 1000000000000000000000000000000000000000000000000000000000000 else -((-x).fmod 1000000000000000000000000000000000000000000000000000000000000) := by
        unfold wholeV
        rw [List.getElem?_eq_getElem hk, hx]
      obtain ⟨v0, v1, r, rfl⟩ : ∃ v0 v1 r, vs = v0 :: v1 :: .int x t :: r := by
        match vs, hk, hx with
        | v0 :: v1 :: v :: r, _, hx => exact ⟨v0, v1, r, by cases (show v = _ from hx); rfl⟩
      have hge : ¬ (2 : Int) ≥ (((⟨v0 :: v1 :: .int x t :: r⟩ : Array Value).size : Nat) : Int) := by
        have e : (⟨v0 :: v1 :: .int x t :: r⟩ : Array Value).size = (v0 :: v1 :: .int x t :: r).length := rfl
        rw [e]; omega
      rw [hv]
      by_cases hpos : x > 0
      · rw [if_pos hpos]
        refine ⟨_, 70, ⟨h_wPos, []⟩, leaf _, ?_⟩
        refine cast (run_wPos2).symm ?_
        exact ⟨rfl, rfl, rfl, rfl, rfl, rfl, hsz _ hl, hge, rfl, rfl, hpos, rfl, rfl, by decide, rfl, rfl, rfl⟩
      · rw [if_neg hpos]
        refine ⟨_, 80, ⟨h_wNon, []⟩, leaf _, ?_⟩
        refine cast (run_wNon2).symm ?_
        exact ⟨rfl, rfl, rfl, rfl, rfl, rfl, hsz _ hl, hge, rfl, rfl, hpos, rfl, rfl, by decide, rfl, rfl, rfl⟩
    · have hv : wholeV vs 2 = 2 := by
        unfold wholeV
        rw [List.getElem?_eq_none (by omega)]
        rfl
      rw [hv]
      have hge : (2 : Int) ≥ (((⟨vs⟩ : Array Value).size : Nat) : Int) := by
        have e : (⟨vs⟩ : Array Value).size = vs.length := rfl
        rw [e]; omega
      refine ⟨_, 33, ⟨h_wAbs, []⟩, leaf _, ?_⟩
      refine cast (run_wAbs2).symm ?_
      exact ⟨rfl, rfl, rfl, rfl, rfl, rfl, hsz _ hl, hge, rfl, rfl, rfl, rfl⟩
  · exact nocon_valid
end Mine
end
section
open PySem PySem.W PySem.W.X
namespace Mine
noncomputable def nmI (P : Params) (u : Nat → Nat) : List (Nat × Obj) := [(373, ⟨.type ty_dict, none, .dict ⟨[⟨(hS P ⟨⟨[116, 101, 120, 116, 115]⟩⟩), .str ⟨⟨[116, 101, 120, 116, 115]⟩⟩ (Nat.add (u 693) 690), .ref 376⟩, ⟨(hS P ⟨⟨[97, 116, 111, 109, 95, 110, 117, 109, 98, 101, 114, 115]⟩⟩), .str ⟨⟨[97, 116, 111, 109, 95, 110, 117, 109, 98, 101, 114, 115]⟩⟩ (Nat.add (u 695) 690), .ref 377⟩, ⟨(hS P ⟨⟨[102, 117, 110, 99, 116, 111, 114, 115]⟩⟩), .str ⟨⟨[102, 117, 110, 99, 116, 111, 114, 115]⟩⟩ (Nat.add (u 697) 690), .ref 378⟩, ⟨(hS P ⟨⟨[102, 117, 110, 99, 116, 111, 114, 95, 110, 117, 109, 98, 101, 114, 115]⟩⟩), .str ⟨⟨[102, 117, 110, 99, 116, 111, 114, 95, 110, 117, 109, 98, 101, 114, 115]⟩⟩ (Nat.add (u 699) 690), .ref 379⟩]⟩ 4, ⟨[]⟩⟩), (374, ⟨.ref 154, some 373, .plain, ⟨[]⟩⟩)]
noncomputable def nm0 (P : Params) (u : Nat → Nat) : List (Nat × Obj) := [
  (376, ⟨.type ty_list, none, .seq ⟨[.str ⟨⟨[91, 93]⟩⟩ (Nat.add (u 700) 690), .str ⟨⟨[46]⟩⟩ (Nat.add (u 701) 690), .str ⟨⟨[123, 125]⟩⟩ (Nat.add (u 702) 690), .str ⟨⟨[45]⟩⟩ (Nat.add (u 703) 690), .str ⟨⟨[43]⟩⟩ (Nat.add (u 704) 690), .str ⟨⟨[42]⟩⟩ (Nat.add (u 705) 690), .str ⟨⟨[47]⟩⟩ (Nat.add (u 706) 690), .str ⟨⟨[44]⟩⟩ (Nat.add (u 707) 690), .str ⟨⟨[124]⟩⟩ (Nat.add (u 708) 690), .str ⟨⟨[59]⟩⟩ (Nat.add (u 709) 690), .str ⟨⟨[45, 62]⟩⟩ (Nat.add (u 710) 690), .str ⟨⟨[92, 43]⟩⟩ (Nat.add (u 711) 690), .str ⟨⟨[58, 45]⟩⟩ (Nat.add (u 712) 690), .str ⟨⟨[63, 45]⟩⟩ (Nat.add (u 713) 690), .str ⟨⟨[45, 45, 62]⟩⟩ (Nat.add (u 714) 690), .str ⟨⟨[33]⟩⟩ (Nat.add (u 715) 690), .str ⟨⟨[116, 114, 117, 101]⟩⟩ (Nat.add (u 716) 690), .str ⟨⟨[102, 97, 105, 108]⟩⟩ (Nat.add (u 717) 690), .str ⟨⟨[102, 97, 108, 115, 101]⟩⟩ (Nat.add (u 718) 690), .str ⟨⟨[99, 97, 108, 108]⟩⟩ (Nat.add (u 719) 690), .str ⟨⟨[61]⟩⟩ (Nat.add (u 720) 690), .str ⟨⟨[94]⟩⟩ (Nat.add (u 721) 690), .str ⟨⟨[101, 114, 114, 111, 114]⟩⟩ (Nat.add (u 722) 690), .str ⟨⟨[]⟩⟩ (Nat.add (u 723) 690), .str ⟨⟨[101, 110, 100, 95, 111, 102, 95, 102, 105, 108, 101]⟩⟩ (Nat.add (u 724) 690), .str ⟨⟨[115, 121, 115, 116, 101, 109]⟩⟩ (Nat.add (u 725) 690), .str ⟨⟨[36, 86, 65, 82]⟩⟩ (Nat.add (u 726) 690), .str ⟨⟨[99, 97, 116, 99, 104]⟩⟩ (Nat.add (u 727) 690), .str ⟨⟨[116, 104, 114, 111, 119]⟩⟩ (Nat.add (u 728) 690)]⟩ 29, ⟨[]⟩⟩),
  (377, ⟨.type ty_dict, none, .dict ⟨[⟨(hS P ⟨⟨[91, 93]⟩⟩), .str ⟨⟨[91, 93]⟩⟩ (Nat.add (u 700) 690), .int (0) (Nat.add (u 740) 690)⟩, ⟨(hS P ⟨⟨[46]⟩⟩), .str ⟨⟨[46]⟩⟩ (Nat.add (u 701) 690), .int (1) (Nat.add (u 756) 690)⟩, ⟨(hS P ⟨⟨[123, 125]⟩⟩), .str ⟨⟨[123, 125]⟩⟩ (Nat.add (u 702) 690), .int (2) (Nat.add (u 772) 690)⟩, ⟨(hS P ⟨⟨[45]⟩⟩), .str ⟨⟨[45]⟩⟩ (Nat.add (u 703) 690), .int (3) (Nat.add (u 788) 690)⟩, ⟨(hS P ⟨⟨[43]⟩⟩), .str ⟨⟨[43]⟩⟩ (Nat.add (u 704) 690), .int (4) (Nat.add (u 804) 690)⟩, ⟨(hS P ⟨⟨[42]⟩⟩), .str ⟨⟨[42]⟩⟩ (Nat.add (u 705) 690), .int (5) (Nat.add (u 820) 690)⟩, ⟨(hS P ⟨⟨[47]⟩⟩), .str ⟨⟨[47]⟩⟩ (Nat.add (u 706) 690), .int (6) (Nat.add (u 836) 690)⟩, ⟨(hS P ⟨⟨[44]⟩⟩), .str ⟨⟨[44]⟩⟩ (Nat.add (u 707) 690), .int (7) (Nat.add (u 852) 690)⟩, ⟨(hS P ⟨⟨[124]⟩⟩), .str ⟨⟨[124]⟩⟩ (Nat.add (u 708) 690), .int (8) (Nat.add (u 868) 690)⟩, ⟨(hS P ⟨⟨[59]⟩⟩), .str ⟨⟨[59]⟩⟩ (Nat.add (u 709) 690), .int (9) (Nat.add (u 884) 690)⟩, ⟨(hS P ⟨⟨[45, 62]⟩⟩), .str ⟨⟨[45, 62]⟩⟩ (Nat.add (u 710) 690), .int (10) (Nat.add (u 900) 690)⟩, ⟨(hS P ⟨⟨[92, 43]⟩⟩), .str ⟨⟨[92, 43]⟩⟩ (Nat.add (u 711) 690), .int (11) (Nat.add (u 916) 690)⟩, ⟨(hS P ⟨⟨[58, 45]⟩⟩), .str ⟨⟨[58, 45]⟩⟩ (Nat.add (u 712) 690), .int (12) (Nat.add (u 932) 690)⟩, ⟨(hS P ⟨⟨[63, 45]⟩⟩), .str ⟨⟨[63, 45]⟩⟩ (Nat.add (u 713) 690), .int (13) (Nat.add (u 948) 690)⟩, ⟨(hS P ⟨⟨[45, 45, 62]⟩⟩), .str ⟨⟨[45, 45, 62]⟩⟩ (Nat.add (u 714) 690), .int (14) (Nat.add (u 964) 690)⟩, ⟨(hS P ⟨⟨[33]⟩⟩), .str ⟨⟨[33]⟩⟩ (Nat.add (u 715) 690), .int (15) (Nat.add (u 980) 690)⟩, ⟨(hS P ⟨⟨[116, 114, 117, 101]⟩⟩), .str ⟨⟨[116, 114, 117, 101]⟩⟩ (Nat.add (u 716) 690), .int (16) (Nat.add (u 996) 690)⟩, ⟨(hS P ⟨⟨[102, 97, 105, 108]⟩⟩), .str ⟨⟨[102, 97, 105, 108]⟩⟩ (Nat.add (u 717) 690), .int (17) (Nat.add (u 1012) 690)⟩, ⟨(hS P ⟨⟨[102, 97, 108, 115, 101]⟩⟩), .str ⟨⟨[102, 97, 108, 115, 101]⟩⟩ (Nat.add (u 718) 690), .int (18) (Nat.add (u 1028) 690)⟩, ⟨(hS P ⟨⟨[99, 97, 108, 108]⟩⟩), .str ⟨⟨[99, 97, 108, 108]⟩⟩ (Nat.add (u 719) 690), .int (19) (Nat.add (u 1044) 690)⟩, ⟨(hS P ⟨⟨[61]⟩⟩), .str ⟨⟨[61]⟩⟩ (Nat.add (u 720) 690), .int (20) (Nat.add (u 1060) 690)⟩, ⟨(hS P ⟨⟨[94]⟩⟩), .str ⟨⟨[94]⟩⟩ (Nat.add (u 721) 690), .int (21) (Nat.add (u 1076) 690)⟩, ⟨(hS P ⟨⟨[101, 114, 114, 111, 114]⟩⟩), .str ⟨⟨[101, 114, 114, 111, 114]⟩⟩ (Nat.add (u 722) 690), .int (22) (Nat.add (u 1092) 690)⟩, ⟨(hS P ⟨⟨[]⟩⟩), .str ⟨⟨[]⟩⟩ (Nat.add (u 723) 690), .int (23) (Nat.add (u 1108) 690)⟩, ⟨(hS P ⟨⟨[101, 110, 100, 95, 111, 102, 95, 102, 105, 108, 101]⟩⟩), .str ⟨⟨[101, 110, 100, 95, 111, 102, 95, 102, 105, 108, 101]⟩⟩ (Nat.add (u 724) 690), .int (24) (Nat.add (u 1124) 690)⟩, ⟨(hS P ⟨⟨[115, 121, 115, 116, 101, 109]⟩⟩), .str ⟨⟨[115, 121, 115, 116, 101, 109]⟩⟩ (Nat.add (u 725) 690), .int (25) (Nat.add (u 1140) 690)⟩, ⟨(hS P ⟨⟨[36, 86, 65, 82]⟩⟩), .str ⟨⟨[36, 86, 65, 82]⟩⟩ (Nat.add (u 726) 690), .int (26) (Nat.add (u 1156) 690)⟩, ⟨(hS P ⟨⟨[99, 97, 116, 99, 104]⟩⟩), .str ⟨⟨[99, 97, 116, 99, 104]⟩⟩ (Nat.add (u 727) 690), .int (27) (Nat.add (u 1172) 690)⟩, ⟨(hS P ⟨⟨[116, 104, 114, 111, 119]⟩⟩), .str ⟨⟨[116, 104, 114, 111, 119]⟩⟩ (Nat.add (u 728) 690), .int (28) (Nat.add (u 1188) 690)⟩]⟩ 29, ⟨[]⟩⟩),
  (378, ⟨.type ty_list, none, .seq ⟨[.ref 452, .ref 456, .ref 460, .ref 464, .ref 468, .ref 472, .ref 476, .ref 480, .ref 484, .ref 488, .ref 492, .ref 496, .ref 500, .ref 504, .ref 508, .ref 512, .ref 516, .ref 520, .ref 524, .ref 528, .ref 532, .ref 536, .ref 540, .ref 544, .ref 548, .ref 552, .ref 556, .ref 560, .ref 564, .ref 568, .ref 572, .ref 576]⟩ 32, ⟨[]⟩⟩),
  (379, ⟨.type ty_dict, none, .dict ⟨[⟨(-3550055125485641917), .ref 452, .int (0) (Nat.add (u 1285) 690)⟩, ⟨(5973048414285056246), .ref 456, .int (1) (Nat.add (u 1320) 690)⟩, ⟨(-5060604854200353011), .ref 460, .int (2) (Nat.add (u 1355) 690)⟩, ⟨(-1767087503132776002), .ref 464, .int (3) (Nat.add (u 1390) 690)⟩, ⟨(-5470608895905243200), .ref 468, .int (4) (Nat.add (u 1425) 690)⟩, ⟨(5646003302091366357), .ref 472, .int (5) (Nat.add (u 1460) 690)⟩, ⟨(-7907666742645488893), .ref 476, .int (6) (Nat.add (u 1495) 690)⟩, ⟨(8102019484323817030), .ref 480, .int (7) (Nat.add (u 1530) 690)⟩, ⟨(342925231413779802), .ref 484, .int (8) (Nat.add (u 1565) 690)⟩, ⟨(6794810172467074373), .ref 488, .int (9) (Nat.add (u 1600) 690)⟩, ⟨(-2421177727520155780), .ref 492, .int (10) (Nat.add (u 1635) 690)⟩, ⟨(7428970924444232272), .ref 496, .int (11) (Nat.add (u 1670) 690)⟩, ⟨(8756109708711196808), .ref 500, .int (12) (Nat.add (u 1705) 690)⟩, ⟨(3863035679738500442), .ref 504, .int (13) (Nat.add (u 1740) 690)⟩, ⟨(-9131917124991031250), .ref 508, .int (14) (Nat.add (u 1775) 690)⟩, ⟨(-3877100237679331806), .ref 512, .int (15) (Nat.add (u 1810) 690)⟩, ⟨(-7724255798197742335), .ref 516, .int (16) (Nat.add (u 1845) 690)⟩, ⟨(6324860253956366660), .ref 520, .int (17) (Nat.add (u 1880) 690)⟩, ⟨(-1543660154289433799), .ref 524, .int (18) (Nat.add (u 1915) 690)⟩, ⟨(6691921770545652194), .ref 528, .int (19) (Nat.add (u 1950) 690)⟩, ⟨(-3708699342455767950), .ref 532, .int (20) (Nat.add (u 1985) 690)⟩, ⟨(6141449309508620102), .ref 536, .int (21) (Nat.add (u 2020) 690)⟩, ⟨(8102748845752742537), .ref 540, .int (22) (Nat.add (u 2055) 690)⟩, ⟨(838371238831033547), .ref 544, .int (23) (Nat.add (u 2090) 690)⟩, ⟨(4908954148192786279), .ref 548, .int (24) (Nat.add (u 2125) 690)⟩, ⟨(15880119220089913), .ref 552, .int (25) (Nat.add (u 2160) 690)⟩, ⟨(6523520875322088338), .ref 556, .int (26) (Nat.add (u 2195) 690)⟩, ⟨(-2767910536634976156), .ref 560, .int (27) (Nat.add (u 2230) 690)⟩, ⟨(3739730219467022269), .ref 564, .int (28) (Nat.add (u 2265) 690)⟩, ⟨(-1153343809505674097), .ref 568, .int (29) (Nat.add (u 2300) 690)⟩, ⟨(5354296946596324328), .ref 572, .int (30) (Nat.add (u 2335) 690)⟩, ⟨(-6584806371011228863), .ref 576, .int (31) (Nat.add (u 2370) 690)⟩]⟩ 32, ⟨[]⟩⟩)]
noncomputable def nm1 (P : Params) (u : Nat → Nat) (k0 : Nat) : List (Nat × Obj) := [
  (376, ⟨.type ty_list, none, .seq ⟨[.str ⟨⟨[91, 93]⟩⟩ (Nat.add (u 700) 690), .str ⟨⟨[46]⟩⟩ (Nat.add (u 701) 690), .str ⟨⟨[123, 125]⟩⟩ (Nat.add (u 702) 690), .str ⟨⟨[45]⟩⟩ (Nat.add (u 703) 690), .str ⟨⟨[43]⟩⟩ (Nat.add (u 704) 690), .str ⟨⟨[42]⟩⟩ (Nat.add (u 705) 690), .str ⟨⟨[47]⟩⟩ (Nat.add (u 706) 690), .str ⟨⟨[44]⟩⟩ (Nat.add (u 707) 690), .str ⟨⟨[124]⟩⟩ (Nat.add (u 708) 690), .str ⟨⟨[59]⟩⟩ (Nat.add (u 709) 690), .str ⟨⟨[45, 62]⟩⟩ (Nat.add (u 710) 690), .str ⟨⟨[92, 43]⟩⟩ (Nat.add (u 711) 690), .str ⟨⟨[58, 45]⟩⟩ (Nat.add (u 712) 690), .str ⟨⟨[63, 45]⟩⟩ (Nat.add (u 713) 690), .str ⟨⟨[45, 45, 62]⟩⟩ (Nat.add (u 714) 690), .str ⟨⟨[33]⟩⟩ (Nat.add (u 715) 690), .str ⟨⟨[116, 114, 117, 101]⟩⟩ (Nat.add (u 716) 690), .str ⟨⟨[102, 97, 105, 108]⟩⟩ (Nat.add (u 717) 690), .str ⟨⟨[102, 97, 108, 115, 101]⟩⟩ (Nat.add (u 718) 690), .str ⟨⟨[99, 97, 108, 108]⟩⟩ (Nat.add (u 719) 690), .str ⟨⟨[61]⟩⟩ (Nat.add (u 720) 690), .str ⟨⟨[94]⟩⟩ (Nat.add (u 721) 690), .str ⟨⟨[101, 114, 114, 111, 114]⟩⟩ (Nat.add (u 722) 690), .str ⟨⟨[]⟩⟩ (Nat.add (u 723) 690), .str ⟨⟨[101, 110, 100, 95, 111, 102, 95, 102, 105, 108, 101]⟩⟩ (Nat.add (u 724) 690), .str ⟨⟨[115, 121, 115, 116, 101, 109]⟩⟩ (Nat.add (u 725) 690), .str ⟨⟨[36, 86, 65, 82]⟩⟩ (Nat.add (u 726) 690), .str ⟨⟨[99, 97, 116, 99, 104]⟩⟩ (Nat.add (u 727) 690), .str ⟨⟨[116, 104, 114, 111, 119]⟩⟩ (Nat.add (u 728) 690), .str ⟨⟨[47, 47]⟩⟩ (Nat.add (u 2417) 690)]⟩ 30, ⟨[]⟩⟩),
  (377, ⟨.type ty_dict, none, .dict ⟨[⟨(hS P ⟨⟨[91, 93]⟩⟩), .str ⟨⟨[91, 93]⟩⟩ (Nat.add (u 700) 690), .int (0) (Nat.add (u 740) 690)⟩, ⟨(hS P ⟨⟨[46]⟩⟩), .str ⟨⟨[46]⟩⟩ (Nat.add (u 701) 690), .int (1) (Nat.add (u 756) 690)⟩, ⟨(hS P ⟨⟨[123, 125]⟩⟩), .str ⟨⟨[123, 125]⟩⟩ (Nat.add (u 702) 690), .int (2) (Nat.add (u 772) 690)⟩, ⟨(hS P ⟨⟨[45]⟩⟩), .str ⟨⟨[45]⟩⟩ (Nat.add (u 703) 690), .int (3) (Nat.add (u 788) 690)⟩, ⟨(hS P ⟨⟨[43]⟩⟩), .str ⟨⟨[43]⟩⟩ (Nat.add (u 704) 690), .int (4) (Nat.add (u 804) 690)⟩, ⟨(hS P ⟨⟨[42]⟩⟩), .str ⟨⟨[42]⟩⟩ (Nat.add (u 705) 690), .int (5) (Nat.add (u 820) 690)⟩, ⟨(hS P ⟨⟨[47]⟩⟩), .str ⟨⟨[47]⟩⟩ (Nat.add (u 706) 690), .int (6) (Nat.add (u 836) 690)⟩, ⟨(hS P ⟨⟨[44]⟩⟩), .str ⟨⟨[44]⟩⟩ (Nat.add (u 707) 690), .int (7) (Nat.add (u 852) 690)⟩, ⟨(hS P ⟨⟨[124]⟩⟩), .str ⟨⟨[124]⟩⟩ (Nat.add (u 708) 690), .int (8) (Nat.add (u 868) 690)⟩, ⟨(hS P ⟨⟨[59]⟩⟩), .str ⟨⟨[59]⟩⟩ (Nat.add (u 709) 690), .int (9) (Nat.add (u 884) 690)⟩, ⟨(hS P ⟨⟨[45, 62]⟩⟩), .str ⟨⟨[45, 62]⟩⟩ (Nat.add (u 710) 690), .int (10) (Nat.add (u 900) 690)⟩, ⟨(hS P ⟨⟨[92, 43]⟩⟩), .str ⟨⟨[92, 43]⟩⟩ (Nat.add (u 711) 690), .int (11) (Nat.add (u 916) 690)⟩, ⟨(hS P ⟨⟨[58, 45]⟩⟩), .str ⟨⟨[58, 45]⟩⟩ (Nat.add (u 712) 690), .int (12) (Nat.add (u 932) 690)⟩, ⟨(hS P ⟨⟨[63, 45]⟩⟩), .str ⟨⟨[63, 45]⟩⟩ (Nat.add (u 713) 690), .int (13) (Nat.add (u 948) 690)⟩, ⟨(hS P ⟨⟨[45, 45, 62]⟩⟩), .str ⟨⟨[45, 45, 62]⟩⟩ (Nat.add (u 714) 690), .int (14) (Nat.add (u 964) 690)⟩, ⟨(hS P ⟨⟨[33]⟩⟩), .str ⟨⟨[33]⟩⟩ (Nat.add (u 715) 690), .int (15) (Nat.add (u 980) 690)⟩, ⟨(hS P ⟨⟨[116, 114, 117, 101]⟩⟩), .str ⟨⟨[116, 114, 117, 101]⟩⟩ (Nat.add (u 716) 690), .int (16) (Nat.add (u 996) 690)⟩, ⟨(hS P ⟨⟨[102, 97, 105, 108]⟩⟩), .str ⟨⟨[102, 97, 105, 108]⟩⟩ (Nat.add (u 717) 690), .int (17) (Nat.add (u 1012) 690)⟩, ⟨(hS P ⟨⟨[102, 97, 108, 115, 101]⟩⟩), .str ⟨⟨[102, 97, 108, 115, 101]⟩⟩ (Nat.add (u 718) 690), .int (18) (Nat.add (u 1028) 690)⟩, ⟨(hS P ⟨⟨[99, 97, 108, 108]⟩⟩), .str ⟨⟨[99, 97, 108, 108]⟩⟩ (Nat.add (u 719) 690), .int (19) (Nat.add (u 1044) 690)⟩, ⟨(hS P ⟨⟨[61]⟩⟩), .str ⟨⟨[61]⟩⟩ (Nat.add (u 720) 690), .int (20) (Nat.add (u 1060) 690)⟩, ⟨(hS P ⟨⟨[94]⟩⟩), .str ⟨⟨[94]⟩⟩ (Nat.add (u 721) 690), .int (21) (Nat.add (u 1076) 690)⟩, ⟨(hS P ⟨⟨[101, 114, 114, 111, 114]⟩⟩), .str ⟨⟨[101, 114, 114, 111, 114]⟩⟩ (Nat.add (u 722) 690), .int (22) (Nat.add (u 1092) 690)⟩, ⟨(hS P ⟨⟨[]⟩⟩), .str ⟨⟨[]⟩⟩ (Nat.add (u 723) 690), .int (23) (Nat.add (u 1108) 690)⟩, ⟨(hS P ⟨⟨[101, 110, 100, 95, 111, 102, 95, 102, 105, 108, 101]⟩⟩), .str ⟨⟨[101, 110, 100, 95, 111, 102, 95, 102, 105, 108, 101]⟩⟩ (Nat.add (u 724) 690), .int (24) (Nat.add (u 1124) 690)⟩, ⟨(hS P ⟨⟨[115, 121, 115, 116, 101, 109]⟩⟩), .str ⟨⟨[115, 121, 115, 116, 101, 109]⟩⟩ (Nat.add (u 725) 690), .int (25) (Nat.add (u 1140) 690)⟩, ⟨(hS P ⟨⟨[36, 86, 65, 82]⟩⟩), .str ⟨⟨[36, 86, 65, 82]⟩⟩ (Nat.add (u 726) 690), .int (26) (Nat.add (u 1156) 690)⟩, ⟨(hS P ⟨⟨[99, 97, 116, 99, 104]⟩⟩), .str ⟨⟨[99, 97, 116, 99, 104]⟩⟩ (Nat.add (u 727) 690), .int (27) (Nat.add (u 1172) 690)⟩, ⟨(hS P ⟨⟨[116, 104, 114, 111, 119]⟩⟩), .str ⟨⟨[116, 104, 114, 111, 119]⟩⟩ (Nat.add (u 728) 690), .int (28) (Nat.add (u 1188) 690)⟩, ⟨(hS P ⟨⟨[47, 47]⟩⟩), .str ⟨⟨[47, 47]⟩⟩ (Nat.add (u 2417) 690), .int (29) (Nat.add (u 2437) 690)⟩]⟩ 30, ⟨[]⟩⟩),
  (378, ⟨.type ty_list, none, .seq ⟨[.ref 452, .ref 456, .ref 460, .ref 464, .ref 468, .ref 472, .ref 476, .ref 480, .ref 484, .ref 488, .ref 492, .ref 496, .ref 500, .ref 504, .ref 508, .ref 512, .ref 516, .ref 520, .ref 524, .ref 528, .ref 532, .ref 536, .ref 540, .ref 544, .ref 548, .ref 552, .ref 556, .ref 560, .ref 564, .ref 568, .ref 572, .ref 576, .ref k0]⟩ 33, ⟨[]⟩⟩),
  (379, ⟨.type ty_dict, none, .dict ⟨[⟨(-3550055125485641917), .ref 452, .int (0) (Nat.add (u 1285) 690)⟩, ⟨(5973048414285056246), .ref 456, .int (1) (Nat.add (u 1320) 690)⟩, ⟨(-5060604854200353011), .ref 460, .int (2) (Nat.add (u 1355) 690)⟩, ⟨(-1767087503132776002), .ref 464, .int (3) (Nat.add (u 1390) 690)⟩, ⟨(-5470608895905243200), .ref 468, .int (4) (Nat.add (u 1425) 690)⟩, ⟨(5646003302091366357), .ref 472, .int (5) (Nat.add (u 1460) 690)⟩, ⟨(-7907666742645488893), .ref 476, .int (6) (Nat.add (u 1495) 690)⟩, ⟨(8102019484323817030), .ref 480, .int (7) (Nat.add (u 1530) 690)⟩, ⟨(342925231413779802), .ref 484, .int (8) (Nat.add (u 1565) 690)⟩, ⟨(6794810172467074373), .ref 488, .int (9) (Nat.add (u 1600) 690)⟩, ⟨(-2421177727520155780), .ref 492, .int (10) (Nat.add (u 1635) 690)⟩, ⟨(7428970924444232272), .ref 496, .int (11) (Nat.add (u 1670) 690)⟩, ⟨(8756109708711196808), .ref 500, .int (12) (Nat.add (u 1705) 690)⟩, ⟨(3863035679738500442), .ref 504, .int (13) (Nat.add (u 1740) 690)⟩, ⟨(-9131917124991031250), .ref 508, .int (14) (Nat.add (u 1775) 690)⟩, ⟨(-3877100237679331806), .ref 512, .int (15) (Nat.add (u 1810) 690)⟩, ⟨(-7724255798197742335), .ref 516, .int (16) (Nat.add (u 1845) 690)⟩, ⟨(6324860253956366660), .ref 520, .int (17) (Nat.add (u 1880) 690)⟩, ⟨(-1543660154289433799), .ref 524, .int (18) (Nat.add (u 1915) 690)⟩, ⟨(6691921770545652194), .ref 528, .int (19) (Nat.add (u 1950) 690)⟩, ⟨(-3708699342455767950), .ref 532, .int (20) (Nat.add (u 1985) 690)⟩, ⟨(6141449309508620102), .ref 536, .int (21) (Nat.add (u 2020) 690)⟩, ⟨(8102748845752742537), .ref 540, .int (22) (Nat.add (u 2055) 690)⟩, ⟨(838371238831033547), .ref 544, .int (23) (Nat.add (u 2090) 690)⟩, ⟨(4908954148192786279), .ref 548, .int (24) (Nat.add (u 2125) 690)⟩, ⟨(15880119220089913), .ref 552, .int (25) (Nat.add (u 2160) 690)⟩, ⟨(6523520875322088338), .ref 556, .int (26) (Nat.add (u 2195) 690)⟩, ⟨(-2767910536634976156), .ref 560, .int (27) (Nat.add (u 2230) 690)⟩, ⟨(3739730219467022269), .ref 564, .int (28) (Nat.add (u 2265) 690)⟩, ⟨(-1153343809505674097), .ref 568, .int (29) (Nat.add (u 2300) 690)⟩, ⟨(5354296946596324328), .ref 572, .int (30) (Nat.add (u 2335) 690)⟩, ⟨(-6584806371011228863), .ref 576, .int (31) (Nat.add (u 2370) 690)⟩, ⟨(3760147277817078263), .ref k0, .int (32) (Nat.add (u 2456) 690)⟩]⟩ 33, ⟨[]⟩⟩)]
noncomputable def nm2 (P : Params) (u : Nat → Nat) (k0 k1 : Nat) : List (Nat × Obj) := [
  (376, ⟨.type ty_list, none, .seq ⟨[.str ⟨⟨[91, 93]⟩⟩ (Nat.add (u 700) 690), .str ⟨⟨[46]⟩⟩ (Nat.add (u 701) 690), .str ⟨⟨[123, 125]⟩⟩ (Nat.add (u 702) 690), .str ⟨⟨[45]⟩⟩ (Nat.add (u 703) 690), .str ⟨⟨[43]⟩⟩ (Nat.add (u 704) 690), .str ⟨⟨[42]⟩⟩ (Nat.add (u 705) 690), .str ⟨⟨[47]⟩⟩ (Nat.add (u 706) 690), .str ⟨⟨[44]⟩⟩ (Nat.add (u 707) 690), .str ⟨⟨[124]⟩⟩ (Nat.add (u 708) 690), .str ⟨⟨[59]⟩⟩ (Nat.add (u 709) 690), .str ⟨⟨[45, 62]⟩⟩ (Nat.add (u 710) 690), .str ⟨⟨[92, 43]⟩⟩ (Nat.add (u 711) 690), .str ⟨⟨[58, 45]⟩⟩ (Nat.add (u 712) 690), .str ⟨⟨[63, 45]⟩⟩ (Nat.add (u 713) 690), .str ⟨⟨[45, 45, 62]⟩⟩ (Nat.add (u 714) 690), .str ⟨⟨[33]⟩⟩ (Nat.add (u 715) 690), .str ⟨⟨[116, 114, 117, 101]⟩⟩ (Nat.add (u 716) 690), .str ⟨⟨[102, 97, 105, 108]⟩⟩ (Nat.add (u 717) 690), .str ⟨⟨[102, 97, 108, 115, 101]⟩⟩ (Nat.add (u 718) 690), .str ⟨⟨[99, 97, 108, 108]⟩⟩ (Nat.add (u 719) 690), .str ⟨⟨[61]⟩⟩ (Nat.add (u 720) 690), .str ⟨⟨[94]⟩⟩ (Nat.add (u 721) 690), .str ⟨⟨[101, 114, 114, 111, 114]⟩⟩ (Nat.add (u 722) 690), .str ⟨⟨[]⟩⟩ (Nat.add (u 723) 690), .str ⟨⟨[101, 110, 100, 95, 111, 102, 95, 102, 105, 108, 101]⟩⟩ (Nat.add (u 724) 690), .str ⟨⟨[115, 121, 115, 116, 101, 109]⟩⟩ (Nat.add (u 725) 690), .str ⟨⟨[36, 86, 65, 82]⟩⟩ (Nat.add (u 726) 690), .str ⟨⟨[99, 97, 116, 99, 104]⟩⟩ (Nat.add (u 727) 690), .str ⟨⟨[116, 104, 114, 111, 119]⟩⟩ (Nat.add (u 728) 690), .str ⟨⟨[47, 47]⟩⟩ (Nat.add (u 2417) 690), .str ⟨⟨[114, 101, 109]⟩⟩ (Nat.add (u 2581) 690)]⟩ 31, ⟨[]⟩⟩),
  (377, ⟨.type ty_dict, none, .dict ⟨[⟨(hS P ⟨⟨[91, 93]⟩⟩), .str ⟨⟨[91, 93]⟩⟩ (Nat.add (u 700) 690), .int (0) (Nat.add (u 740) 690)⟩, ⟨(hS P ⟨⟨[46]⟩⟩), .str ⟨⟨[46]⟩⟩ (Nat.add (u 701) 690), .int (1) (Nat.add (u 756) 690)⟩, ⟨(hS P ⟨⟨[123, 125]⟩⟩), .str ⟨⟨[123, 125]⟩⟩ (Nat.add (u 702) 690), .int (2) (Nat.add (u 772) 690)⟩, ⟨(hS P ⟨⟨[45]⟩⟩), .str ⟨⟨[45]⟩⟩ (Nat.add (u 703) 690), .int (3) (Nat.add (u 788) 690)⟩, ⟨(hS P ⟨⟨[43]⟩⟩), .str ⟨⟨[43]⟩⟩ (Nat.add (u 704) 690), .int (4) (Nat.add (u 804) 690)⟩, ⟨(hS P ⟨⟨[42]⟩⟩), .str ⟨⟨[42]⟩⟩ (Nat.add (u 705) 690), .int (5) (Nat.add (u 820) 690)⟩, ⟨(hS P ⟨⟨[47]⟩⟩), .str ⟨⟨[47]⟩⟩ (Nat.add (u 706) 690), .int (6) (Nat.add (u 836) 690)⟩, ⟨(hS P ⟨⟨[44]⟩⟩), .str ⟨⟨[44]⟩⟩ (Nat.add (u 707) 690), .int (7) (Nat.add (u 852) 690)⟩, ⟨(hS P ⟨⟨[124]⟩⟩), .str ⟨⟨[124]⟩⟩ (Nat.add (u 708) 690), .int (8) (Nat.add (u 868) 690)⟩, ⟨(hS P ⟨⟨[59]⟩⟩), .str ⟨⟨[59]⟩⟩ (Nat.add (u 709) 690), .int (9) (Nat.add (u 884) 690)⟩, ⟨(hS P ⟨⟨[45, 62]⟩⟩), .str ⟨⟨[45, 62]⟩⟩ (Nat.add (u 710) 690), .int (10) (Nat.add (u 900) 690)⟩, ⟨(hS P ⟨⟨[92, 43]⟩⟩), .str ⟨⟨[92, 43]⟩⟩ (Nat.add (u 711) 690), .int (11) (Nat.add (u 916) 690)⟩, ⟨(hS P ⟨⟨[58, 45]⟩⟩), .str ⟨⟨[58, 45]⟩⟩ (Nat.add (u 712) 690), .int (12) (Nat.add (u 932) 690)⟩, ⟨(hS P ⟨⟨[63, 45]⟩⟩), .str ⟨⟨[63, 45]⟩⟩ (Nat.add (u 713) 690), .int (13) (Nat.add (u 948) 690)⟩, ⟨(hS P ⟨⟨[45, 45, 62]⟩⟩), .str ⟨⟨[45, 45, 62]⟩⟩ (Nat.add (u 714) 690), .int (14) (Nat.add (u 964) 690)⟩, ⟨(hS P ⟨⟨[33]⟩⟩), .str ⟨⟨[33]⟩⟩ (Nat.add (u 715) 690), .int (15) (Nat.add (u 980) 690)⟩, ⟨(hS P ⟨⟨[116, 114, 117, 101]⟩⟩), .str ⟨⟨[116, 114, 117, 101]⟩⟩ (Nat.add (u 716) 690), .int (16) (Nat.add (u 996) 690)⟩, ⟨(hS P ⟨⟨[102, 97, 105, 108]⟩⟩), .str ⟨⟨[102, 97, 105, 108]⟩⟩ (Nat.add (u 717) 690), .int (17) (Nat.add (u 1012) 690)⟩, ⟨(hS P ⟨⟨[102, 97, 108, 115, 101]⟩⟩), .str ⟨⟨[102, 97, 108, 115, 101]⟩⟩ (Nat.add (u 718) 690), .int (18) (Nat.add (u 1028) 690)⟩, ⟨(hS P ⟨⟨[99, 97, 108, 108]⟩⟩), .str ⟨⟨[99, 97, 108, 108]⟩⟩ (Nat.add (u 719) 690), .int (19) (Nat.add (u 1044) 690)⟩, ⟨(hS P ⟨⟨[61]⟩⟩), .str ⟨⟨[61]⟩⟩ (Nat.add (u 720) 690), .int (20) (Nat.add (u 1060) 690)⟩, ⟨(hS P ⟨⟨[94]⟩⟩), .str ⟨⟨[94]⟩⟩ (Nat.add (u 721) 690), .int (21) (Nat.add (u 1076) 690)⟩, ⟨(hS P ⟨⟨[101, 114, 114, 111, 114]⟩⟩), .str ⟨⟨[101, 114, 114, 111, 114]⟩⟩ (Nat.add (u 722) 690), .int (22) (Nat.add (u 1092) 690)⟩, ⟨(hS P ⟨⟨[]⟩⟩), .str ⟨⟨[]⟩⟩ (Nat.add (u 723) 690), .int (23) (Nat.add (u 1108) 690)⟩, ⟨(hS P ⟨⟨[101, 110, 100, 95, 111, 102, 95, 102, 105, 108, 101]⟩⟩), .str ⟨⟨[101, 110, 100, 95, 111, 102, 95, 102, 105, 108, 101]⟩⟩ (Nat.add (u 724) 690), .int (24) (Nat.add (u 1124) 690)⟩, ⟨(hS P ⟨⟨[115, 121, 115, 116, 101, 109]⟩⟩), .str ⟨⟨[115, 121, 115, 116, 101, 109]⟩⟩ (Nat.add (u 725) 690), .int (25) (Nat.add (u 1140) 690)⟩, ⟨(hS P ⟨⟨[36, 86, 65, 82]⟩⟩), .str ⟨⟨[36, 86, 65, 82]⟩⟩ (Nat.add (u 726) 690), .int (26) (Nat.add (u 1156) 690)⟩, ⟨(hS P ⟨⟨[99, 97, 116, 99, 104]⟩⟩), .str ⟨⟨[99, 97, 116, 99, 104]⟩⟩ (Nat.add (u 727) 690), .int (27) (Nat.add (u 1172) 690)⟩, ⟨(hS P ⟨⟨[116, 104, 114, 111, 119]⟩⟩), .str ⟨⟨[116, 104, 114, 111, 119]⟩⟩ (Nat.add (u 728) 690), .int (28) (Nat.add (u 1188) 690)⟩, ⟨(hS P ⟨⟨[47, 47]⟩⟩), .str ⟨⟨[47, 47]⟩⟩ (Nat.add (u 2417) 690), .int (29) (Nat.add (u 2437) 690)⟩, ⟨(hS P ⟨⟨[114, 101, 109]⟩⟩), .str ⟨⟨[114, 101, 109]⟩⟩ (Nat.add (u 2581) 690), .int (30) (Nat.add (u 2601) 690)⟩]⟩ 31, ⟨[]⟩⟩),
  (378, ⟨.type ty_list, none, .seq ⟨[.ref 452, .ref 456, .ref 460, .ref 464, .ref 468, .ref 472, .ref 476, .ref 480, .ref 484, .ref 488, .ref 492, .ref 496, .ref 500, .ref 504, .ref 508, .ref 512, .ref 516, .ref 520, .ref 524, .ref 528, .ref 532, .ref 536, .ref 540, .ref 544, .ref 548, .ref 552, .ref 556, .ref 560, .ref 564, .ref 568, .ref 572, .ref 576, .ref k0, .ref k1]⟩ 34, ⟨[]⟩⟩),
  (379, ⟨.type ty_dict, none, .dict ⟨[⟨(-3550055125485641917), .ref 452, .int (0) (Nat.add (u 1285) 690)⟩, ⟨(5973048414285056246), .ref 456, .int (1) (Nat.add (u 1320) 690)⟩, ⟨(-5060604854200353011), .ref 460, .int (2) (Nat.add (u 1355) 690)⟩, ⟨(-1767087503132776002), .ref 464, .int (3) (Nat.add (u 1390) 690)⟩, ⟨(-5470608895905243200), .ref 468, .int (4) (Nat.add (u 1425) 690)⟩, ⟨(5646003302091366357), .ref 472, .int (5) (Nat.add (u 1460) 690)⟩, ⟨(-7907666742645488893), .ref 476, .int (6) (Nat.add (u 1495) 690)⟩, ⟨(8102019484323817030), .ref 480, .int (7) (Nat.add (u 1530) 690)⟩, ⟨(342925231413779802), .ref 484, .int (8) (Nat.add (u 1565) 690)⟩, ⟨(6794810172467074373), .ref 488, .int (9) (Nat.add (u 1600) 690)⟩, ⟨(-2421177727520155780), .ref 492, .int (10) (Nat.add (u 1635) 690)⟩, ⟨(7428970924444232272), .ref 496, .int (11) (Nat.add (u 1670) 690)⟩, ⟨(8756109708711196808), .ref 500, .int (12) (Nat.add (u 1705) 690)⟩, ⟨(3863035679738500442), .ref 504, .int (13) (Nat.add (u 1740) 690)⟩, ⟨(-9131917124991031250), .ref 508, .int (14) (Nat.add (u 1775) 690)⟩, ⟨(-3877100237679331806), .ref 512, .int (15) (Nat.add (u 1810) 690)⟩, ⟨(-7724255798197742335), .ref 516, .int (16) (Nat.add (u 1845) 690)⟩, ⟨(6324860253956366660), .ref 520, .int (17) (Nat.add (u 1880) 690)⟩, ⟨(-1543660154289433799), .ref 524, .int (18) (Nat.add (u 1915) 690)⟩, ⟨(6691921770545652194), .ref 528, .int (19) (Nat.add (u 1950) 690)⟩, ⟨(-3708699342455767950), .ref 532, .int (20) (Nat.add (u 1985) 690)⟩, ⟨(6141449309508620102), .ref 536, .int (21) (Nat.add (u 2020) 690)⟩, ⟨(8102748845752742537), .ref 540, .int (22) (Nat.add (u 2055) 690)⟩, ⟨(838371238831033547), .ref 544, .int (23) (Nat.add (u 2090) 690)⟩, ⟨(4908954148192786279), .ref 548, .int (24) (Nat.add (u 2125) 690)⟩, ⟨(15880119220089913), .ref 552, .int (25) (Nat.add (u 2160) 690)⟩, ⟨(6523520875322088338), .ref 556, .int (26) (Nat.add (u 2195) 690)⟩, ⟨(-2767910536634976156), .ref 560, .int (27) (Nat.add (u 2230) 690)⟩, ⟨(3739730219467022269), .ref 564, .int (28) (Nat.add (u 2265) 690)⟩, ⟨(-1153343809505674097), .ref 568, .int (29) (Nat.add (u 2300) 690)⟩, ⟨(5354296946596324328), .ref 572, .int (30) (Nat.add (u 2335) 690)⟩, ⟨(-6584806371011228863), .ref 576, .int (31) (Nat.add (u 2370) 690)⟩, ⟨(3760147277817078263), .ref k0, .int (32) (Nat.add (u 2456) 690)⟩, ⟨(-3504230329104630727), .ref k1, .int (33) (Nat.add (u 2620) 690)⟩]⟩ 34, ⟨[]⟩⟩)]
noncomputable def nm3 (P : Params) (u : Nat → Nat) (k0 k1 k2 : Nat) : List (Nat × Obj) := [
  (376, ⟨.type ty_list, none, .seq ⟨[.str ⟨⟨[91, 93]⟩⟩ (Nat.add (u 700) 690), .str ⟨⟨[46]⟩⟩ (Nat.add (u 701) 690), .str ⟨⟨[123, 125]⟩⟩ (Nat.add (u 702) 690), .str ⟨⟨[45]⟩⟩ (Nat.add (u 703) 690), .str ⟨⟨[43]⟩⟩ (Nat.add (u 704) 690), .str ⟨⟨[42]⟩⟩ (Nat.add (u 705) 690), .str ⟨⟨[47]⟩⟩ (Nat.add (u 706) 690), .str ⟨⟨[44]⟩⟩ (Nat.add (u 707) 690), .str ⟨⟨[124]⟩⟩ (Nat.add (u 708) 690), .str ⟨⟨[59]⟩⟩ (Nat.add (u 709) 690), .str ⟨⟨[45, 62]⟩⟩ (Nat.add (u 710) 690), .str ⟨⟨[92, 43]⟩⟩ (Nat.add (u 711) 690), .str ⟨⟨[58, 45]⟩⟩ (Nat.add (u 712) 690), .str ⟨⟨[63, 45]⟩⟩ (Nat.add (u 713) 690), .str ⟨⟨[45, 45, 62]⟩⟩ (Nat.add (u 714) 690), .str ⟨⟨[33]⟩⟩ (Nat.add (u 715) 690), .str ⟨⟨[116, 114, 117, 101]⟩⟩ (Nat.add (u 716) 690), .str ⟨⟨[102, 97, 105, 108]⟩⟩ (Nat.add (u 717) 690), .str ⟨⟨[102, 97, 108, 115, 101]⟩⟩ (Nat.add (u 718) 690), .str ⟨⟨[99, 97, 108, 108]⟩⟩ (Nat.add (u 719) 690), .str ⟨⟨[61]⟩⟩ (Nat.add (u 720) 690), .str ⟨⟨[94]⟩⟩ (Nat.add (u 721) 690), .str ⟨⟨[101, 114, 114, 111, 114]⟩⟩ (Nat.add (u 722) 690), .str ⟨⟨[]⟩⟩ (Nat.add (u 723) 690), .str ⟨⟨[101, 110, 100, 95, 111, 102, 95, 102, 105, 108, 101]⟩⟩ (Nat.add (u 724) 690), .str ⟨⟨[115, 121, 115, 116, 101, 109]⟩⟩ (Nat.add (u 725) 690), .str ⟨⟨[36, 86, 65, 82]⟩⟩ (Nat.add (u 726) 690), .str ⟨⟨[99, 97, 116, 99, 104]⟩⟩ (Nat.add (u 727) 690), .str ⟨⟨[116, 104, 114, 111, 119]⟩⟩ (Nat.add (u 728) 690), .str ⟨⟨[47, 47]⟩⟩ (Nat.add (u 2417) 690), .str ⟨⟨[114, 101, 109]⟩⟩ (Nat.add (u 2581) 690), .str ⟨⟨[100, 105, 118]⟩⟩ (Nat.add (u 2750) 690)]⟩ 32, ⟨[]⟩⟩),
  (377, ⟨.type ty_dict, none, .dict ⟨[⟨(hS P ⟨⟨[91, 93]⟩⟩), .str ⟨⟨[91, 93]⟩⟩ (Nat.add (u 700) 690), .int (0) (Nat.add (u 740) 690)⟩, ⟨(hS P ⟨⟨[46]⟩⟩), .str ⟨⟨[46]⟩⟩ (Nat.add (u 701) 690), .int (1) (Nat.add (u 756) 690)⟩, ⟨(hS P ⟨⟨[123, 125]⟩⟩), .str ⟨⟨[123, 125]⟩⟩ (Nat.add (u 702) 690), .int (2) (Nat.add (u 772) 690)⟩, ⟨(hS P ⟨⟨[45]⟩⟩), .str ⟨⟨[45]⟩⟩ (Nat.add (u 703) 690), .int (3) (Nat.add (u 788) 690)⟩, ⟨(hS P ⟨⟨[43]⟩⟩), .str ⟨⟨[43]⟩⟩ (Nat.add (u 704) 690), .int (4) (Nat.add (u 804) 690)⟩, ⟨(hS P ⟨⟨[42]⟩⟩), .str ⟨⟨[42]⟩⟩ (Nat.add (u 705) 690), .int (5) (Nat.add (u 820) 690)⟩, ⟨(hS P ⟨⟨[47]⟩⟩), .str ⟨⟨[47]⟩⟩ (Nat.add (u 706) 690), .int (6) (Nat.add (u 836) 690)⟩, ⟨(hS P ⟨⟨[44]⟩⟩), .str ⟨⟨[44]⟩⟩ (Nat.add (u 707) 690), .int (7) (Nat.add (u 852) 690)⟩, ⟨(hS P ⟨⟨[124]⟩⟩), .str ⟨⟨[124]⟩⟩ (Nat.add (u 708) 690), .int (8) (Nat.add (u 868) 690)⟩, ⟨(hS P ⟨⟨[59]⟩⟩), .str ⟨⟨[59]⟩⟩ (Nat.add (u 709) 690), .int (9) (Nat.add (u 884) 690)⟩, ⟨(hS P ⟨⟨[45, 62]⟩⟩), .str ⟨⟨[45, 62]⟩⟩ (Nat.add (u 710) 690), .int (10) (Nat.add (u 900) 690)⟩, ⟨(hS P ⟨⟨[92, 43]⟩⟩), .str ⟨⟨[92, 43]⟩⟩ (Nat.add (u 711) 690), .int (11) (Nat.add (u 916) 690)⟩, ⟨(hS P ⟨⟨[58, 45]⟩⟩), .str ⟨⟨[58, 45]⟩⟩ (Nat.add (u 712) 690), .int (12) (Nat.add (u 932) 690)⟩, ⟨(hS P ⟨⟨[63, 45]⟩⟩), .str ⟨⟨[63, 45]⟩⟩ (Nat.add (u 713) 690), .int (13) (Nat.add (u 948) 690)⟩, ⟨(hS P ⟨⟨[45, 45, 62]⟩⟩), .str ⟨⟨[45, 45, 62]⟩⟩ (Nat.add (u 714) 690), .int (14) (Nat.add (u 964) 690)⟩, ⟨(hS P ⟨⟨[33]⟩⟩), .str ⟨⟨[33]⟩⟩ (Nat.add (u 715) 690), .int (15) (Nat.add (u 980) 690)⟩, ⟨(hS P ⟨⟨[116, 114, 117, 101]⟩⟩), .str ⟨⟨[116, 114, 117, 101]⟩⟩ (Nat.add (u 716) 690), .int (16) (Nat.add (u 996) 690)⟩, ⟨(hS P ⟨⟨[102, 97, 105, 108]⟩⟩), .str ⟨⟨[102, 97, 105, 108]⟩⟩ (Nat.add (u 717) 690), .int (17) (Nat.add (u 1012) 690)⟩, ⟨(hS P ⟨⟨[102, 97, 108, 115, 101]⟩⟩), .str ⟨⟨[102, 97, 108, 115, 101]⟩⟩ (Nat.add (u 718) 690), .int (18) (Nat.add (u 1028) 690)⟩, ⟨(hS P ⟨⟨[99, 97, 108, 108]⟩⟩), .str ⟨⟨[99, 97, 108, 108]⟩⟩ (Nat.add (u 719) 690), .int (19) (Nat.add (u 1044) 690)⟩, ⟨(hS P ⟨⟨[61]⟩⟩), .str ⟨⟨[61]⟩⟩ (Nat.add (u 720) 690), .int (20) (Nat.add (u 1060) 690)⟩, ⟨(hS P ⟨⟨[94]⟩⟩), .str ⟨⟨[94]⟩⟩ (Nat.add (u 721) 690), .int (21) (Nat.add (u 1076) 690)⟩, ⟨(hS P ⟨⟨[101, 114, 114, 111, 114]⟩⟩), .str ⟨⟨[101, 114, 114, 111, 114]⟩⟩ (Nat.add (u 722) 690), .int (22) (Nat.add (u 1092) 690)⟩, ⟨(hS P ⟨⟨[]⟩⟩), .str ⟨⟨[]⟩⟩ (Nat.add (u 723) 690), .int (23) (Nat.add (u 1108) 690)⟩, ⟨(hS P ⟨⟨[101, 110, 100, 95, 111, 102, 95, 102, 105, 108, 101]⟩⟩), .str ⟨⟨[101, 110, 100, 95, 111, 102, 95, 102, 105, 108, 101]⟩⟩ (Nat.add (u 724) 690), .int (24) (Nat.add (u 1124) 690)⟩, ⟨(hS P ⟨⟨[115, 121, 115, 116, 101, 109]⟩⟩), .str ⟨⟨[115, 121, 115, 116, 101, 109]⟩⟩ (Nat.add (u 725) 690), .int (25) (Nat.add (u 1140) 690)⟩, ⟨(hS P ⟨⟨[36, 86, 65, 82]⟩⟩), .str ⟨⟨[36, 86, 65, 82]⟩⟩ (Nat.add (u 726) 690), .int (26) (Nat.add (u 1156) 690)⟩, ⟨(hS P ⟨⟨[99, 97, 116, 99, 104]⟩⟩), .str ⟨⟨[99, 97, 116, 99, 104]⟩⟩ (Nat.add (u 727) 690), .int (27) (Nat.add (u 1172) 690)⟩, ⟨(hS P ⟨⟨[116, 104, 114, 111, 119]⟩⟩), .str ⟨⟨[116, 104, 114, 111, 119]⟩⟩ (Nat.add (u 728) 690), .int (28) (Nat.add (u 1188) 690)⟩, ⟨(hS P ⟨⟨[47, 47]⟩⟩), .str ⟨⟨[47, 47]⟩⟩ (Nat.add (u 2417) 690), .int (29) (Nat.add (u 2437) 690)⟩, ⟨(hS P ⟨⟨[114, 101, 109]⟩⟩), .str ⟨⟨[114, 101, 109]⟩⟩ (Nat.add (u 2581) 690), .int (30) (Nat.add (u 2601) 690)⟩, ⟨(hS P ⟨⟨[100, 105, 118]⟩⟩), .str ⟨⟨[100, 105, 118]⟩⟩ (Nat.add (u 2750) 690), .int (31) (Nat.add (u 2770) 690)⟩]⟩ 32, ⟨[]⟩⟩),
  (378, ⟨.type ty_list, none, .seq ⟨[.ref 452, .ref 456, .ref 460, .ref 464, .ref 468, .ref 472, .ref 476, .ref 480, .ref 484, .ref 488, .ref 492, .ref 496, .ref 500, .ref 504, .ref 508, .ref 512, .ref 516, .ref 520, .ref 524, .ref 528, .ref 532, .ref 536, .ref 540, .ref 544, .ref 548, .ref 552, .ref 556, .ref 560, .ref 564, .ref 568, .ref 572, .ref 576, .ref k0, .ref k1, .ref k2]⟩ 35, ⟨[]⟩⟩),
  (379, ⟨.type ty_dict, none, .dict ⟨[⟨(-3550055125485641917), .ref 452, .int (0) (Nat.add (u 1285) 690)⟩, ⟨(5973048414285056246), .ref 456, .int (1) (Nat.add (u 1320) 690)⟩, ⟨(-5060604854200353011), .ref 460, .int (2) (Nat.add (u 1355) 690)⟩, ⟨(-1767087503132776002), .ref 464, .int (3) (Nat.add (u 1390) 690)⟩, ⟨(-5470608895905243200), .ref 468, .int (4) (Nat.add (u 1425) 690)⟩, ⟨(5646003302091366357), .ref 472, .int (5) (Nat.add (u 1460) 690)⟩, ⟨(-7907666742645488893), .ref 476, .int (6) (Nat.add (u 1495) 690)⟩, ⟨(8102019484323817030), .ref 480, .int (7) (Nat.add (u 1530) 690)⟩, ⟨(342925231413779802), .ref 484, .int (8) (Nat.add (u 1565) 690)⟩, ⟨(6794810172467074373), .ref 488, .int (9) (Nat.add (u 1600) 690)⟩, ⟨(-2421177727520155780), .ref 492, .int (10) (Nat.add (u 1635) 690)⟩, ⟨(7428970924444232272), .ref 496, .int (11) (Nat.add (u 1670) 690)⟩, ⟨(8756109708711196808), .ref 500, .int (12) (Nat.add (u 1705) 690)⟩, ⟨(3863035679738500442), .ref 504, .int (13) (Nat.add (u 1740) 690)⟩, ⟨(-9131917124991031250), .ref 508, .int (14) (Nat.add (u 1775) 690)⟩, ⟨(-3877100237679331806), .ref 512, .int (15) (Nat.add (u 1810) 690)⟩, ⟨(-7724255798197742335), .ref 516, .int (16) (Nat.add (u 1845) 690)⟩, ⟨(6324860253956366660), .ref 520, .int (17) (Nat.add (u 1880) 690)⟩, ⟨(-1543660154289433799), .ref 524, .int (18) (Nat.add (u 1915) 690)⟩, ⟨(6691921770545652194), .ref 528, .int (19) (Nat.add (u 1950) 690)⟩, ⟨(-3708699342455767950), .ref 532, .int (20) (Nat.add (u 1985) 690)⟩, ⟨(6141449309508620102), .ref 536, .int (21) (Nat.add (u 2020) 690)⟩, ⟨(8102748845752742537), .ref 540, .int (22) (Nat.add (u 2055) 690)⟩, ⟨(838371238831033547), .ref 544, .int (23) (Nat.add (u 2090) 690)⟩, ⟨(4908954148192786279), .ref 548, .int (24) (Nat.add (u 2125) 690)⟩, ⟨(15880119220089913), .ref 552, .int (25) (Nat.add (u 2160) 690)⟩, ⟨(6523520875322088338), .ref 556, .int (26) (Nat.add (u 2195) 690)⟩, ⟨(-2767910536634976156), .ref 560, .int (27) (Nat.add (u 2230) 690)⟩, ⟨(3739730219467022269), .ref 564, .int (28) (Nat.add (u 2265) 690)⟩, ⟨(-1153343809505674097), .ref 568, .int (29) (Nat.add (u 2300) 690)⟩, ⟨(5354296946596324328), .ref 572, .int (30) (Nat.add (u 2335) 690)⟩, ⟨(-6584806371011228863), .ref 576, .int (31) (Nat.add (u 2370) 690)⟩, ⟨(3760147277817078263), .ref k0, .int (32) (Nat.add (u 2456) 690)⟩, ⟨(-3504230329104630727), .ref k1, .int (33) (Nat.add (u 2620) 690)⟩, ⟨(-5941288175844876420), .ref k2, .int (34) (Nat.add (u 2789) 690)⟩]⟩ 35, ⟨[]⟩⟩)]
noncomputable def nm4 (P : Params) (u : Nat → Nat) (k0 k1 k2 k3 : Nat) : List (Nat × Obj) := [
  (376, ⟨.type ty_list, none, .seq ⟨[.str ⟨⟨[91, 93]⟩⟩ (Nat.add (u 700) 690), .str ⟨⟨[46]⟩⟩ (Nat.add (u 701) 690), .str ⟨⟨[123, 125]⟩⟩ (Nat.add (u 702) 690), .str ⟨⟨[45]⟩⟩ (Nat.add (u 703) 690), .str ⟨⟨[43]⟩⟩ (Nat.add (u 704) 690), .str ⟨⟨[42]⟩⟩ (Nat.add (u 705) 690), .str ⟨⟨[47]⟩⟩ (Nat.add (u 706) 690), .str ⟨⟨[44]⟩⟩ (Nat.add (u 707) 690), .str ⟨⟨[124]⟩⟩ (Nat.add (u 708) 690), .str ⟨⟨[59]⟩⟩ (Nat.add (u 709) 690), .str ⟨⟨[45, 62]⟩⟩ (Nat.add (u 710) 690), .str ⟨⟨[92, 43]⟩⟩ (Nat.add (u 711) 690), .str ⟨⟨[58, 45]⟩⟩ (Nat.add (u 712) 690), .str ⟨⟨[63, 45]⟩⟩ (Nat.add (u 713) 690), .str ⟨⟨[45, 45, 62]⟩⟩ (Nat.add (u 714) 690), .str ⟨⟨[33]⟩⟩ (Nat.add (u 715) 690), .str ⟨⟨[116, 114, 117, 101]⟩⟩ (Nat.add (u 716) 690), .str ⟨⟨[102, 97, 105, 108]⟩⟩ (Nat.add (u 717) 690), .str ⟨⟨[102, 97, 108, 115, 101]⟩⟩ (Nat.add (u 718) 690), .str ⟨⟨[99, 97, 108, 108]⟩⟩ (Nat.add (u 719) 690), .str ⟨⟨[61]⟩⟩ (Nat.add (u 720) 690), .str ⟨⟨[94]⟩⟩ (Nat.add (u 721) 690), .str ⟨⟨[101, 114, 114, 111, 114]⟩⟩ (Nat.add (u 722) 690), .str ⟨⟨[]⟩⟩ (Nat.add (u 723) 690), .str ⟨⟨[101, 110, 100, 95, 111, 102, 95, 102, 105, 108, 101]⟩⟩ (Nat.add (u 724) 690), .str ⟨⟨[115, 121, 115, 116, 101, 109]⟩⟩ (Nat.add (u 725) 690), .str ⟨⟨[36, 86, 65, 82]⟩⟩ (Nat.add (u 726) 690), .str ⟨⟨[99, 97, 116, 99, 104]⟩⟩ (Nat.add (u 727) 690), .str ⟨⟨[116, 104, 114, 111, 119]⟩⟩ (Nat.add (u 728) 690), .str ⟨⟨[47, 47]⟩⟩ (Nat.add (u 2417) 690), .str ⟨⟨[114, 101, 109]⟩⟩ (Nat.add (u 2581) 690), .str ⟨⟨[100, 105, 118]⟩⟩ (Nat.add (u 2750) 690), .str ⟨⟨[109, 111, 100]⟩⟩ (Nat.add (u 2911) 690)]⟩ 33, ⟨[]⟩⟩),
  (377, ⟨.type ty_dict, none, .dict ⟨[⟨(hS P ⟨⟨[91, 93]⟩⟩), .str ⟨⟨[91, 93]⟩⟩ (Nat.add (u 700) 690), .int (0) (Nat.add (u 740) 690)⟩, ⟨(hS P ⟨⟨[46]⟩⟩), .str ⟨⟨[46]⟩⟩ (Nat.add (u 701) 690), .int (1) (Nat.add (u 756) 690)⟩, ⟨(hS P ⟨⟨[123, 125]⟩⟩), .str ⟨⟨[123, 125]⟩⟩ (Nat.add (u 702) 690), .int (2) (Nat.add (u 772) 690)⟩, ⟨(hS P ⟨⟨[45]⟩⟩), .str ⟨⟨[45]⟩⟩ (Nat.add (u 703) 690), .int (3) (Nat.add (u 788) 690)⟩, ⟨(hS P ⟨⟨[43]⟩⟩), .str ⟨⟨[43]⟩⟩ (Nat.add (u 704) 690), .int (4) (Nat.add (u 804) 690)⟩, ⟨(hS P ⟨⟨[42]⟩⟩), .str ⟨⟨[42]⟩⟩ (Nat.add (u 705) 690), .int (5) (Nat.add (u 820) 690)⟩, ⟨(hS P ⟨⟨[47]⟩⟩), .str ⟨⟨[47]⟩⟩ (Nat.add (u 706) 690), .int (6) (Nat.add (u 836) 690)⟩, ⟨(hS P ⟨⟨[44]⟩⟩), .str ⟨⟨[44]⟩⟩ (Nat.add (u 707) 690), .int (7) (Nat.add (u 852) 690)⟩, ⟨(hS P ⟨⟨[124]⟩⟩), .str ⟨⟨[124]⟩⟩ (Nat.add (u 708) 690), .int (8) (Nat.add (u 868) 690)⟩, ⟨(hS P ⟨⟨[59]⟩⟩), .str ⟨⟨[59]⟩⟩ (Nat.add (u 709) 690), .int (9) (Nat.add (u 884) 690)⟩, ⟨(hS P ⟨⟨[45, 62]⟩⟩), .str ⟨⟨[45, 62]⟩⟩ (Nat.add (u 710) 690), .int (10) (Nat.add (u 900) 690)⟩, ⟨(hS P ⟨⟨[92, 43]⟩⟩), .str ⟨⟨[92, 43]⟩⟩ (Nat.add (u 711) 690), .int (11) (Nat.add (u 916) 690)⟩, ⟨(hS P ⟨⟨[58, 45]⟩⟩), .str ⟨⟨[58, 45]⟩⟩ (Nat.add (u 712) 690), .int (12) (Nat.add (u 932) 690)⟩, ⟨(hS P ⟨⟨[63, 45]⟩⟩), .str ⟨⟨[63, 45]⟩⟩ (Nat.add (u 713) 690), .int (13) (Nat.add (u 948) 690)⟩, ⟨(hS P ⟨⟨[45, 45, 62]⟩⟩), .str ⟨⟨[45, 45, 62]⟩⟩ (Nat.add (u 714) 690), .int (14) (Nat.add (u 964) 690)⟩, ⟨(hS P ⟨⟨[33]⟩⟩), .str ⟨⟨[33]⟩⟩ (Nat.add (u 715) 690), .int (15) (Nat.add (u 980) 690)⟩, ⟨(hS P ⟨⟨[116, 114, 117, 101]⟩⟩), .str ⟨⟨[116, 114, 117, 101]⟩⟩ (Nat.add (u 716) 690), .int (16) (Nat.add (u 996) 690)⟩, ⟨(hS P ⟨⟨[102, 97, 105, 108]⟩⟩), .str ⟨⟨[102, 97, 105, 108]⟩⟩ (Nat.add (u 717) 690), .int (17) (Nat.add (u 1012) 690)⟩, ⟨(hS P ⟨⟨[102, 97, 108, 115, 101]⟩⟩), .str ⟨⟨[102, 97, 108, 115, 101]⟩⟩ (Nat.add (u 718) 690), .int (18) (Nat.add (u 1028) 690)⟩, ⟨(hS P ⟨⟨[99, 97, 108, 108]⟩⟩), .str ⟨⟨[99, 97, 108, 108]⟩⟩ (Nat.add (u 719) 690), .int (19) (Nat.add (u 1044) 690)⟩, ⟨(hS P ⟨⟨[61]⟩⟩), .str ⟨⟨[61]⟩⟩ (Nat.add (u 720) 690), .int (20) (Nat.add (u 1060) 690)⟩, ⟨(hS P ⟨⟨[94]⟩⟩), .str ⟨⟨[94]⟩⟩ (Nat.add (u 721) 690), .int (21) (Nat.add (u 1076) 690)⟩, ⟨(hS P ⟨⟨[101, 114, 114, 111, 114]⟩⟩), .str ⟨⟨[101, 114, 114, 111, 114]⟩⟩ (Nat.add (u 722) 690), .int (22) (Nat.add (u 1092) 690)⟩, ⟨(hS P ⟨⟨[]⟩⟩), .str ⟨⟨[]⟩⟩ (Nat.add (u 723) 690), .int (23) (Nat.add (u 1108) 690)⟩, ⟨(hS P ⟨⟨[101, 110, 100, 95, 111, 102, 95, 102, 105, 108, 101]⟩⟩), .str ⟨⟨[101, 110, 100, 95, 111, 102, 95, 102, 105, 108, 101]⟩⟩ (Nat.add (u 724) 690), .int (24) (Nat.add (u 1124) 690)⟩, ⟨(hS P ⟨⟨[115, 121, 115, 116, 101, 109]⟩⟩), .str ⟨⟨[115, 121, 115, 116, 101, 109]⟩⟩ (Nat.add (u 725) 690), .int (25) (Nat.add (u 1140) 690)⟩, ⟨(hS P ⟨⟨[36, 86, 65, 82]⟩⟩), .str ⟨⟨[36, 86, 65, 82]⟩⟩ (Nat.add (u 726) 690), .int (26) (Nat.add (u 1156) 690)⟩, ⟨(hS P ⟨⟨[99, 97, 116, 99, 104]⟩⟩), .str ⟨⟨[99, 97, 116, 99, 104]⟩⟩ (Nat.add (u 727) 690), .int (27) (Nat.add (u 1172) 690)⟩, ⟨(hS P ⟨⟨[116, 104, 114, 111, 119]⟩⟩), .str ⟨⟨[116, 104, 114, 111, 119]⟩⟩ (Nat.add (u 728) 690), .int (28) (Nat.add (u 1188) 690)⟩, ⟨(hS P ⟨⟨[47, 47]⟩⟩), .str ⟨⟨[47, 47]⟩⟩ (Nat.add (u 2417) 690), .int (29) (Nat.add (u 2437) 690)⟩, ⟨(hS P ⟨⟨[114, 101, 109]⟩⟩), .str ⟨⟨[114, 101, 109]⟩⟩ (Nat.add (u 2581) 690), .int (30) (Nat.add (u 2601) 690)⟩, ⟨(hS P ⟨⟨[100, 105, 118]⟩⟩), .str ⟨⟨[100, 105, 118]⟩⟩ (Nat.add (u 2750) 690), .int (31) (Nat.add (u 2770) 690)⟩, ⟨(hS P ⟨⟨[109, 111, 100]⟩⟩), .str ⟨⟨[109, 111, 100]⟩⟩ (Nat.add (u 2911) 690), .int (32) (Nat.add (u 2931) 690)⟩]⟩ 33, ⟨[]⟩⟩),
  (378, ⟨.type ty_list, none, .seq ⟨[.ref 452, .ref 456, .ref 460, .ref 464, .ref 468, .ref 472, .ref 476, .ref 480, .ref 484, .ref 488, .ref 492, .ref 496, .ref 500, .ref 504, .ref 508, .ref 512, .ref 516, .ref 520, .ref 524, .ref 528, .ref 532, .ref 536, .ref 540, .ref 544, .ref 548, .ref 552, .ref 556, .ref 560, .ref 564, .ref 568, .ref 572, .ref 576, .ref k0, .ref k1, .ref k2, .ref k3]⟩ 36, ⟨[]⟩⟩),
  (379, ⟨.type ty_dict, none, .dict ⟨[⟨(-3550055125485641917), .ref 452, .int (0) (Nat.add (u 1285) 690)⟩, ⟨(5973048414285056246), .ref 456, .int (1) (Nat.add (u 1320) 690)⟩, ⟨(-5060604854200353011), .ref 460, .int (2) (Nat.add (u 1355) 690)⟩, ⟨(-1767087503132776002), .ref 464, .int (3) (Nat.add (u 1390) 690)⟩, ⟨(-5470608895905243200), .ref 468, .int (4) (Nat.add (u 1425) 690)⟩, ⟨(5646003302091366357), .ref 472, .int (5) (Nat.add (u 1460) 690)⟩, ⟨(-7907666742645488893), .ref 476, .int (6) (Nat.add (u 1495) 690)⟩, ⟨(8102019484323817030), .ref 480, .int (7) (Nat.add (u 1530) 690)⟩, ⟨(342925231413779802), .ref 484, .int (8) (Nat.add (u 1565) 690)⟩, ⟨(6794810172467074373), .ref 488, .int (9) (Nat.add (u 1600) 690)⟩, ⟨(-2421177727520155780), .ref 492, .int (10) (Nat.add (u 1635) 690)⟩, ⟨(7428970924444232272), .ref 496, .int (11) (Nat.add (u 1670) 690)⟩, ⟨(8756109708711196808), .ref 500, .int (12) (Nat.add (u 1705) 690)⟩, ⟨(3863035679738500442), .ref 504, .int (13) (Nat.add (u 1740) 690)⟩, ⟨(-9131917124991031250), .ref 508, .int (14) (Nat.add (u 1775) 690)⟩, ⟨(-3877100237679331806), .ref 512, .int (15) (Nat.add (u 1810) 690)⟩, ⟨(-7724255798197742335), .ref 516, .int (16) (Nat.add (u 1845) 690)⟩, ⟨(6324860253956366660), .ref 520, .int (17) (Nat.add (u 1880) 690)⟩, ⟨(-1543660154289433799), .ref 524, .int (18) (Nat.add (u 1915) 690)⟩, ⟨(6691921770545652194), .ref 528, .int (19) (Nat.add (u 1950) 690)⟩, ⟨(-3708699342455767950), .ref 532, .int (20) (Nat.add (u 1985) 690)⟩, ⟨(6141449309508620102), .ref 536, .int (21) (Nat.add (u 2020) 690)⟩, ⟨(8102748845752742537), .ref 540, .int (22) (Nat.add (u 2055) 690)⟩, ⟨(838371238831033547), .ref 544, .int (23) (Nat.add (u 2090) 690)⟩, ⟨(4908954148192786279), .ref 548, .int (24) (Nat.add (u 2125) 690)⟩, ⟨(15880119220089913), .ref 552, .int (25) (Nat.add (u 2160) 690)⟩, ⟨(6523520875322088338), .ref 556, .int (26) (Nat.add (u 2195) 690)⟩, ⟨(-2767910536634976156), .ref 560, .int (27) (Nat.add (u 2230) 690)⟩, ⟨(3739730219467022269), .ref 564, .int (28) (Nat.add (u 2265) 690)⟩, ⟨(-1153343809505674097), .ref 568, .int (29) (Nat.add (u 2300) 690)⟩, ⟨(5354296946596324328), .ref 572, .int (30) (Nat.add (u 2335) 690)⟩, ⟨(-6584806371011228863), .ref 576, .int (31) (Nat.add (u 2370) 690)⟩, ⟨(3760147277817078263), .ref k0, .int (32) (Nat.add (u 2456) 690)⟩, ⟨(-3504230329104630727), .ref k1, .int (33) (Nat.add (u 2620) 690)⟩, ⟨(-5941288175844876420), .ref k2, .int (34) (Nat.add (u 2789) 690)⟩, ⟨(-3979988639600753985), .ref k3, .int (35) (Nat.add (u 2950) 690)⟩]⟩ 36, ⟨[]⟩⟩)]
noncomputable def nm5 (P : Params) (u : Nat → Nat) (k0 k1 k2 k3 k4 : Nat) : List (Nat × Obj) := [
  (376, ⟨.type ty_list, none, .seq ⟨[.str ⟨⟨[91, 93]⟩⟩ (Nat.add (u 700) 690), .str ⟨⟨[46]⟩⟩ (Nat.add (u 701) 690), .str ⟨⟨[123, 125]⟩⟩ (Nat.add (u 702) 690), .str ⟨⟨[45]⟩⟩ (Nat.add (u 703) 690), .str ⟨⟨[43]⟩⟩ (Nat.add (u 704) 690), .str ⟨⟨[42]⟩⟩ (Nat.add (u 705) 690), .str ⟨⟨[47]⟩⟩ (Nat.add (u 706) 690), .str ⟨⟨[44]⟩⟩ (Nat.add (u 707) 690), .str ⟨⟨[124]⟩⟩ (Nat.add (u 708) 690), .str ⟨⟨[59]⟩⟩ (Nat.add (u 709) 690), .str ⟨⟨[45, 62]⟩⟩ (Nat.add (u 710) 690), .str ⟨⟨[92, 43]⟩⟩ (Nat.add (u 711) 690), .str ⟨⟨[58, 45]⟩⟩ (Nat.add (u 712) 690), .str ⟨⟨[63, 45]⟩⟩ (Nat.add (u 713) 690), .str ⟨⟨[45, 45, 62]⟩⟩ (Nat.add (u 714) 690), .str ⟨⟨[33]⟩⟩ (Nat.add (u 715) 690), .str ⟨⟨[116, 114, 117, 101]⟩⟩ (Nat.add (u 716) 690), .str ⟨⟨[102, 97, 105, 108]⟩⟩ (Nat.add (u 717) 690), .str ⟨⟨[102, 97, 108, 115, 101]⟩⟩ (Nat.add (u 718) 690), .str ⟨⟨[99, 97, 108, 108]⟩⟩ (Nat.add (u 719) 690), .str ⟨⟨[61]⟩⟩ (Nat.add (u 720) 690), .str ⟨⟨[94]⟩⟩ (Nat.add (u 721) 690), .str ⟨⟨[101, 114, 114, 111, 114]⟩⟩ (Nat.add (u 722) 690), .str ⟨⟨[]⟩⟩ (Nat.add (u 723) 690), .str ⟨⟨[101, 110, 100, 95, 111, 102, 95, 102, 105, 108, 101]⟩⟩ (Nat.add (u 724) 690), .str ⟨⟨[115, 121, 115, 116, 101, 109]⟩⟩ (Nat.add (u 725) 690), .str ⟨⟨[36, 86, 65, 82]⟩⟩ (Nat.add (u 726) 690), .str ⟨⟨[99, 97, 116, 99, 104]⟩⟩ (Nat.add (u 727) 690), .str ⟨⟨[116, 104, 114, 111, 119]⟩⟩ (Nat.add (u 728) 690), .str ⟨⟨[47, 47]⟩⟩ (Nat.add (u 2417) 690), .str ⟨⟨[114, 101, 109]⟩⟩ (Nat.add (u 2581) 690), .str ⟨⟨[100, 105, 118]⟩⟩ (Nat.add (u 2750) 690), .str ⟨⟨[109, 111, 100]⟩⟩ (Nat.add (u 2911) 690), .str ⟨⟨[103, 99, 100]⟩⟩ (Nat.add (u 3535) 690)]⟩ 34, ⟨[]⟩⟩),
  (377, ⟨.type ty_dict, none, .dict ⟨[⟨(hS P ⟨⟨[91, 93]⟩⟩), .str ⟨⟨[91, 93]⟩⟩ (Nat.add (u 700) 690), .int (0) (Nat.add (u 740) 690)⟩, ⟨(hS P ⟨⟨[46]⟩⟩), .str ⟨⟨[46]⟩⟩ (Nat.add (u 701) 690), .int (1) (Nat.add (u 756) 690)⟩, ⟨(hS P ⟨⟨[123, 125]⟩⟩), .str ⟨⟨[123, 125]⟩⟩ (Nat.add (u 702) 690), .int (2) (Nat.add (u 772) 690)⟩, ⟨(hS P ⟨⟨[45]⟩⟩), .str ⟨⟨[45]⟩⟩ (Nat.add (u 703) 690), .int (3) (Nat.add (u 788) 690)⟩, ⟨(hS P ⟨⟨[43]⟩⟩), .str ⟨⟨[43]⟩⟩ (Nat.add (u 704) 690), .int (4) (Nat.add (u 804) 690)⟩, ⟨(hS P ⟨⟨[42]⟩⟩), .str ⟨⟨[42]⟩⟩ (Nat.add (u 705) 690), .int (5) (Nat.add (u 820) 690)⟩, ⟨(hS P ⟨⟨[47]⟩⟩), .str ⟨⟨[47]⟩⟩ (Nat.add (u 706) 690), .int (6) (Nat.add (u 836) 690)⟩, ⟨(hS P ⟨⟨[44]⟩⟩), .str ⟨⟨[44]⟩⟩ (Nat.add (u 707) 690), .int (7) (Nat.add (u 852) 690)⟩, ⟨(hS P ⟨⟨[124]⟩⟩), .str ⟨⟨[124]⟩⟩ (Nat.add (u 708) 690), .int (8) (Nat.add (u 868) 690)⟩, ⟨(hS P ⟨⟨[59]⟩⟩), .str ⟨⟨[59]⟩⟩ (Nat.add (u 709) 690), .int (9) (Nat.add (u 884) 690)⟩, ⟨(hS P ⟨⟨[45, 62]⟩⟩), .str ⟨⟨[45, 62]⟩⟩ (Nat.add (u 710) 690), .int (10) (Nat.add (u 900) 690)⟩, ⟨(hS P ⟨⟨[92, 43]⟩⟩), .str ⟨⟨[92, 43]⟩⟩ (Nat.add (u 711) 690), .int (11) (Nat.add (u 916) 690)⟩, ⟨(hS P ⟨⟨[58, 45]⟩⟩), .str ⟨⟨[58, 45]⟩⟩ (Nat.add (u 712) 690), .int (12) (Nat.add (u 932) 690)⟩, ⟨(hS P ⟨⟨[63, 45]⟩⟩), .str ⟨⟨[63, 45]⟩⟩ (Nat.add (u 713) 690), .int (13) (Nat.add (u 948) 690)⟩, ⟨(hS P ⟨⟨[45, 45, 62]⟩⟩), .str ⟨⟨[45, 45, 62]⟩⟩ (Nat.add (u 714) 690), .int (14) (Nat.add (u 964) 690)⟩, ⟨(hS P ⟨⟨[33]⟩⟩), .str ⟨⟨[33]⟩⟩ (Nat.add (u 715) 690), .int (15) (Nat.add (u 980) 690)⟩, ⟨(hS P ⟨⟨[116, 114, 117, 101]⟩⟩), .str ⟨⟨[116, 114, 117, 101]⟩⟩ (Nat.add (u 716) 690), .int (16) (Nat.add (u 996) 690)⟩, ⟨(hS P ⟨⟨[102, 97, 105, 108]⟩⟩), .str ⟨⟨[102, 97, 105, 108]⟩⟩ (Nat.add (u 717) 690), .int (17) (Nat.add (u 1012) 690)⟩, ⟨(hS P ⟨⟨[102, 97, 108, 115, 101]⟩⟩), .str ⟨⟨[102, 97, 108, 115, 101]⟩⟩ (Nat.add (u 718) 690), .int (18) (Nat.add (u 1028) 690)⟩, ⟨(hS P ⟨⟨[99, 97, 108, 108]⟩⟩), .str ⟨⟨[99, 97, 108, 108]⟩⟩ (Nat.add (u 719) 690), .int (19) (Nat.add (u 1044) 690)⟩, ⟨(hS P ⟨⟨[61]⟩⟩), .str ⟨⟨[61]⟩⟩ (Nat.add (u 720) 690), .int (20) (Nat.add (u 1060) 690)⟩, ⟨(hS P ⟨⟨[94]⟩⟩), .str ⟨⟨[94]⟩⟩ (Nat.add (u 721) 690), .int (21) (Nat.add (u 1076) 690)⟩, ⟨(hS P ⟨⟨[101, 114, 114, 111, 114]⟩⟩), .str ⟨⟨[101, 114, 114, 111, 114]⟩⟩ (Nat.add (u 722) 690), .int (22) (Nat.add (u 1092) 690)⟩, ⟨(hS P ⟨⟨[]⟩⟩), .str ⟨⟨[]⟩⟩ (Nat.add (u 723) 690), .int (23) (Nat.add (u 1108) 690)⟩, ⟨(hS P ⟨⟨[101, 110, 100, 95, 111, 102, 95, 102, 105, 108, 101]⟩⟩), .str ⟨⟨[101, 110, 100, 95, 111, 102, 95, 102, 105, 108, 101]⟩⟩ (Nat.add (u 724) 690), .int (24) (Nat.add (u 1124) 690)⟩, ⟨(hS P ⟨⟨[115, 121, 115, 116, 101, 109]⟩⟩), .str ⟨⟨[115, 121, 115, 116, 101, 109]⟩⟩ (Nat.add (u 725) 690), .int (25) (Nat.add (u 1140) 690)⟩, ⟨(hS P ⟨⟨[36, 86, 65, 82]⟩⟩), .str ⟨⟨[36, 86, 65, 82]⟩⟩ (Nat.add (u 726) 690), .int (26) (Nat.add (u 1156) 690)⟩, ⟨(hS P ⟨⟨[99, 97, 116, 99, 104]⟩⟩), .str ⟨⟨[99, 97, 116, 99, 104]⟩⟩ (Nat.add (u 727) 690), .int (27) (Nat.add (u 1172) 690)⟩, ⟨(hS P ⟨⟨[116, 104, 114, 111, 119]⟩⟩), .str ⟨⟨[116, 104, 114, 111, 119]⟩⟩ (Nat.add (u 728) 690), .int (28) (Nat.add (u 1188) 690)⟩, ⟨(hS P ⟨⟨[47, 47]⟩⟩), .str ⟨⟨[47, 47]⟩⟩ (Nat.add (u 2417) 690), .int (29) (Nat.add (u 2437) 690)⟩, ⟨(hS P ⟨⟨[114, 101, 109]⟩⟩), .str ⟨⟨[114, 101, 109]⟩⟩ (Nat.add (u 2581) 690), .int (30) (Nat.add (u 2601) 690)⟩, ⟨(hS P ⟨⟨[100, 105, 118]⟩⟩), .str ⟨⟨[100, 105, 118]⟩⟩ (Nat.add (u 2750) 690), .int (31) (Nat.add (u 2770) 690)⟩, ⟨(hS P ⟨⟨[109, 111, 100]⟩⟩), .str ⟨⟨[109, 111, 100]⟩⟩ (Nat.add (u 2911) 690), .int (32) (Nat.add (u 2931) 690)⟩, ⟨(hS P ⟨⟨[103, 99, 100]⟩⟩), .str ⟨⟨[103, 99, 100]⟩⟩ (Nat.add (u 3535) 690), .int (33) (Nat.add (u 3555) 690)⟩]⟩ 34, ⟨[]⟩⟩),
  (378, ⟨.type ty_list, none, .seq ⟨[.ref 452, .ref 456, .ref 460, .ref 464, .ref 468, .ref 472, .ref 476, .ref 480, .ref 484, .ref 488, .ref 492, .ref 496, .ref 500, .ref 504, .ref 508, .ref 512, .ref 516, .ref 520, .ref 524, .ref 528, .ref 532, .ref 536, .ref 540, .ref 544, .ref 548, .ref 552, .ref 556, .ref 560, .ref 564, .ref 568, .ref 572, .ref 576, .ref k0, .ref k1, .ref k2, .ref k3, .ref k4]⟩ 37, ⟨[]⟩⟩),
  (379, ⟨.type ty_dict, none, .dict ⟨[⟨(-3550055125485641917), .ref 452, .int (0) (Nat.add (u 1285) 690)⟩, ⟨(5973048414285056246), .ref 456, .int (1) (Nat.add (u 1320) 690)⟩, ⟨(-5060604854200353011), .ref 460, .int (2) (Nat.add (u 1355) 690)⟩, ⟨(-1767087503132776002), .ref 464, .int (3) (Nat.add (u 1390) 690)⟩, ⟨(-5470608895905243200), .ref 468, .int (4) (Nat.add (u 1425) 690)⟩, ⟨(5646003302091366357), .ref 472, .int (5) (Nat.add (u 1460) 690)⟩, ⟨(-7907666742645488893), .ref 476, .int (6) (Nat.add (u 1495) 690)⟩, ⟨(8102019484323817030), .ref 480, .int (7) (Nat.add (u 1530) 690)⟩, ⟨(342925231413779802), .ref 484, .int (8) (Nat.add (u 1565) 690)⟩, ⟨(6794810172467074373), .ref 488, .int (9) (Nat.add (u 1600) 690)⟩, ⟨(-2421177727520155780), .ref 492, .int (10) (Nat.add (u 1635) 690)⟩, ⟨(7428970924444232272), .ref 496, .int (11) (Nat.add (u 1670) 690)⟩, ⟨(8756109708711196808), .ref 500, .int (12) (Nat.add (u 1705) 690)⟩, ⟨(3863035679738500442), .ref 504, .int (13) (Nat.add (u 1740) 690)⟩, ⟨(-9131917124991031250), .ref 508, .int (14) (Nat.add (u 1775) 690)⟩, ⟨(-3877100237679331806), .ref 512, .int (15) (Nat.add (u 1810) 690)⟩, ⟨(-7724255798197742335), .ref 516, .int (16) (Nat.add (u 1845) 690)⟩, ⟨(6324860253956366660), .ref 520, .int (17) (Nat.add (u 1880) 690)⟩, ⟨(-1543660154289433799), .ref 524, .int (18) (Nat.add (u 1915) 690)⟩, ⟨(6691921770545652194), .ref 528, .int (19) (Nat.add (u 1950) 690)⟩, ⟨(-3708699342455767950), .ref 532, .int (20) (Nat.add (u 1985) 690)⟩, ⟨(6141449309508620102), .ref 536, .int (21) (Nat.add (u 2020) 690)⟩, ⟨(8102748845752742537), .ref 540, .int (22) (Nat.add (u 2055) 690)⟩, ⟨(838371238831033547), .ref 544, .int (23) (Nat.add (u 2090) 690)⟩, ⟨(4908954148192786279), .ref 548, .int (24) (Nat.add (u 2125) 690)⟩, ⟨(15880119220089913), .ref 552, .int (25) (Nat.add (u 2160) 690)⟩, ⟨(6523520875322088338), .ref 556, .int (26) (Nat.add (u 2195) 690)⟩, ⟨(-2767910536634976156), .ref 560, .int (27) (Nat.add (u 2230) 690)⟩, ⟨(3739730219467022269), .ref 564, .int (28) (Nat.add (u 2265) 690)⟩, ⟨(-1153343809505674097), .ref 568, .int (29) (Nat.add (u 2300) 690)⟩, ⟨(5354296946596324328), .ref 572, .int (30) (Nat.add (u 2335) 690)⟩, ⟨(-6584806371011228863), .ref 576, .int (31) (Nat.add (u 2370) 690)⟩, ⟨(3760147277817078263), .ref k0, .int (32) (Nat.add (u 2456) 690)⟩, ⟨(-3504230329104630727), .ref k1, .int (33) (Nat.add (u 2620) 690)⟩, ⟨(-5941288175844876420), .ref k2, .int (34) (Nat.add (u 2789) 690)⟩, ⟨(-3979988639600753985), .ref k3, .int (35) (Nat.add (u 2950) 690)⟩, ⟨(1471802629379265939), .ref k4, .int (36) (Nat.add (u 3574) 690)⟩]⟩ 37, ⟨[]⟩⟩)]
noncomputable def key1 (u : Nat → Nat) : Obj := ⟨.type ty_tuple, none, .seq ⟨[.int (29) (Nat.add (u 2437) 690), .int (2) (Nat.add (u 2423) 690)]⟩ 0, ⟨[]⟩⟩
noncomputable def key2 (u : Nat → Nat) : Obj := ⟨.type ty_tuple, none, .seq ⟨[.int (30) (Nat.add (u 2601) 690), .int (2) (Nat.add (u 2587) 690)]⟩ 0, ⟨[]⟩⟩
noncomputable def key3 (u : Nat → Nat) : Obj := ⟨.type ty_tuple, none, .seq ⟨[.int (31) (Nat.add (u 2770) 690), .int (2) (Nat.add (u 2756) 690)]⟩ 0, ⟨[]⟩⟩
noncomputable def key4 (u : Nat → Nat) : Obj := ⟨.type ty_tuple, none, .seq ⟨[.int (32) (Nat.add (u 2931) 690), .int (2) (Nat.add (u 2917) 690)]⟩ 0, ⟨[]⟩⟩
noncomputable def key5 (u : Nat → Nat) : Obj := ⟨.type ty_tuple, none, .seq ⟨[.int (33) (Nat.add (u 3555) 690), .int (2) (Nat.add (u 3541) 690)]⟩ 0, ⟨[]⟩⟩

/-- newer tokens -/
noncomputable def upd (c : Nat) (u x : Nat → Nat) : Nat → Nat := fun t => match Nat.ble c t with
  | true => x t
  | false => u t
noncomputable def updS (c : Nat) (u x : Nat → Nat) : Nat → Nat := upd c u fun k => x (Nat.succ k)
noncomputable def ads (rs : List (Nat × Nat)) : List Nat → Prop → Prop
  | [], X => X
  | j :: l, X => (ad rs j = ad rs j) ∧ ads rs l X
theorem ads_i {rs : List (Nat × Nat)} {X : Prop} (h : X) : ∀ l, ads rs l X
  | [] => h
  | _ :: l => ⟨rfl, ads_i h l⟩
noncomputable def fresh (c τs τ : Nat) : Nat → Nat := fun t => match Nat.beq t c with
  | true => τs
  | false => Nat.add τ (Nat.sub t (Nat.add c 1))
noncomputable def selfs : List (Nat × Obj) → Prop
  | [] => True
  | x :: l => (some x.2 = some x.2) ∧ selfs l
theorem selfs_all : ∀ l, selfs l
  | [] => trivial
  | _ :: l => ⟨rfl, selfs_all l⟩
noncomputable def FintO (F : Int → Nat → List (Nat × Nat) → List (Option Obj) → Prop) : End → Nat → List (Nat × Nat) → Nat → Nat → List (Option Obj) → Prop := fun e m rs _ _ os => match e with
  | .res r => match r with
    | .ok fl => match fl with
      | .ret v => match v with
        | .int x _ => F x m rs os
        | _ => False
      | _ => False
    | .error _ => False
  | .turn .. => False
theorem FintO_is {F : Int → Nat → List (Nat × Nat) → List (Option Obj) → Prop} {e m rs τ j os} (h : FintO F e m rs τ j os) : ∃ x t, e = .res (.ok (.ret (.int x t))) ∧ F x m rs os := by
  unfold FintO at h
  split at h
  · split at h
    · split at h
      · split at h
        · exact ⟨_, _, rfl, h⟩
        · cases h
      · cases h
    · cases h
  · cases h
noncomputable abbrev toldCode (sg : Str) (tk : Nat) (x : Int) (tx : Nat) (y : Int) (ty : Nat) : Code := .call (.ref 356) ⟨[.ref 374, .str sg tk, .int x tx, .int y ty], []⟩
noncomputable def wDtz : Str := ⟨⟨[47, 47]⟩⟩
noncomputable def wRem : Str := ⟨⟨[114, 101, 109]⟩⟩
noncomputable def wDiv : Str := ⟨⟨[100, 105, 118]⟩⟩
noncomputable def wMod : Str := ⟨⟨[109, 111, 100]⟩⟩
noncomputable def wGcd : Str := ⟨⟨[103, 99, 100]⟩⟩
noncomputable def consD (ks : List Nat) (x y : Int) (tx ty : Nat) : ConsTy := fun k _ _ _ n _ => match k with
  | 0 => cDz ks x y tx ty n
  | _ => nocon
noncomputable def consG (P : Params) (g : Bool) (x y : Int) : ConsTy := fun k ts rs _ n i => match k with
  | 1 => match ts with
    | z2 :: ts => match ts with
      | z1 :: ts => match ts with
        | z0 :: _ => cGl P g (x.natAbs : Int) (y.natAbs : Int) (Nat.add z0.1 (Nat.sub i 4)) (Nat.add z0.1 (Nat.sub i 3)) (z1.2 0) (z2.2 0) rs n
        | [] => nocon
      | [] => nocon
    | [] => nocon
  | _ => nocon
end Mine
end
section
open PySem PySem.W PySem.W.X
namespace Mine

/-- a told call -/
noncomputable def cTold (sgn : Str) (need : List (Nat × Obj)) (hp : Gr) (v : Int) (post : (Nat → Nat) → List (Nat × Obj)) (x : Int) (tx : Nat) (y : Int) (ty : Nat) (sg τ i : Nat) : Con := match Nat.ble (Nat.add 690 sg) i with
  | true => ⟨toldCode sgn (Nat.add τ (Nat.sub i sg)) x tx y ty, okS [1, 4], need, hp, none, fun _ x' => .ok (.ret (.int v (x' 0))), fun _ x' => post x'⟩
  | false => nocon
theorem tok_form {τ sg i : Nat} (h : Nat.ble (Nat.add 690 sg) i = true) : ∃ τs, Nat.add τ (Nat.sub i sg) = Nat.add τs 690 := by
  have := Nat.le_of_ble_eq_true h
  have h : 690 + sg ≤ i := this
  refine ⟨τ + (i - sg - 690), ?_⟩
  show τ + (i - sg) = τ + (i - sg - 690) + 690
  omega
theorem consD1_valid {w : World} {P0 : Params} {b1 b2 : Bool} (hP : fol P0 b1 b2 = w.params) {x y : Int} (hy : y ≠ 0) (hq : Builtin.divisionGoesByPylong (x.natAbs : Int) (y.natAbs : Int) = false) {tx ty : Nat} {U A st hi js} : ∀ F, ∀ k ts rs' τ' n i, (consD [1, 1, 1, 3, 1, 1, 1, 4] x y tx ty k ts rs' τ' n i).Valid ((SR w (fol P0 b1 b2) [] id 0 0 [] F noc).at U A st hi js F (consD [1, 1, 1, 3, 1, 1, 1, 4] x y tx ty)) rs' τ' := by
  intro F k ts rs' τ' n i
  unfold consD
  split
  · exact cDz1_valid hP hy hq rs' τ' n
  · exact nocon_valid
theorem consD2_valid {w : World} {P0 : Params} {b1 b2 : Bool} (hP : fol P0 b1 b2 = w.params) {x y : Int} (hy : y ≠ 0) (hq : Builtin.divisionGoesByPylong (x.natAbs : Int) (y.natAbs : Int) = false) {tx ty : Nat} {U A st hi js} : ∀ F, ∀ k ts rs' τ' n i, (consD [1, 1, 1, 1, 3, 1, 1, 1, 4] x y tx ty k ts rs' τ' n i).Valid ((SR w (fol P0 b1 b2) [] id 0 0 [] F noc).at U A st hi js F (consD [1, 1, 1, 1, 3, 1, 1, 1, 4] x y tx ty)) rs' τ' := by
  intro F k ts rs' τ' n i
  unfold consD
  split
  · exact cDz2_valid hP hy hq rs' τ' n
  · exact nocon_valid
theorem consG_valid {w : World} {P0 : Params} {b1 b2 : Bool} (hP : fol P0 b1 b2 = w.params) {x y : Int} {g : Bool} {U A st hi js} : ∀ F, ∀ k ts rs' τ' n i, (consG (fol P0 b1 b2) g x y k ts rs' τ' n i).Valid ((SR w (fol P0 b1 b2) [] id 0 0 [] F noc).at U A st hi js F (consG (fol P0 b1 b2) g x y)) rs' τ' := by
  intro F k ts rs' τ' n i
  unfold consG
  split
  · split
    · split
      · split
        · exact cGl_valid hP (Int.natCast_nonneg _) (Int.natCast_nonneg _) g rs' τ' n
        · exact nocon_valid
      · exact nocon_valid
    · exact nocon_valid
  · exact nocon_valid
end Mine
end
section
open PySem PySem.W PySem.W.X
namespace Mine
noncomputable def h_nDtz0 : List (Nat × H) := [(2088, .op 0), (180, .opAt 1 608), (136, .op 10), (117, .con 0), (50, .op 4)]
set_option maxHeartbeats 0 in
theorem run_nDtz0 {w : World} {P0 : Params} {b1 b2 : Bool} {τ τs : Nat} {p : Pos} {e1 : List Stmt} {e2 : Env} {p1 p2 : Pos} {a : Args} {x y : Int} {tx ty : Nat} {u : Nat → Nat} {F : Int → Nat → List (Nat × Nat) → List (Option Obj) → Prop} :
    sim (SR w (fol P0 b1 b2) [376, 377, 378, 379] id 582 1000 [376, 377, 378, 379, 586] (FintO F) (consD [1, 1, 1, 3, 1, 1, 1, 4] x y tx ty)) 2253 ⟨h_nDtz0, []⟩ [] τ (puts .nil (nmI (fol P0 b1 b2) u ++ nm0 (fol P0 b1 b2) u )) 582 690 ⟨toldCode wDtz (Nat.add τs 690) x tx y ty, none, none, [(.func e1 e2, p1), (.builtin id_caller a, p2)], none⟩ p .base (den (toldCode wDtz (Nat.add τs 690) x tx y ty)) =
    (ads [] [608] ((¬ y = 0) ∧ ((cDz [1, 1, 1, 3, 1, 1, 1, 4] x y tx ty 610).code = (cDz [1, 1, 1, 3, 1, 1, 1, 4] x y tx ty 610).code) ∧ selfs (cDz [1, 1, 1, 3, 1, 1, 1, 4] x y tx ty 610).need ∧ ∀ (_ : Nat) (_ : Nat → Nat), (¬ ((Builtin.Int.intBits (dtzV x y) : Nat) : Int) > 100000) ∧ F (dtzV x y) 612 [] ((nm1 (fol P0 b1 b2) (upd 2417 u (fresh 2417 τs τ))  586 ++ [(586, key1 (upd 2417 u (fresh 2417 τs τ)))]).map fun (z : Nat × Obj) => some z.2))) := by
  cases b1 <;> kernel_rfl
noncomputable def c_nDtz0 (P : Params) (u : Nat → Nat) (x : Int) (tx : Nat) (y : Int) (ty sg τ' n i : Nat) : Con := cTold wDtz (nmI P u ++ nm0 P u ) (.lit 582 612) (dtzV x y) (fun x' => nm1 P (updS 2417 u x')  586 ++ [(586, key1 (updS 2417 u x'))]) x tx y ty sg τ' i
theorem c_nDtz0_valid {w : World} {P0 : Params} {b1 b2 : Bool} (hP : fol P0 b1 b2 = w.params) {u : Nat → Nat} {x y : Int} (hy : y ≠ 0) (hq : Builtin.divisionGoesByPylong (x.natAbs : Int) (y.natAbs : Int) = false) (hb : ¬ ((Builtin.Int.intBits (dtzV x y) : Nat) : Int) > 100000) {tx ty sg τ' n i : Nat} {U A st hi js F cons} (rs) (τ : Nat) :
    (c_nDtz0 (fol P0 b1 b2) u x tx y ty sg τ' n i).Valid (SR w (fol P0 b1 b2) U A st hi js F cons) rs τ := by
  unfold c_nDtz0
  unfold cTold
  split
  rotate_left
  · exact nocon_valid
  rename_i hi0
  obtain ⟨τs, hτ⟩ := tok_form (τ := τ') hi0
  rw [hτ]
  refine Con.valid_heap (hi := 1000) (U := [376, 377, 378, 379]) (js := [376, 377, 378, 379, 586]) (cons := consD [1, 1, 1, 3, 1, 1, 1, 4] x y tx ty) (SR_base hP) rfl rfl (by show 369 ≤ 582; omega) (by show 369 ≤ 1000; omega) (by kernel_rfl) (fun _ _ => rfl) (fun _ _ => rfl) (fun _ => rfl) (by show ∀ u ∈ [376, 377, 378, 379], 369 ≤ u ∧ u < 582 ∧ u ∈ [376, 377, 378, 379, 586]; decide) (consD1_valid hP hy hq) ?_
  intro Γ p τr hok hc
  obtain ⟨l, hΓ, hs0⟩ := okS_is hok
  obtain ⟨e1, e2, p1, l, rfl, hs1⟩ := shp1 hs0
  obtain ⟨a, p2, rfl⟩ := shp4 hs1
  rw [hc] at hΓ
  rw [hΓ]
  refine ⟨FintO (fun v m rs os => v = dtzV x y ∧ m = 612 ∧ rs = [] ∧ os = (nm1 (fol P0 b1 b2) (upd 2417 u (fresh 2417 τs τr))  586 ++ [(586, key1 (upd 2417 u (fresh 2417 τs τr)))]).map fun (z : Nat × Obj) => some z.2), 2253, ⟨h_nDtz0, []⟩, ?_, ?_⟩
  · intro e m rs' τ' j os hF
    obtain ⟨x0, t, rfl, rfl, rfl, rfl, rfl⟩ := FintO_is hF
    exact ⟨(fun k => match k with | 0 => t | k + 1 => fresh 2417 τs τr k), rfl, rfl, rfl, by kernel_rfl⟩
  · refine cast (run_nDtz0).symm ?_
    exact ads_i (⟨hy, ⟨rfl, selfs_all _, fun _ _ => ⟨hb, ⟨rfl, rfl, rfl, rfl⟩⟩⟩⟩) _
noncomputable def h_nDtz1 : List (Nat × H) := [(2088, .op 0), (180, .opAt 1 609), (136, .op 10), (117, .con 0), (50, .op 4)]
set_option maxHeartbeats 0 in
theorem run_nDtz1 {w : World} {P0 : Params} {b1 b2 : Bool} {τ τs : Nat} {p : Pos} {e1 : List Stmt} {e2 : Env} {p1 p2 : Pos} {a : Args} {x y : Int} {tx ty : Nat} {u : Nat → Nat} {F : Int → Nat → List (Nat × Nat) → List (Option Obj) → Prop} :
    sim (SR w (fol P0 b1 b2) [376, 377, 378, 379] id 583 1000 [376, 377, 378, 379, 587] (FintO F) (consD [1, 1, 1, 3, 1, 1, 1, 4] x y tx ty)) 2253 ⟨h_nDtz1, []⟩ [] τ (puts .nil (nmI (fol P0 b1 b2) u ++ nm0 (fol P0 b1 b2) u )) 583 690 ⟨toldCode wDtz (Nat.add τs 690) x tx y ty, none, none, [(.func e1 e2, p1), (.builtin id_caller a, p2)], none⟩ p .base (den (toldCode wDtz (Nat.add τs 690) x tx y ty)) =
    (ads [] [609] ((¬ y = 0) ∧ ((cDz [1, 1, 1, 3, 1, 1, 1, 4] x y tx ty 611).code = (cDz [1, 1, 1, 3, 1, 1, 1, 4] x y tx ty 611).code) ∧ selfs (cDz [1, 1, 1, 3, 1, 1, 1, 4] x y tx ty 611).need ∧ ∀ (_ : Nat) (_ : Nat → Nat), (¬ ((Builtin.Int.intBits (dtzV x y) : Nat) : Int) > 100000) ∧ F (dtzV x y) 613 [] ((nm1 (fol P0 b1 b2) (upd 2417 u (fresh 2417 τs τ))  587 ++ [(587, key1 (upd 2417 u (fresh 2417 τs τ)))]).map fun (z : Nat × Obj) => some z.2))) := by
  cases b1 <;> kernel_rfl
noncomputable def c_nDtz1 (P : Params) (u : Nat → Nat) (x : Int) (tx : Nat) (y : Int) (ty sg τ' n i : Nat) : Con := cTold wDtz (nmI P u ++ nm0 P u ) (.lit 583 613) (dtzV x y) (fun x' => nm1 P (updS 2417 u x')  587 ++ [(587, key1 (updS 2417 u x'))]) x tx y ty sg τ' i
theorem c_nDtz1_valid {w : World} {P0 : Params} {b1 b2 : Bool} (hP : fol P0 b1 b2 = w.params) {u : Nat → Nat} {x y : Int} (hy : y ≠ 0) (hq : Builtin.divisionGoesByPylong (x.natAbs : Int) (y.natAbs : Int) = false) (hb : ¬ ((Builtin.Int.intBits (dtzV x y) : Nat) : Int) > 100000) {tx ty sg τ' n i : Nat} {U A st hi js F cons} (rs) (τ : Nat) :
    (c_nDtz1 (fol P0 b1 b2) u x tx y ty sg τ' n i).Valid (SR w (fol P0 b1 b2) U A st hi js F cons) rs τ := by
  unfold c_nDtz1
  unfold cTold
  split
  rotate_left
  · exact nocon_valid
  rename_i hi0
  obtain ⟨τs, hτ⟩ := tok_form (τ := τ') hi0
  rw [hτ]
  refine Con.valid_heap (hi := 1000) (U := [376, 377, 378, 379]) (js := [376, 377, 378, 379, 587]) (cons := consD [1, 1, 1, 3, 1, 1, 1, 4] x y tx ty) (SR_base hP) rfl rfl (by show 369 ≤ 583; omega) (by show 369 ≤ 1000; omega) (by kernel_rfl) (fun _ _ => rfl) (fun _ _ => rfl) (fun _ => rfl) (by show ∀ u ∈ [376, 377, 378, 379], 369 ≤ u ∧ u < 583 ∧ u ∈ [376, 377, 378, 379, 587]; decide) (consD1_valid hP hy hq) ?_
  intro Γ p τr hok hc
  obtain ⟨l, hΓ, hs0⟩ := okS_is hok
  obtain ⟨e1, e2, p1, l, rfl, hs1⟩ := shp1 hs0
  obtain ⟨a, p2, rfl⟩ := shp4 hs1
  rw [hc] at hΓ
  rw [hΓ]
  refine ⟨FintO (fun v m rs os => v = dtzV x y ∧ m = 613 ∧ rs = [] ∧ os = (nm1 (fol P0 b1 b2) (upd 2417 u (fresh 2417 τs τr))  587 ++ [(587, key1 (upd 2417 u (fresh 2417 τs τr)))]).map fun (z : Nat × Obj) => some z.2), 2253, ⟨h_nDtz1, []⟩, ?_, ?_⟩
  · intro e m rs' τ' j os hF
    obtain ⟨x0, t, rfl, rfl, rfl, rfl, rfl⟩ := FintO_is hF
    exact ⟨(fun k => match k with | 0 => t | k + 1 => fresh 2417 τs τr k), rfl, rfl, rfl, by kernel_rfl⟩
  · refine cast (run_nDtz1).symm ?_
    exact ads_i (⟨hy, ⟨rfl, selfs_all _, fun _ _ => ⟨hb, ⟨rfl, rfl, rfl, rfl⟩⟩⟩⟩) _
noncomputable def h_nRem0 : List (Nat × H) := [(2139, .op 0), (227, .opAt 1 638), (183, .op 10), (126, .con 0), (123, .op 18), (50, .op 4)]
set_option maxHeartbeats 0 in
theorem run_nRem0 {w : World} {P0 : Params} {b1 b2 : Bool} {τ τs : Nat} {p : Pos} {e1 : List Stmt} {e2 : Env} {p1 p2 : Pos} {a : Args} {x y : Int} {tx ty : Nat} {u : Nat → Nat} {F : Int → Nat → List (Nat × Nat) → List (Option Obj) → Prop} :
    sim (SR w (fol P0 b1 b2) [376, 377, 378, 379] id 612 1000 [376, 377, 378, 379, 616] (FintO F) (consD [1, 1, 1, 1, 3, 1, 1, 1, 4] x y tx ty)) 2304 ⟨h_nRem0, []⟩ [] τ (puts .nil (nmI (fol P0 b1 b2) u ++ nm1 (fol P0 b1 b2) u 586)) 612 690 ⟨toldCode wRem (Nat.add τs 690) x tx y ty, none, none, [(.func e1 e2, p1), (.builtin id_caller a, p2)], none⟩ p .base (den (toldCode wRem (Nat.add τs 690) x tx y ty)) =
    (ads [] [638] ((¬ y = 0) ∧ ((cDz [1, 1, 1, 1, 3, 1, 1, 1, 4] x y tx ty 641).code = (cDz [1, 1, 1, 1, 3, 1, 1, 1, 4] x y tx ty 641).code) ∧ selfs (cDz [1, 1, 1, 1, 3, 1, 1, 1, 4] x y tx ty 641).need ∧ ∀ (_ : Nat) (_ : Nat → Nat), (Builtin.Int.intTooBig (Builtin.Int.intBits y + Builtin.Int.intBits (dtzV x y)) = false) ∧ (¬ ((Builtin.Int.intBits (x - y * dtzV x y) : Nat) : Int) > 100000) ∧ F (x - y * dtzV x y) 643 [] ((nm2 (fol P0 b1 b2) (upd 2581 u (fresh 2581 τs τ)) 586 616 ++ [(616, key2 (upd 2581 u (fresh 2581 τs τ)))]).map fun (z : Nat × Obj) => some z.2))) := by
  cases b1 <;> kernel_rfl
noncomputable def c_nRem0 (P : Params) (u : Nat → Nat) (x : Int) (tx : Nat) (y : Int) (ty sg τ' n i : Nat) : Con := cTold wRem (nmI P u ++ nm1 P u 586) (.lit 612 643) (x - y * dtzV x y) (fun x' => nm2 P (updS 2581 u x') 586 616 ++ [(616, key2 (updS 2581 u x'))]) x tx y ty sg τ' i
theorem c_nRem0_valid {w : World} {P0 : Params} {b1 b2 : Bool} (hP : fol P0 b1 b2 = w.params) {u : Nat → Nat} {x y : Int} (hy : y ≠ 0) (hq : Builtin.divisionGoesByPylong (x.natAbs : Int) (y.natAbs : Int) = false) (hm : Builtin.Int.intTooBig (Builtin.Int.intBits y + Builtin.Int.intBits (dtzV x y)) = false) (hb : ¬ ((Builtin.Int.intBits (x - y * dtzV x y) : Nat) : Int) > 100000) {tx ty sg τ' n i : Nat} {U A st hi js F cons} (rs) (τ : Nat) :
    (c_nRem0 (fol P0 b1 b2) u x tx y ty sg τ' n i).Valid (SR w (fol P0 b1 b2) U A st hi js F cons) rs τ := by
  unfold c_nRem0
  unfold cTold
  split
  rotate_left
  · exact nocon_valid
  rename_i hi0
  obtain ⟨τs, hτ⟩ := tok_form (τ := τ') hi0
  rw [hτ]
  refine Con.valid_heap (hi := 1000) (U := [376, 377, 378, 379]) (js := [376, 377, 378, 379, 616]) (cons := consD [1, 1, 1, 1, 3, 1, 1, 1, 4] x y tx ty) (SR_base hP) rfl rfl (by show 369 ≤ 612; omega) (by show 369 ≤ 1000; omega) (by kernel_rfl) (fun _ _ => rfl) (fun _ _ => rfl) (fun _ => rfl) (by show ∀ u ∈ [376, 377, 378, 379], 369 ≤ u ∧ u < 612 ∧ u ∈ [376, 377, 378, 379, 616]; decide) (consD2_valid hP hy hq) ?_
  intro Γ p τr hok hc
  obtain ⟨l, hΓ, hs0⟩ := okS_is hok
  obtain ⟨e1, e2, p1, l, rfl, hs1⟩ := shp1 hs0
  obtain ⟨a, p2, rfl⟩ := shp4 hs1
  rw [hc] at hΓ
  rw [hΓ]
  refine ⟨FintO (fun v m rs os => v = x - y * dtzV x y ∧ m = 643 ∧ rs = [] ∧ os = (nm2 (fol P0 b1 b2) (upd 2581 u (fresh 2581 τs τr)) 586 616 ++ [(616, key2 (upd 2581 u (fresh 2581 τs τr)))]).map fun (z : Nat × Obj) => some z.2), 2304, ⟨h_nRem0, []⟩, ?_, ?_⟩
  · intro e m rs' τ' j os hF
    obtain ⟨x0, t, rfl, rfl, rfl, rfl, rfl⟩ := FintO_is hF
    exact ⟨(fun k => match k with | 0 => t | k + 1 => fresh 2581 τs τr k), rfl, rfl, rfl, by kernel_rfl⟩
  · refine cast (run_nRem0).symm ?_
    exact ads_i (⟨hy, ⟨rfl, selfs_all _, fun _ _ => ⟨hm, ⟨hb, ⟨rfl, rfl, rfl, rfl⟩⟩⟩⟩⟩) _
noncomputable def h_nRem1 : List (Nat × H) := [(2139, .op 0), (227, .opAt 1 639), (183, .op 10), (126, .con 0), (123, .op 18), (50, .op 4)]
set_option maxHeartbeats 0 in
theorem run_nRem1 {w : World} {P0 : Params} {b1 b2 : Bool} {τ τs : Nat} {p : Pos} {e1 : List Stmt} {e2 : Env} {p1 p2 : Pos} {a : Args} {x y : Int} {tx ty : Nat} {u : Nat → Nat} {F : Int → Nat → List (Nat × Nat) → List (Option Obj) → Prop} :
    sim (SR w (fol P0 b1 b2) [376, 377, 378, 379] id 613 1000 [376, 377, 378, 379, 617] (FintO F) (consD [1, 1, 1, 1, 3, 1, 1, 1, 4] x y tx ty)) 2304 ⟨h_nRem1, []⟩ [] τ (puts .nil (nmI (fol P0 b1 b2) u ++ nm1 (fol P0 b1 b2) u 587)) 613 690 ⟨toldCode wRem (Nat.add τs 690) x tx y ty, none, none, [(.func e1 e2, p1), (.builtin id_caller a, p2)], none⟩ p .base (den (toldCode wRem (Nat.add τs 690) x tx y ty)) =
    (ads [] [639] ((¬ y = 0) ∧ ((cDz [1, 1, 1, 1, 3, 1, 1, 1, 4] x y tx ty 642).code = (cDz [1, 1, 1, 1, 3, 1, 1, 1, 4] x y tx ty 642).code) ∧ selfs (cDz [1, 1, 1, 1, 3, 1, 1, 1, 4] x y tx ty 642).need ∧ ∀ (_ : Nat) (_ : Nat → Nat), (Builtin.Int.intTooBig (Builtin.Int.intBits y + Builtin.Int.intBits (dtzV x y)) = false) ∧ (¬ ((Builtin.Int.intBits (x - y * dtzV x y) : Nat) : Int) > 100000) ∧ F (x - y * dtzV x y) 644 [] ((nm2 (fol P0 b1 b2) (upd 2581 u (fresh 2581 τs τ)) 587 617 ++ [(617, key2 (upd 2581 u (fresh 2581 τs τ)))]).map fun (z : Nat × Obj) => some z.2))) := by
  cases b1 <;> kernel_rfl
noncomputable def c_nRem1 (P : Params) (u : Nat → Nat) (x : Int) (tx : Nat) (y : Int) (ty sg τ' n i : Nat) : Con := cTold wRem (nmI P u ++ nm1 P u 587) (.lit 613 644) (x - y * dtzV x y) (fun x' => nm2 P (updS 2581 u x') 587 617 ++ [(617, key2 (updS 2581 u x'))]) x tx y ty sg τ' i
theorem c_nRem1_valid {w : World} {P0 : Params} {b1 b2 : Bool} (hP : fol P0 b1 b2 = w.params) {u : Nat → Nat} {x y : Int} (hy : y ≠ 0) (hq : Builtin.divisionGoesByPylong (x.natAbs : Int) (y.natAbs : Int) = false) (hm : Builtin.Int.intTooBig (Builtin.Int.intBits y + Builtin.Int.intBits (dtzV x y)) = false) (hb : ¬ ((Builtin.Int.intBits (x - y * dtzV x y) : Nat) : Int) > 100000) {tx ty sg τ' n i : Nat} {U A st hi js F cons} (rs) (τ : Nat) :
    (c_nRem1 (fol P0 b1 b2) u x tx y ty sg τ' n i).Valid (SR w (fol P0 b1 b2) U A st hi js F cons) rs τ := by
  unfold c_nRem1
  unfold cTold
  split
  rotate_left
  · exact nocon_valid
  rename_i hi0
  obtain ⟨τs, hτ⟩ := tok_form (τ := τ') hi0
  rw [hτ]
  refine Con.valid_heap (hi := 1000) (U := [376, 377, 378, 379]) (js := [376, 377, 378, 379, 617]) (cons := consD [1, 1, 1, 1, 3, 1, 1, 1, 4] x y tx ty) (SR_base hP) rfl rfl (by show 369 ≤ 613; omega) (by show 369 ≤ 1000; omega) (by kernel_rfl) (fun _ _ => rfl) (fun _ _ => rfl) (fun _ => rfl) (by show ∀ u ∈ [376, 377, 378, 379], 369 ≤ u ∧ u < 613 ∧ u ∈ [376, 377, 378, 379, 617]; decide) (consD2_valid hP hy hq) ?_
  intro Γ p τr hok hc
  obtain ⟨l, hΓ, hs0⟩ := okS_is hok
  obtain ⟨e1, e2, p1, l, rfl, hs1⟩ := shp1 hs0
  obtain ⟨a, p2, rfl⟩ := shp4 hs1
  rw [hc] at hΓ
  rw [hΓ]
  refine ⟨FintO (fun v m rs os => v = x - y * dtzV x y ∧ m = 644 ∧ rs = [] ∧ os = (nm2 (fol P0 b1 b2) (upd 2581 u (fresh 2581 τs τr)) 587 617 ++ [(617, key2 (upd 2581 u (fresh 2581 τs τr)))]).map fun (z : Nat × Obj) => some z.2), 2304, ⟨h_nRem1, []⟩, ?_, ?_⟩
  · intro e m rs' τ' j os hF
    obtain ⟨x0, t, rfl, rfl, rfl, rfl, rfl⟩ := FintO_is hF
    exact ⟨(fun k => match k with | 0 => t | k + 1 => fresh 2581 τs τr k), rfl, rfl, rfl, by kernel_rfl⟩
  · refine cast (run_nRem1).symm ?_
    exact ads_i (⟨hy, ⟨rfl, selfs_all _, fun _ _ => ⟨hm, ⟨hb, ⟨rfl, rfl, rfl, rfl⟩⟩⟩⟩⟩) _
noncomputable def h_nDiv0 : List (Nat × H) := [(2114, .op 0), (194, .opAt 1 669), (150, .op 10), (116, .op 16), (50, .op 4)]
set_option maxHeartbeats 0 in
theorem run_nDiv0 {w : World} {P0 : Params} {b1 b2 : Bool} {τ τs : Nat} {p : Pos} {e1 : List Stmt} {e2 : Env} {p1 p2 : Pos} {a : Args} {x y : Int} {tx ty : Nat} {u : Nat → Nat} {F : Int → Nat → List (Nat × Nat) → List (Option Obj) → Prop} :
    sim (SR w (fol P0 b1 b2) [376, 377, 378, 379] id 643 1000 [376, 377, 378, 379, 647] (FintO F) noc) 2279 ⟨h_nDiv0, []⟩ [] τ (puts .nil (nmI (fol P0 b1 b2) u ++ nm2 (fol P0 b1 b2) u 586 616)) 643 690 ⟨toldCode wDiv (Nat.add τs 690) x tx y ty, none, none, [(.func e1 e2, p1), (.builtin id_caller a, p2)], none⟩ p .base (den (toldCode wDiv (Nat.add τs 690) x tx y ty)) =
    (ads [] [669] ((¬ y = 0) ∧ (y ≠ 0 ∧ Builtin.divisionGoesByPylong x y = false) ∧ (¬ ((Builtin.Int.intBits (x.fdiv y) : Nat) : Int) > 100000) ∧ F (x.fdiv y) 672 [] ((nm3 (fol P0 b1 b2) (upd 2750 u (fresh 2750 τs τ)) 586 616 647 ++ [(647, key3 (upd 2750 u (fresh 2750 τs τ)))]).map fun (z : Nat × Obj) => some z.2))) := by
  cases b1 <;> kernel_rfl
noncomputable def c_nDiv0 (P : Params) (u : Nat → Nat) (x : Int) (tx : Nat) (y : Int) (ty sg τ' n i : Nat) : Con := cTold wDiv (nmI P u ++ nm2 P u 586 616) (.lit 643 672) (x.fdiv y) (fun x' => nm3 P (updS 2750 u x') 586 616 647 ++ [(647, key3 (updS 2750 u x'))]) x tx y ty sg τ' i
theorem c_nDiv0_valid {w : World} {P0 : Params} {b1 b2 : Bool} (hP : fol P0 b1 b2 = w.params) {u : Nat → Nat} {x y : Int} (hy : y ≠ 0) (hq : Builtin.divisionGoesByPylong x y = false) (hb : ¬ ((Builtin.Int.intBits (x.fdiv y) : Nat) : Int) > 100000) {tx ty sg τ' n i : Nat} {U A st hi js F cons} (rs) (τ : Nat) :
    (c_nDiv0 (fol P0 b1 b2) u x tx y ty sg τ' n i).Valid (SR w (fol P0 b1 b2) U A st hi js F cons) rs τ := by
  unfold c_nDiv0
  unfold cTold
  split
  rotate_left
  · exact nocon_valid
  rename_i hi0
  obtain ⟨τs, hτ⟩ := tok_form (τ := τ') hi0
  rw [hτ]
  refine Con.valid_heap (hi := 1000) (U := [376, 377, 378, 379]) (js := [376, 377, 378, 379, 647]) (cons := noc) (SR_base hP) rfl rfl (by show 369 ≤ 643; omega) (by show 369 ≤ 1000; omega) (by kernel_rfl) (fun _ _ => rfl) (fun _ _ => rfl) (fun _ => rfl) (by show ∀ u ∈ [376, 377, 378, 379], 369 ≤ u ∧ u < 643 ∧ u ∈ [376, 377, 378, 379, 647]; decide) (fun _ _ _ _ _ _ _ => nocon_valid) ?_
  intro Γ p τr hok hc
  obtain ⟨l, hΓ, hs0⟩ := okS_is hok
  obtain ⟨e1, e2, p1, l, rfl, hs1⟩ := shp1 hs0
  obtain ⟨a, p2, rfl⟩ := shp4 hs1
  rw [hc] at hΓ
  rw [hΓ]
  refine ⟨FintO (fun v m rs os => v = x.fdiv y ∧ m = 672 ∧ rs = [] ∧ os = (nm3 (fol P0 b1 b2) (upd 2750 u (fresh 2750 τs τr)) 586 616 647 ++ [(647, key3 (upd 2750 u (fresh 2750 τs τr)))]).map fun (z : Nat × Obj) => some z.2), 2279, ⟨h_nDiv0, []⟩, ?_, ?_⟩
  · intro e m rs' τ' j os hF
    obtain ⟨x0, t, rfl, rfl, rfl, rfl, rfl⟩ := FintO_is hF
    exact ⟨(fun k => match k with | 0 => t | k + 1 => fresh 2750 τs τr k), rfl, rfl, rfl, by kernel_rfl⟩
  · refine cast (run_nDiv0).symm ?_
    exact ads_i (⟨hy, ⟨⟨hy, hq⟩, ⟨hb, ⟨rfl, rfl, rfl, rfl⟩⟩⟩⟩) _
noncomputable def h_nDiv1 : List (Nat × H) := [(2114, .op 0), (194, .opAt 1 670), (150, .op 10), (116, .op 16), (50, .op 4)]
set_option maxHeartbeats 0 in
theorem run_nDiv1 {w : World} {P0 : Params} {b1 b2 : Bool} {τ τs : Nat} {p : Pos} {e1 : List Stmt} {e2 : Env} {p1 p2 : Pos} {a : Args} {x y : Int} {tx ty : Nat} {u : Nat → Nat} {F : Int → Nat → List (Nat × Nat) → List (Option Obj) → Prop} :
    sim (SR w (fol P0 b1 b2) [376, 377, 378, 379] id 644 1000 [376, 377, 378, 379, 648] (FintO F) noc) 2279 ⟨h_nDiv1, []⟩ [] τ (puts .nil (nmI (fol P0 b1 b2) u ++ nm2 (fol P0 b1 b2) u 587 617)) 644 690 ⟨toldCode wDiv (Nat.add τs 690) x tx y ty, none, none, [(.func e1 e2, p1), (.builtin id_caller a, p2)], none⟩ p .base (den (toldCode wDiv (Nat.add τs 690) x tx y ty)) =
    (ads [] [670] ((¬ y = 0) ∧ (y ≠ 0 ∧ Builtin.divisionGoesByPylong x y = false) ∧ (¬ ((Builtin.Int.intBits (x.fdiv y) : Nat) : Int) > 100000) ∧ F (x.fdiv y) 673 [] ((nm3 (fol P0 b1 b2) (upd 2750 u (fresh 2750 τs τ)) 587 617 648 ++ [(648, key3 (upd 2750 u (fresh 2750 τs τ)))]).map fun (z : Nat × Obj) => some z.2))) := by
  cases b1 <;> kernel_rfl
noncomputable def c_nDiv1 (P : Params) (u : Nat → Nat) (x : Int) (tx : Nat) (y : Int) (ty sg τ' n i : Nat) : Con := cTold wDiv (nmI P u ++ nm2 P u 587 617) (.lit 644 673) (x.fdiv y) (fun x' => nm3 P (updS 2750 u x') 587 617 648 ++ [(648, key3 (updS 2750 u x'))]) x tx y ty sg τ' i
theorem c_nDiv1_valid {w : World} {P0 : Params} {b1 b2 : Bool} (hP : fol P0 b1 b2 = w.params) {u : Nat → Nat} {x y : Int} (hy : y ≠ 0) (hq : Builtin.divisionGoesByPylong x y = false) (hb : ¬ ((Builtin.Int.intBits (x.fdiv y) : Nat) : Int) > 100000) {tx ty sg τ' n i : Nat} {U A st hi js F cons} (rs) (τ : Nat) :
    (c_nDiv1 (fol P0 b1 b2) u x tx y ty sg τ' n i).Valid (SR w (fol P0 b1 b2) U A st hi js F cons) rs τ := by
  unfold c_nDiv1
  unfold cTold
  split
  rotate_left
  · exact nocon_valid
  rename_i hi0
  obtain ⟨τs, hτ⟩ := tok_form (τ := τ') hi0
  rw [hτ]
  refine Con.valid_heap (hi := 1000) (U := [376, 377, 378, 379]) (js := [376, 377, 378, 379, 648]) (cons := noc) (SR_base hP) rfl rfl (by show 369 ≤ 644; omega) (by show 369 ≤ 1000; omega) (by kernel_rfl) (fun _ _ => rfl) (fun _ _ => rfl) (fun _ => rfl) (by show ∀ u ∈ [376, 377, 378, 379], 369 ≤ u ∧ u < 644 ∧ u ∈ [376, 377, 378, 379, 648]; decide) (fun _ _ _ _ _ _ _ => nocon_valid) ?_
  intro Γ p τr hok hc
  obtain ⟨l, hΓ, hs0⟩ := okS_is hok
  obtain ⟨e1, e2, p1, l, rfl, hs1⟩ := shp1 hs0
  obtain ⟨a, p2, rfl⟩ := shp4 hs1
  rw [hc] at hΓ
  rw [hΓ]
  refine ⟨FintO (fun v m rs os => v = x.fdiv y ∧ m = 673 ∧ rs = [] ∧ os = (nm3 (fol P0 b1 b2) (upd 2750 u (fresh 2750 τs τr)) 587 617 648 ++ [(648, key3 (upd 2750 u (fresh 2750 τs τr)))]).map fun (z : Nat × Obj) => some z.2), 2279, ⟨h_nDiv1, []⟩, ?_, ?_⟩
  · intro e m rs' τ' j os hF
    obtain ⟨x0, t, rfl, rfl, rfl, rfl, rfl⟩ := FintO_is hF
    exact ⟨(fun k => match k with | 0 => t | k + 1 => fresh 2750 τs τr k), rfl, rfl, rfl, by kernel_rfl⟩
  · refine cast (run_nDiv1).symm ?_
    exact ads_i (⟨hy, ⟨⟨hy, hq⟩, ⟨hb, ⟨rfl, rfl, rfl, rfl⟩⟩⟩⟩) _
noncomputable def h_nMod0 : List (Nat × H) := [(2110, .op 0), (194, .opAt 1 698), (150, .op 10), (116, .op 17), (50, .op 4)]
set_option maxHeartbeats 0 in
theorem run_nMod0 {w : World} {P0 : Params} {b1 b2 : Bool} {τ τs : Nat} {p : Pos} {e1 : List Stmt} {e2 : Env} {p1 p2 : Pos} {a : Args} {x y : Int} {tx ty : Nat} {u : Nat → Nat} {F : Int → Nat → List (Nat × Nat) → List (Option Obj) → Prop} :
    sim (SR w (fol P0 b1 b2) [376, 377, 378, 379] id 672 1000 [376, 377, 378, 379, 676] (FintO F) noc) 2275 ⟨h_nMod0, []⟩ [] τ (puts .nil (nmI (fol P0 b1 b2) u ++ nm3 (fol P0 b1 b2) u 586 616 647)) 672 690 ⟨toldCode wMod (Nat.add τs 690) x tx y ty, none, none, [(.func e1 e2, p1), (.builtin id_caller a, p2)], none⟩ p .base (den (toldCode wMod (Nat.add τs 690) x tx y ty)) =
    (ads [] [698] ((¬ y = 0) ∧ (y ≠ 0) ∧ (¬ ((Builtin.Int.intBits (x.fmod y) : Nat) : Int) > 100000) ∧ F (x.fmod y) 701 [] ((nm4 (fol P0 b1 b2) (upd 2911 u (fresh 2911 τs τ)) 586 616 647 676 ++ [(676, key4 (upd 2911 u (fresh 2911 τs τ)))]).map fun (z : Nat × Obj) => some z.2))) := by
  cases b1 <;> kernel_rfl
noncomputable def c_nMod0 (P : Params) (u : Nat → Nat) (x : Int) (tx : Nat) (y : Int) (ty sg τ' n i : Nat) : Con := cTold wMod (nmI P u ++ nm3 P u 586 616 647) (.lit 672 701) (x.fmod y) (fun x' => nm4 P (updS 2911 u x') 586 616 647 676 ++ [(676, key4 (updS 2911 u x'))]) x tx y ty sg τ' i
theorem c_nMod0_valid {w : World} {P0 : Params} {b1 b2 : Bool} (hP : fol P0 b1 b2 = w.params) {u : Nat → Nat} {x y : Int} (hy : y ≠ 0) (hb : ¬ ((Builtin.Int.intBits (x.fmod y) : Nat) : Int) > 100000) {tx ty sg τ' n i : Nat} {U A st hi js F cons} (rs) (τ : Nat) :
    (c_nMod0 (fol P0 b1 b2) u x tx y ty sg τ' n i).Valid (SR w (fol P0 b1 b2) U A st hi js F cons) rs τ := by
  unfold c_nMod0
  unfold cTold
  split
  rotate_left
  · exact nocon_valid
  rename_i hi0
  obtain ⟨τs, hτ⟩ := tok_form (τ := τ') hi0
  rw [hτ]
  refine Con.valid_heap (hi := 1000) (U := [376, 377, 378, 379]) (js := [376, 377, 378, 379, 676]) (cons := noc) (SR_base hP) rfl rfl (by show 369 ≤ 672; omega) (by show 369 ≤ 1000; omega) (by kernel_rfl) (fun _ _ => rfl) (fun _ _ => rfl) (fun _ => rfl) (by show ∀ u ∈ [376, 377, 378, 379], 369 ≤ u ∧ u < 672 ∧ u ∈ [376, 377, 378, 379, 676]; decide) (fun _ _ _ _ _ _ _ => nocon_valid) ?_
  intro Γ p τr hok hc
  obtain ⟨l, hΓ, hs0⟩ := okS_is hok
  obtain ⟨e1, e2, p1, l, rfl, hs1⟩ := shp1 hs0
  obtain ⟨a, p2, rfl⟩ := shp4 hs1
  rw [hc] at hΓ
  rw [hΓ]
  refine ⟨FintO (fun v m rs os => v = x.fmod y ∧ m = 701 ∧ rs = [] ∧ os = (nm4 (fol P0 b1 b2) (upd 2911 u (fresh 2911 τs τr)) 586 616 647 676 ++ [(676, key4 (upd 2911 u (fresh 2911 τs τr)))]).map fun (z : Nat × Obj) => some z.2), 2275, ⟨h_nMod0, []⟩, ?_, ?_⟩
  · intro e m rs' τ' j os hF
    obtain ⟨x0, t, rfl, rfl, rfl, rfl, rfl⟩ := FintO_is hF
    exact ⟨(fun k => match k with | 0 => t | k + 1 => fresh 2911 τs τr k), rfl, rfl, rfl, by kernel_rfl⟩
  · refine cast (run_nMod0).symm ?_
    exact ads_i (⟨hy, ⟨hy, ⟨hb, ⟨rfl, rfl, rfl, rfl⟩⟩⟩⟩) _
noncomputable def h_nMod1 : List (Nat × H) := [(2110, .op 0), (194, .opAt 1 699), (150, .op 10), (116, .op 17), (50, .op 4)]
set_option maxHeartbeats 0 in
theorem run_nMod1 {w : World} {P0 : Params} {b1 b2 : Bool} {τ τs : Nat} {p : Pos} {e1 : List Stmt} {e2 : Env} {p1 p2 : Pos} {a : Args} {x y : Int} {tx ty : Nat} {u : Nat → Nat} {F : Int → Nat → List (Nat × Nat) → List (Option Obj) → Prop} :
    sim (SR w (fol P0 b1 b2) [376, 377, 378, 379] id 673 1000 [376, 377, 378, 379, 677] (FintO F) noc) 2275 ⟨h_nMod1, []⟩ [] τ (puts .nil (nmI (fol P0 b1 b2) u ++ nm3 (fol P0 b1 b2) u 587 617 648)) 673 690 ⟨toldCode wMod (Nat.add τs 690) x tx y ty, none, none, [(.func e1 e2, p1), (.builtin id_caller a, p2)], none⟩ p .base (den (toldCode wMod (Nat.add τs 690) x tx y ty)) =
    (ads [] [699] ((¬ y = 0) ∧ (y ≠ 0) ∧ (¬ ((Builtin.Int.intBits (x.fmod y) : Nat) : Int) > 100000) ∧ F (x.fmod y) 702 [] ((nm4 (fol P0 b1 b2) (upd 2911 u (fresh 2911 τs τ)) 587 617 648 677 ++ [(677, key4 (upd 2911 u (fresh 2911 τs τ)))]).map fun (z : Nat × Obj) => some z.2))) := by
  cases b1 <;> kernel_rfl
noncomputable def c_nMod1 (P : Params) (u : Nat → Nat) (x : Int) (tx : Nat) (y : Int) (ty sg τ' n i : Nat) : Con := cTold wMod (nmI P u ++ nm3 P u 587 617 648) (.lit 673 702) (x.fmod y) (fun x' => nm4 P (updS 2911 u x') 587 617 648 677 ++ [(677, key4 (updS 2911 u x'))]) x tx y ty sg τ' i
theorem c_nMod1_valid {w : World} {P0 : Params} {b1 b2 : Bool} (hP : fol P0 b1 b2 = w.params) {u : Nat → Nat} {x y : Int} (hy : y ≠ 0) (hb : ¬ ((Builtin.Int.intBits (x.fmod y) : Nat) : Int) > 100000) {tx ty sg τ' n i : Nat} {U A st hi js F cons} (rs) (τ : Nat) :
    (c_nMod1 (fol P0 b1 b2) u x tx y ty sg τ' n i).Valid (SR w (fol P0 b1 b2) U A st hi js F cons) rs τ := by
  unfold c_nMod1
  unfold cTold
  split
  rotate_left
  · exact nocon_valid
  rename_i hi0
  obtain ⟨τs, hτ⟩ := tok_form (τ := τ') hi0
  rw [hτ]
  refine Con.valid_heap (hi := 1000) (U := [376, 377, 378, 379]) (js := [376, 377, 378, 379, 677]) (cons := noc) (SR_base hP) rfl rfl (by show 369 ≤ 673; omega) (by show 369 ≤ 1000; omega) (by kernel_rfl) (fun _ _ => rfl) (fun _ _ => rfl) (fun _ => rfl) (by show ∀ u ∈ [376, 377, 378, 379], 369 ≤ u ∧ u < 673 ∧ u ∈ [376, 377, 378, 379, 677]; decide) (fun _ _ _ _ _ _ _ => nocon_valid) ?_
  intro Γ p τr hok hc
  obtain ⟨l, hΓ, hs0⟩ := okS_is hok
  obtain ⟨e1, e2, p1, l, rfl, hs1⟩ := shp1 hs0
  obtain ⟨a, p2, rfl⟩ := shp4 hs1
  rw [hc] at hΓ
  rw [hΓ]
  refine ⟨FintO (fun v m rs os => v = x.fmod y ∧ m = 702 ∧ rs = [] ∧ os = (nm4 (fol P0 b1 b2) (upd 2911 u (fresh 2911 τs τr)) 587 617 648 677 ++ [(677, key4 (upd 2911 u (fresh 2911 τs τr)))]).map fun (z : Nat × Obj) => some z.2), 2275, ⟨h_nMod1, []⟩, ?_, ?_⟩
  · intro e m rs' τ' j os hF
    obtain ⟨x0, t, rfl, rfl, rfl, rfl, rfl⟩ := FintO_is hF
    exact ⟨(fun k => match k with | 0 => t | k + 1 => fresh 2911 τs τr k), rfl, rfl, rfl, by kernel_rfl⟩
  · refine cast (run_nMod1).symm ?_
    exact ads_i (⟨hy, ⟨hy, ⟨hb, ⟨rfl, rfl, rfl, rfl⟩⟩⟩⟩) _
end Mine
end
section
open PySem PySem.W PySem.W.X
namespace Mine
noncomputable def h_nGcd0 : List (Nat × H) := [(2154, .op 0), (222, .opAt 1 815), (145, .op 15), (129, .op 15), (119, .con 1), (79, .at 817), (78, .at 817), (75, .at 817), (74, .at 817), (71, .at 817), (70, .at 817), (63, .at 817), (53, .at 817), (50, .op 4), (47, .at 817)]
set_option maxHeartbeats 0 in
theorem run_nGcd0 {w : World} {P0 : Params} {b1 b2 : Bool} {τ τs : Nat} {p : Pos} {e1 : List Stmt} {e2 : Env} {p1 p2 : Pos} {a : Args} {x y : Int} {tx ty : Nat} {u : Nat → Nat} {F : Int → Nat → List (Nat × Nat) → List (Option Obj) → Prop} :
    sim (SR w (fol P0 b1 b2) [376, 377, 378, 379] id 789 817 [376, 377, 378, 379, 793] (FintO F) (consG (fol P0 b1 b2) true x y)) 2319 ⟨h_nGcd0, [(τ, fun _ => 0)]⟩ [] τ (puts .nil (nmI (fol P0 b1 b2) u ++ nm4 (fol P0 b1 b2) u 586 616 647 676)) 789 690 ⟨toldCode wGcd (Nat.add τs 690) x tx y ty, none, none, [(.func e1 e2, p1), (.builtin id_caller a, p2)], none⟩ p .base (den (toldCode wGcd (Nat.add τs 690) x tx y ty)) =
    (ads [] [815] (∀ (τ1 x1 : Nat), ∀ (τ2 x2 : Nat), ((consG (fol P0 b1 b2) true x y 1 [(τ2, fun _ => x2), (τ1, fun _ => x1), (τ, fun _ => 0)] [] τ2 817 841).code = (consG (fol P0 b1 b2) true x y 1 [(τ2, fun _ => x2), (τ1, fun _ => x1), (τ, fun _ => 0)] [] τ2 817 841).code) ∧ selfs (consG (fol P0 b1 b2) true x y 1 [(τ2, fun _ => x2), (τ1, fun _ => x1), (τ, fun _ => 0)] [] τ2 817 841).need ∧ ∀ (d : Nat) (_ : Nat) (_ : Nat → Nat), ads [(817, d)] [817, 817, 817, 817, 817, 817, 817, 817] ((¬ ((Builtin.Int.intBits ((Int.gcd (x.natAbs : Int) (y.natAbs : Int) : Int)) : Nat) : Int) > 100000) ∧ ads [(817, d)] [817] (F ((Int.gcd (x.natAbs : Int) (y.natAbs : Int) : Int)) 818 [(817, d)] ((nm5 (fol P0 b1 b2) (upd 3535 u (fresh 3535 τs τ)) 586 616 647 676 793 ++ [(793, key5 (upd 3535 u (fresh 3535 τs τ)))]).map fun (z : Nat × Obj) => some z.2))))) := by
  cases b1 <;> kernel_rfl
noncomputable def c_nGcd0 (P : Params) (u : Nat → Nat) (x : Int) (tx : Nat) (y : Int) (ty sg τ' n i : Nat) : Con := cTold wGcd (nmI P u ++ nm4 P u 586 616 647 676) (.grow 789 817) ((Int.gcd (x.natAbs : Int) (y.natAbs : Int) : Int)) (fun x' => nm5 P (updS 3535 u x') 586 616 647 676 793 ++ [(793, key5 (updS 3535 u x'))]) x tx y ty sg τ' i
theorem c_nGcd0_valid {w : World} {P0 : Params} {b1 b2 : Bool} (hP : fol P0 b1 b2 = w.params) {u : Nat → Nat} {x y : Int} (hb : ¬ ((Builtin.Int.intBits (Int.gcd (x.natAbs : Int) (y.natAbs : Int) : Int) : Nat) : Int) > 100000) {tx ty sg τ' n i : Nat} {U A st hi js F cons} (rs) (τ : Nat) :
    (c_nGcd0 (fol P0 b1 b2) u x tx y ty sg τ' n i).Valid (SR w (fol P0 b1 b2) U A st hi js F cons) rs τ := by
  unfold c_nGcd0
  unfold cTold
  split
  rotate_left
  · exact nocon_valid
  rename_i hi0
  obtain ⟨τs, hτ⟩ := tok_form (τ := τ') hi0
  rw [hτ]
  refine Con.valid_grow (hi := 817) (U := [376, 377, 378, 379]) (js := [376, 377, 378, 379, 793]) (cons := consG (fol P0 b1 b2) true x y) (SR_base hP) rfl rfl (by show 369 ≤ 789; omega) (by show 369 ≤ 817; omega) (by kernel_rfl) (fun _ _ => rfl) (fun _ _ => rfl) (fun _ => rfl) (by decide) (by show ∀ u ∈ [376, 377, 378, 379], 369 ≤ u ∧ u < 789 ∧ u ∈ [376, 377, 378, 379, 793]; decide) (consG_valid hP) ?_
  intro Γ p τr hok hc
  obtain ⟨l, hΓ, hs0⟩ := okS_is hok
  obtain ⟨e1, e2, p1, l, rfl, hs1⟩ := shp1 hs0
  obtain ⟨a, p2, rfl⟩ := shp4 hs1
  rw [hc] at hΓ
  rw [hΓ]
  refine ⟨FintO (fun v m rs os => v = (Int.gcd (x.natAbs : Int) (y.natAbs : Int) : Int) ∧ m = 818 ∧ (∃ d, rs = [(817, d)]) ∧ os = (nm5 (fol P0 b1 b2) (upd 3535 u (fresh 3535 τs τr)) 586 616 647 676 793 ++ [(793, key5 (upd 3535 u (fresh 3535 τs τr)))]).map fun (z : Nat × Obj) => some z.2), 2319, ⟨h_nGcd0, [(τr, fun _ => 0)]⟩, ?_, ?_⟩
  · intro e m rs' τ' j os hF
    obtain ⟨x0, t, rfl, rfl, rfl, ⟨d, rfl⟩, rfl⟩ := FintO_is hF
    exact ⟨(fun k => match k with | 0 => t | k + 1 => fresh 3535 τs τr k), d, rfl, by omega, rfl, by kernel_rfl⟩
  · refine cast (run_nGcd0).symm ?_
    exact ads_i (fun _ _ => fun _ _ => ⟨rfl, selfs_all _, fun _ _ _ => ads_i (⟨hb, ads_i (⟨rfl, rfl, ⟨_, rfl⟩, rfl⟩) _⟩) _⟩) _
noncomputable def h_nGcd1 : List (Nat × H) := [(2154, .op 0), (222, .opAt 1 816), (145, .op 15), (129, .op 15), (119, .con 1), (79, .at 818), (78, .at 818), (75, .at 818), (74, .at 818), (71, .at 818), (70, .at 818), (63, .at 818), (53, .at 818), (50, .op 4), (47, .at 818)]
set_option maxHeartbeats 0 in
theorem run_nGcd1 {w : World} {P0 : Params} {b1 b2 : Bool} {τ τs : Nat} {p : Pos} {e1 : List Stmt} {e2 : Env} {p1 p2 : Pos} {a : Args} {x y : Int} {tx ty : Nat} {u : Nat → Nat} {F : Int → Nat → List (Nat × Nat) → List (Option Obj) → Prop} :
    sim (SR w (fol P0 b1 b2) [376, 377, 378, 379] id 790 818 [376, 377, 378, 379, 794] (FintO F) (consG (fol P0 b1 b2) true x y)) 2319 ⟨h_nGcd1, [(τ, fun _ => 0)]⟩ [] τ (puts .nil (nmI (fol P0 b1 b2) u ++ nm4 (fol P0 b1 b2) u 587 617 648 677)) 790 690 ⟨toldCode wGcd (Nat.add τs 690) x tx y ty, none, none, [(.func e1 e2, p1), (.builtin id_caller a, p2)], none⟩ p .base (den (toldCode wGcd (Nat.add τs 690) x tx y ty)) =
    (ads [] [816] (∀ (τ1 x1 : Nat), ∀ (τ2 x2 : Nat), ((consG (fol P0 b1 b2) true x y 1 [(τ2, fun _ => x2), (τ1, fun _ => x1), (τ, fun _ => 0)] [] τ2 818 841).code = (consG (fol P0 b1 b2) true x y 1 [(τ2, fun _ => x2), (τ1, fun _ => x1), (τ, fun _ => 0)] [] τ2 818 841).code) ∧ selfs (consG (fol P0 b1 b2) true x y 1 [(τ2, fun _ => x2), (τ1, fun _ => x1), (τ, fun _ => 0)] [] τ2 818 841).need ∧ ∀ (d : Nat) (_ : Nat) (_ : Nat → Nat), ads [(818, d)] [818, 818, 818, 818, 818, 818, 818, 818] ((¬ ((Builtin.Int.intBits ((Int.gcd (x.natAbs : Int) (y.natAbs : Int) : Int)) : Nat) : Int) > 100000) ∧ ads [(818, d)] [818] (F ((Int.gcd (x.natAbs : Int) (y.natAbs : Int) : Int)) 819 [(818, d)] ((nm5 (fol P0 b1 b2) (upd 3535 u (fresh 3535 τs τ)) 587 617 648 677 794 ++ [(794, key5 (upd 3535 u (fresh 3535 τs τ)))]).map fun (z : Nat × Obj) => some z.2))))) := by
  cases b1 <;> kernel_rfl
noncomputable def c_nGcd1 (P : Params) (u : Nat → Nat) (x : Int) (tx : Nat) (y : Int) (ty sg τ' n i : Nat) : Con := cTold wGcd (nmI P u ++ nm4 P u 587 617 648 677) (.grow 790 818) ((Int.gcd (x.natAbs : Int) (y.natAbs : Int) : Int)) (fun x' => nm5 P (updS 3535 u x') 587 617 648 677 794 ++ [(794, key5 (updS 3535 u x'))]) x tx y ty sg τ' i
theorem c_nGcd1_valid {w : World} {P0 : Params} {b1 b2 : Bool} (hP : fol P0 b1 b2 = w.params) {u : Nat → Nat} {x y : Int} (hb : ¬ ((Builtin.Int.intBits (Int.gcd (x.natAbs : Int) (y.natAbs : Int) : Int) : Nat) : Int) > 100000) {tx ty sg τ' n i : Nat} {U A st hi js F cons} (rs) (τ : Nat) :
    (c_nGcd1 (fol P0 b1 b2) u x tx y ty sg τ' n i).Valid (SR w (fol P0 b1 b2) U A st hi js F cons) rs τ := by
  unfold c_nGcd1
  unfold cTold
  split
  rotate_left
  · exact nocon_valid
  rename_i hi0
  obtain ⟨τs, hτ⟩ := tok_form (τ := τ') hi0
  rw [hτ]
  refine Con.valid_grow (hi := 818) (U := [376, 377, 378, 379]) (js := [376, 377, 378, 379, 794]) (cons := consG (fol P0 b1 b2) true x y) (SR_base hP) rfl rfl (by show 369 ≤ 790; omega) (by show 369 ≤ 818; omega) (by kernel_rfl) (fun _ _ => rfl) (fun _ _ => rfl) (fun _ => rfl) (by decide) (by show ∀ u ∈ [376, 377, 378, 379], 369 ≤ u ∧ u < 790 ∧ u ∈ [376, 377, 378, 379, 794]; decide) (consG_valid hP) ?_
  intro Γ p τr hok hc
  obtain ⟨l, hΓ, hs0⟩ := okS_is hok
  obtain ⟨e1, e2, p1, l, rfl, hs1⟩ := shp1 hs0
  obtain ⟨a, p2, rfl⟩ := shp4 hs1
  rw [hc] at hΓ
  rw [hΓ]
  refine ⟨FintO (fun v m rs os => v = (Int.gcd (x.natAbs : Int) (y.natAbs : Int) : Int) ∧ m = 819 ∧ (∃ d, rs = [(818, d)]) ∧ os = (nm5 (fol P0 b1 b2) (upd 3535 u (fresh 3535 τs τr)) 587 617 648 677 794 ++ [(794, key5 (upd 3535 u (fresh 3535 τs τr)))]).map fun (z : Nat × Obj) => some z.2), 2319, ⟨h_nGcd1, [(τr, fun _ => 0)]⟩, ?_, ?_⟩
  · intro e m rs' τ' j os hF
    obtain ⟨x0, t, rfl, rfl, rfl, ⟨d, rfl⟩, rfl⟩ := FintO_is hF
    exact ⟨(fun k => match k with | 0 => t | k + 1 => fresh 3535 τs τr k), d, rfl, by omega, rfl, by kernel_rfl⟩
  · refine cast (run_nGcd1).symm ?_
    exact ads_i (fun _ _ => fun _ _ => ⟨rfl, selfs_all _, fun _ _ _ => ads_i (⟨hb, ads_i (⟨rfl, rfl, ⟨_, rfl⟩, rfl⟩) _⟩) _⟩) _
noncomputable def h_nGcd4 : List (Nat × H) := [(2154, .op 0), (222, .opAt 1 819), (145, .op 15), (129, .op 15), (119, .con 1), (79, .at 821), (78, .at 821), (75, .at 821), (74, .at 821), (71, .at 821), (70, .at 821), (63, .at 821), (53, .at 821), (50, .op 4), (47, .at 821)]
set_option maxHeartbeats 0 in
theorem run_nGcd4 {w : World} {P0 : Params} {b1 b2 : Bool} {τ τs : Nat} {p : Pos} {e1 : List Stmt} {e2 : Env} {p1 p2 : Pos} {a : Args} {x y : Int} {tx ty : Nat} {u : Nat → Nat} {F : Int → Nat → List (Nat × Nat) → List (Option Obj) → Prop} :
    sim (SR w (fol P0 b1 b2) [376, 377, 378, 379] id 793 821 [376, 377, 378, 379, 797] (FintO F) (consG (fol P0 b1 b2) true x y)) 2319 ⟨h_nGcd4, [(τ, fun _ => 0)]⟩ [] τ (puts .nil (nmI (fol P0 b1 b2) u ++ nm4 (fol P0 b1 b2) u 586 616 647 676)) 793 690 ⟨toldCode wGcd (Nat.add τs 690) x tx y ty, none, none, [(.func e1 e2, p1), (.builtin id_caller a, p2)], none⟩ p .base (den (toldCode wGcd (Nat.add τs 690) x tx y ty)) =
    (ads [] [819] (∀ (τ1 x1 : Nat), ∀ (τ2 x2 : Nat), ((consG (fol P0 b1 b2) true x y 1 [(τ2, fun _ => x2), (τ1, fun _ => x1), (τ, fun _ => 0)] [] τ2 821 841).code = (consG (fol P0 b1 b2) true x y 1 [(τ2, fun _ => x2), (τ1, fun _ => x1), (τ, fun _ => 0)] [] τ2 821 841).code) ∧ selfs (consG (fol P0 b1 b2) true x y 1 [(τ2, fun _ => x2), (τ1, fun _ => x1), (τ, fun _ => 0)] [] τ2 821 841).need ∧ ∀ (d : Nat) (_ : Nat) (_ : Nat → Nat), ads [(821, d)] [821, 821, 821, 821, 821, 821, 821, 821] ((¬ ((Builtin.Int.intBits ((Int.gcd (x.natAbs : Int) (y.natAbs : Int) : Int)) : Nat) : Int) > 100000) ∧ ads [(821, d)] [821] (F ((Int.gcd (x.natAbs : Int) (y.natAbs : Int) : Int)) 822 [(821, d)] ((nm5 (fol P0 b1 b2) (upd 3535 u (fresh 3535 τs τ)) 586 616 647 676 797 ++ [(797, key5 (upd 3535 u (fresh 3535 τs τ)))]).map fun (z : Nat × Obj) => some z.2))))) := by
  cases b1 <;> kernel_rfl
noncomputable def c_nGcd4 (P : Params) (u : Nat → Nat) (x : Int) (tx : Nat) (y : Int) (ty sg τ' n i : Nat) : Con := cTold wGcd (nmI P u ++ nm4 P u 586 616 647 676) (.grow 793 821) ((Int.gcd (x.natAbs : Int) (y.natAbs : Int) : Int)) (fun x' => nm5 P (updS 3535 u x') 586 616 647 676 797 ++ [(797, key5 (updS 3535 u x'))]) x tx y ty sg τ' i
theorem c_nGcd4_valid {w : World} {P0 : Params} {b1 b2 : Bool} (hP : fol P0 b1 b2 = w.params) {u : Nat → Nat} {x y : Int} (hb : ¬ ((Builtin.Int.intBits (Int.gcd (x.natAbs : Int) (y.natAbs : Int) : Int) : Nat) : Int) > 100000) {tx ty sg τ' n i : Nat} {U A st hi js F cons} (rs) (τ : Nat) :
    (c_nGcd4 (fol P0 b1 b2) u x tx y ty sg τ' n i).Valid (SR w (fol P0 b1 b2) U A st hi js F cons) rs τ := by
  unfold c_nGcd4
  unfold cTold
  split
  rotate_left
  · exact nocon_valid
  rename_i hi0
  obtain ⟨τs, hτ⟩ := tok_form (τ := τ') hi0
  rw [hτ]
  refine Con.valid_grow (hi := 821) (U := [376, 377, 378, 379]) (js := [376, 377, 378, 379, 797]) (cons := consG (fol P0 b1 b2) true x y) (SR_base hP) rfl rfl (by show 369 ≤ 793; omega) (by show 369 ≤ 821; omega) (by kernel_rfl) (fun _ _ => rfl) (fun _ _ => rfl) (fun _ => rfl) (by decide) (by show ∀ u ∈ [376, 377, 378, 379], 369 ≤ u ∧ u < 793 ∧ u ∈ [376, 377, 378, 379, 797]; decide) (consG_valid hP) ?_
  intro Γ p τr hok hc
  obtain ⟨l, hΓ, hs0⟩ := okS_is hok
  obtain ⟨e1, e2, p1, l, rfl, hs1⟩ := shp1 hs0
  obtain ⟨a, p2, rfl⟩ := shp4 hs1
  rw [hc] at hΓ
  rw [hΓ]
  refine ⟨FintO (fun v m rs os => v = (Int.gcd (x.natAbs : Int) (y.natAbs : Int) : Int) ∧ m = 822 ∧ (∃ d, rs = [(821, d)]) ∧ os = (nm5 (fol P0 b1 b2) (upd 3535 u (fresh 3535 τs τr)) 586 616 647 676 797 ++ [(797, key5 (upd 3535 u (fresh 3535 τs τr)))]).map fun (z : Nat × Obj) => some z.2), 2319, ⟨h_nGcd4, [(τr, fun _ => 0)]⟩, ?_, ?_⟩
  · intro e m rs' τ' j os hF
    obtain ⟨x0, t, rfl, rfl, rfl, ⟨d, rfl⟩, rfl⟩ := FintO_is hF
    exact ⟨(fun k => match k with | 0 => t | k + 1 => fresh 3535 τs τr k), d, rfl, by omega, rfl, by kernel_rfl⟩
  · refine cast (run_nGcd4).symm ?_
    exact ads_i (fun _ _ => fun _ _ => ⟨rfl, selfs_all _, fun _ _ _ => ads_i (⟨hb, ads_i (⟨rfl, rfl, ⟨_, rfl⟩, rfl⟩) _⟩) _⟩) _
noncomputable def h_nGcd5 : List (Nat × H) := [(2154, .op 0), (222, .opAt 1 820), (145, .op 15), (129, .op 15), (119, .con 1), (79, .at 822), (78, .at 822), (75, .at 822), (74, .at 822), (71, .at 822), (70, .at 822), (63, .at 822), (53, .at 822), (50, .op 4), (47, .at 822)]
set_option maxHeartbeats 0 in
theorem run_nGcd5 {w : World} {P0 : Params} {b1 b2 : Bool} {τ τs : Nat} {p : Pos} {e1 : List Stmt} {e2 : Env} {p1 p2 : Pos} {a : Args} {x y : Int} {tx ty : Nat} {u : Nat → Nat} {F : Int → Nat → List (Nat × Nat) → List (Option Obj) → Prop} :
    sim (SR w (fol P0 b1 b2) [376, 377, 378, 379] id 794 822 [376, 377, 378, 379, 798] (FintO F) (consG (fol P0 b1 b2) true x y)) 2319 ⟨h_nGcd5, [(τ, fun _ => 0)]⟩ [] τ (puts .nil (nmI (fol P0 b1 b2) u ++ nm4 (fol P0 b1 b2) u 587 617 648 677)) 794 690 ⟨toldCode wGcd (Nat.add τs 690) x tx y ty, none, none, [(.func e1 e2, p1), (.builtin id_caller a, p2)], none⟩ p .base (den (toldCode wGcd (Nat.add τs 690) x tx y ty)) =
    (ads [] [820] (∀ (τ1 x1 : Nat), ∀ (τ2 x2 : Nat), ((consG (fol P0 b1 b2) true x y 1 [(τ2, fun _ => x2), (τ1, fun _ => x1), (τ, fun _ => 0)] [] τ2 822 841).code = (consG (fol P0 b1 b2) true x y 1 [(τ2, fun _ => x2), (τ1, fun _ => x1), (τ, fun _ => 0)] [] τ2 822 841).code) ∧ selfs (consG (fol P0 b1 b2) true x y 1 [(τ2, fun _ => x2), (τ1, fun _ => x1), (τ, fun _ => 0)] [] τ2 822 841).need ∧ ∀ (d : Nat) (_ : Nat) (_ : Nat → Nat), ads [(822, d)] [822, 822, 822, 822, 822, 822, 822, 822] ((¬ ((Builtin.Int.intBits ((Int.gcd (x.natAbs : Int) (y.natAbs : Int) : Int)) : Nat) : Int) > 100000) ∧ ads [(822, d)] [822] (F ((Int.gcd (x.natAbs : Int) (y.natAbs : Int) : Int)) 823 [(822, d)] ((nm5 (fol P0 b1 b2) (upd 3535 u (fresh 3535 τs τ)) 587 617 648 677 798 ++ [(798, key5 (upd 3535 u (fresh 3535 τs τ)))]).map fun (z : Nat × Obj) => some z.2))))) := by
  cases b1 <;> kernel_rfl
noncomputable def c_nGcd5 (P : Params) (u : Nat → Nat) (x : Int) (tx : Nat) (y : Int) (ty sg τ' n i : Nat) : Con := cTold wGcd (nmI P u ++ nm4 P u 587 617 648 677) (.grow 794 822) ((Int.gcd (x.natAbs : Int) (y.natAbs : Int) : Int)) (fun x' => nm5 P (updS 3535 u x') 587 617 648 677 798 ++ [(798, key5 (updS 3535 u x'))]) x tx y ty sg τ' i
theorem c_nGcd5_valid {w : World} {P0 : Params} {b1 b2 : Bool} (hP : fol P0 b1 b2 = w.params) {u : Nat → Nat} {x y : Int} (hb : ¬ ((Builtin.Int.intBits (Int.gcd (x.natAbs : Int) (y.natAbs : Int) : Int) : Nat) : Int) > 100000) {tx ty sg τ' n i : Nat} {U A st hi js F cons} (rs) (τ : Nat) :
    (c_nGcd5 (fol P0 b1 b2) u x tx y ty sg τ' n i).Valid (SR w (fol P0 b1 b2) U A st hi js F cons) rs τ := by
  unfold c_nGcd5
  unfold cTold
  split
  rotate_left
  · exact nocon_valid
  rename_i hi0
  obtain ⟨τs, hτ⟩ := tok_form (τ := τ') hi0
  rw [hτ]
  refine Con.valid_grow (hi := 822) (U := [376, 377, 378, 379]) (js := [376, 377, 378, 379, 798]) (cons := consG (fol P0 b1 b2) true x y) (SR_base hP) rfl rfl (by show 369 ≤ 794; omega) (by show 369 ≤ 822; omega) (by kernel_rfl) (fun _ _ => rfl) (fun _ _ => rfl) (fun _ => rfl) (by decide) (by show ∀ u ∈ [376, 377, 378, 379], 369 ≤ u ∧ u < 794 ∧ u ∈ [376, 377, 378, 379, 798]; decide) (consG_valid hP) ?_
  intro Γ p τr hok hc
  obtain ⟨l, hΓ, hs0⟩ := okS_is hok
  obtain ⟨e1, e2, p1, l, rfl, hs1⟩ := shp1 hs0
  obtain ⟨a, p2, rfl⟩ := shp4 hs1
  rw [hc] at hΓ
  rw [hΓ]
  refine ⟨FintO (fun v m rs os => v = (Int.gcd (x.natAbs : Int) (y.natAbs : Int) : Int) ∧ m = 823 ∧ (∃ d, rs = [(822, d)]) ∧ os = (nm5 (fol P0 b1 b2) (upd 3535 u (fresh 3535 τs τr)) 587 617 648 677 798 ++ [(798, key5 (upd 3535 u (fresh 3535 τs τr)))]).map fun (z : Nat × Obj) => some z.2), 2319, ⟨h_nGcd5, [(τr, fun _ => 0)]⟩, ?_, ?_⟩
  · intro e m rs' τ' j os hF
    obtain ⟨x0, t, rfl, rfl, rfl, ⟨d, rfl⟩, rfl⟩ := FintO_is hF
    exact ⟨(fun k => match k with | 0 => t | k + 1 => fresh 3535 τs τr k), d, rfl, by omega, rfl, by kernel_rfl⟩
  · refine cast (run_nGcd5).symm ?_
    exact ads_i (fun _ _ => fun _ _ => ⟨rfl, selfs_all _, fun _ _ _ => ads_i (⟨hb, ads_i (⟨rfl, rfl, ⟨_, rfl⟩, rfl⟩) _⟩) _⟩) _
end Mine
end
section
open PySem PySem.W PySem.W.X
namespace Mine
noncomputable def h_fDiv : List (Nat × H) := [(2024, .at 700), (2023, .at 700), (2020, .at 700), (2019, .at 700), (2016, .at 700), (2015, .at 700), (2012, .at 700), (2011, .at 700), (2002, .at 700), (1983, .at 700), (1973, .at 701), (1972, .at 701), (1969, .at 701), (1968, .at 701), (1965, .at 701), (1964, .at 701), (1957, .at 701), (1938, .at 701), (1919, .at 701), (1910, .at 702), (1909, .at 702), (1906, .at 702), (1905, .at 702), (1898, .at 702), (1873, .at 702), (1865, .op 0), (1859, .at 702), (1858, .at 702), (1854, .at 702), (1845, .at 702), (1841, .at 701), (1832, .at 703), (1831, .at 703), (1828, .at 703), (1827, .at 703), (1824, .at 703), (1823, .at 703), (1815, .at 703), (1813, .at 703), (1807, .at 703), (1806, .at 703), (1802, .at 703), (1777, .at 703), (1765, .at 704), (1764, .at 704), (1763, .at 704), (1760, .at 704), (1758, .at 704), (1744, .at 704), (1743, .at 704), (1742, .at 704), (1735, .at 704), (1732, .opAt 0 704), (1722, .at 703), (1721, .at 703), (1717, .at 703), (1708, .at 703), (1699, .at 700), (1694, .at 700), (1686, .at 700), (1685, .at 700), (1678, .at 700), (1676, .at 700), (1666, .at 709), (1665, .at 709), (1662, .at 709), (1661, .at 709), (1658, .at 709), (1657, .at 709), (1649, .at 709), (1643, .at 709), (1642, .at 709), (1633, .at 709), (1632, .at 709), (1627, .at 709), (1625, .at 710), (1624, .at 710), (1622, .at 710), (1620, .at 710), (1618, .at 710), (1610, .at 709), (1608, .at 710), (1607, .at 710), (1606, .at 710), (1605, .at 710), (1601, .at 710), (1599, .at 710), (1598, .at 710), (1597, .at 710), (1596, .at 710), (1589, .at 709), (1588, .at 709), (1584, .at 709), (1581, .at 708), (1580, .at 708), (1579, .at 708), (1577, .at 708), (1575, .at 708), (1569, .at 709), (1568, .at 709), (1564, .at 709), (1554, .at 709), (1545, .at 709), (1536, .at 709), (1525, .at 709), (1523, .at 709), (1520, .at 708), (1519, .at 708), (1518, .at 708), (1516, .at 708), (1514, .at 708), (1504, .at 712), (1503, .at 712), (1500, .at 712), (1499, .at 712), (1492, .at 712), (1473, .at 712), (1464, .at 713), (1463, .at 713), (1460, .at 713), (1459, .at 713), (1452, .at 713), (1433, .at 713), (1403, .at 712), (1402, .at 712), (1398, .at 712), (1379, .at 712), (1370, .at 714), (1369, .at 714), (1366, .at 714), (1365, .at 714), (1358, .at 714), (1339, .at 714), (1309, .at 712), (1308, .at 712), (1302, .at 712), (1283, .at 712), (1274, .at 715), (1273, .at 715), (1270, .at 715), (1269, .at 715), (1262, .at 715), (1243, .at 715), (1228, .at 712), (1219, .at 716), (1218, .at 716), (1215, .at 716), (1214, .at 716), (1207, .at 716), (1198, .at 716), (1189, .at 716), (1143, .at 709), (1141, .at 710), (1140, .at 710), (1139, .at 710), (1138, .at 710), (1132, .at 709), (1129, .at 708), (1128, .at 708), (1127, .at 708), (1125, .at 708), (1123, .at 708), (1118, .at 710), (1116, .at 710), (1115, .at 710), (1114, .at 710), (1106, .at 709), (1103, .at 708), (1102, .at 708), (1101, .at 708), (1099, .at 708), (1097, .at 708), (1090, .at 707), (1089, .at 707), (1088, .at 707), (1085, .at 707), (1083, .at 707), (1081, .at 707), (1073, .at 718), (1072, .at 718), (1070, .at 718), (1068, .at 718), (1063, .at 718), (1062, .at 718), (1059, .at 718), (1056, .at 718), (1053, .at 718), (1051, .at 718), (1049, .at 718), (1048, .at 718), (1047, .at 707), (1045, .at 707), (1044, .at 707), (1042, .at 707), (1040, .at 707), (1038, .at 718), (1037, .at 718), (1036, .at 718), (1030, .at 709), (1029, .at 709), (1025, .at 709), (1023, .at 710), (1022, .at 710), (1021, .at 710), (1020, .at 710), (1017, .at 709), (1014, .at 710), (1012, .at 710), (1011, .at 710), (1010, .at 710), (1005, .at 718), (1003, .at 718), (1001, .at 718), (1000, .at 718), (999, .at 707), (997, .at 707), (996, .at 707), (994, .at 707), (992, .at 707), (990, .at 718), (989, .at 718), (988, .at 718), (982, .at 709), (981, .at 709), (977, .at 709), (975, .at 710), (974, .at 710), (973, .at 710), (972, .at 710), (969, .at 709), (966, .at 710), (964, .at 710), (963, .at 710), (962, .at 710), (957, .at 718), (955, .at 718), (953, .at 718), (952, .at 718), (950, .at 718), (949, .at 718), (948, .at 718), (947, .at 718), (942, .at 720), (937, .at 709), (935, .at 710), (934, .at 710), (932, .at 710), (930, .at 710), (928, .at 710), (920, .at 709), (918, .at 710), (917, .at 710), (916, .at 710), (915, .at 710), (911, .at 710), (909, .at 710), (908, .at 710), (907, .at 710), (906, .at 710), (899, .at 709), (898, .at 709), (894, .at 709), (891, .at 705), (890, .at 705), (889, .at 705), (887, .at 705), (885, .at 705), (879, .at 709), (878, .at 709), (874, .at 709), (864, .at 709), (855, .at 709), (853, .at 711), (852, .at 711), (851, .at 711), (850, .at 711), (847, .at 709), (844, .at 705), (843, .at 705), (842, .at 705), (840, .at 705), (838, .at 705), (834, .at 711), (832, .at 711), (831, .at 711), (830, .at 711), (825, .at 709), (823, .at 710), (822, .at 710), (820, .at 710), (818, .at 710), (816, .at 710), (808, .at 709), (806, .at 710), (805, .at 710), (804, .at 710), (803, .at 710), (799, .at 710), (797, .at 710), (796, .at 710), (795, .at 710), (794, .at 710), (787, .at 709), (786, .at 709), (782, .at 709), (779, .at 706), (778, .at 706), (777, .at 706), (775, .at 706), (773, .at 706), (767, .at 709), (766, .at 709), (762, .at 709), (752, .at 709), (743, .at 709), (741, .at 711), (740, .at 711), (739, .at 711), (738, .at 711), (735, .at 709), (732, .at 706), (731, .at 706), (730, .at 706), (728, .at 706), (726, .at 706), (722, .at 711), (720, .at 711), (719, .at 711), (718, .at 711), (713, .at 709), (711, .at 710), (710, .at 710), (708, .at 710), (706, .at 710), (704, .at 710), (696, .at 709), (694, .at 710), (693, .at 710), (692, .at 710), (691, .at 710), (687, .at 710), (685, .at 710), (684, .at 710), (683, .at 710), (682, .at 710), (675, .at 709), (674, .at 709), (670, .at 709), (667, .at 717), (666, .at 717), (665, .at 717), (663, .at 717), (661, .at 717), (655, .at 709), (654, .at 709), (650, .at 709), (638, .at 709), (636, .at 709), (633, .at 717), (632, .at 717), (631, .at 717), (629, .at 717), (627, .at 717), (624, .at 709), (622, .at 709), (613, .at 721), (612, .at 721), (609, .at 721), (608, .at 721), (605, .at 721), (604, .at 721), (601, .at 721), (600, .at 721), (593, .at 721), (574, .at 721), (555, .at 721), (546, .at 722), (545, .at 722), (542, .at 722), (541, .at 722), (534, .at 722), (515, .at 722), (481, .at 723), (480, .at 723), (477, .at 723), (476, .at 723), (469, .at 723), (450, .at 723), (432, .at 721), (431, .at 721), (427, .at 721), (425, .at 711), (424, .at 711), (423, .at 711), (422, .at 711), (418, .at 711), (416, .at 711), (415, .at 711), (414, .at 711), (413, .at 711), (406, .at 721), (405, .at 721), (401, .at 721), (382, .at 721), (373, .at 724), (372, .at 724), (369, .at 724), (368, .at 724), (361, .at 724), (342, .at 724), (308, .at 721), (306, .at 711), (305, .at 711), (304, .at 711), (303, .at 711), (299, .at 711), (297, .at 711), (296, .at 711), (295, .at 711), (294, .at 711), (287, .at 721), (286, .at 721), (280, .at 721), (278, .at 721), (276, .at 721), (274, .at 721), (272, .at 721), (263, .at 725), (262, .at 725), (259, .at 725), (258, .at 725), (255, .at 725), (254, .at 725), (251, .at 725), (250, .at 725), (247, .at 725), (246, .at 725), (239, .at 725), (231, .at 725), (222, .at 725), (213, .at 725), (204, .at 725), (196, .at 726), (195, .at 726), (194, .opAt 1 726), (189, .at 725), (187, .at 725), (185, .at 725), (183, .at 725), (174, .at 727), (173, .at 727), (170, .at 727), (169, .at 727), (166, .at 727), (165, .at 727), (162, .at 727), (161, .at 727), (154, .at 727), (150, .op 10), (147, .at 727), (138, .at 727), (129, .at 727), (120, .at 727), (118, .at 727), (116, .op 16), (107, .at 721), (106, .at 721), (102, .at 721), (100, .at 711), (99, .at 711), (98, .at 711), (97, .at 711), (92, .at 721), (90, .at 721), (88, .at 721), (79, .at 728), (78, .at 728), (75, .at 728), (74, .at 728), (71, .at 728), (70, .at 728), (63, .at 728), (53, .at 728), (50, .op 4), (47, .at 728), (42, .at 711), (40, .at 711), (39, .at 711), (38, .at 711), (31, .at 709), (29, .at 710), (28, .at 710), (26, .at 710), (24, .at 710), (22, .at 710), (13, .at 709), (10, .at 711), (9, .at 711), (8, .at 711), (6, .at 711), (4, .at 711)]
noncomputable def h_fMod : List (Nat × H) := [(2020, .at 700), (2019, .at 700), (2016, .at 700), (2015, .at 700), (2012, .at 700), (2011, .at 700), (2008, .at 700), (2007, .at 700), (1998, .at 700), (1979, .at 700), (1969, .at 701), (1968, .at 701), (1965, .at 701), (1964, .at 701), (1961, .at 701), (1960, .at 701), (1953, .at 701), (1934, .at 701), (1915, .at 701), (1906, .at 702), (1905, .at 702), (1902, .at 702), (1901, .at 702), (1894, .at 702), (1869, .at 702), (1861, .op 0), (1855, .at 702), (1854, .at 702), (1850, .at 702), (1841, .at 702), (1837, .at 701), (1828, .at 703), (1827, .at 703), (1824, .at 703), (1823, .at 703), (1820, .at 703), (1819, .at 703), (1811, .at 703), (1809, .at 703), (1803, .at 703), (1802, .at 703), (1798, .at 703), (1773, .at 703), (1761, .at 704), (1760, .at 704), (1759, .at 704), (1756, .at 704), (1754, .at 704), (1740, .at 704), (1739, .at 704), (1738, .at 704), (1731, .at 704), (1728, .opAt 0 704), (1718, .at 703), (1717, .at 703), (1713, .at 703), (1704, .at 703), (1695, .at 700), (1690, .at 700), (1682, .at 700), (1681, .at 700), (1674, .at 700), (1672, .at 700), (1662, .at 709), (1661, .at 709), (1658, .at 709), (1657, .at 709), (1654, .at 709), (1653, .at 709), (1645, .at 709), (1639, .at 709), (1638, .at 709), (1629, .at 709), (1628, .at 709), (1623, .at 709), (1621, .at 710), (1620, .at 710), (1618, .at 710), (1616, .at 710), (1614, .at 710), (1606, .at 709), (1604, .at 710), (1603, .at 710), (1602, .at 710), (1601, .at 710), (1597, .at 710), (1595, .at 710), (1594, .at 710), (1593, .at 710), (1592, .at 710), (1585, .at 709), (1584, .at 709), (1580, .at 709), (1577, .at 708), (1576, .at 708), (1575, .at 708), (1573, .at 708), (1571, .at 708), (1565, .at 709), (1564, .at 709), (1560, .at 709), (1550, .at 709), (1541, .at 709), (1532, .at 709), (1521, .at 709), (1519, .at 709), (1516, .at 708), (1515, .at 708), (1514, .at 708), (1512, .at 708), (1510, .at 708), (1500, .at 712), (1499, .at 712), (1496, .at 712), (1495, .at 712), (1488, .at 712), (1469, .at 712), (1460, .at 713), (1459, .at 713), (1456, .at 713), (1455, .at 713), (1448, .at 713), (1429, .at 713), (1399, .at 712), (1398, .at 712), (1394, .at 712), (1375, .at 712), (1366, .at 714), (1365, .at 714), (1362, .at 714), (1361, .at 714), (1354, .at 714), (1335, .at 714), (1305, .at 712), (1304, .at 712), (1298, .at 712), (1279, .at 712), (1270, .at 715), (1269, .at 715), (1266, .at 715), (1265, .at 715), (1258, .at 715), (1239, .at 715), (1224, .at 712), (1215, .at 716), (1214, .at 716), (1211, .at 716), (1210, .at 716), (1203, .at 716), (1194, .at 716), (1185, .at 716), (1143, .at 709), (1141, .at 710), (1140, .at 710), (1139, .at 710), (1138, .at 710), (1132, .at 709), (1129, .at 708), (1128, .at 708), (1127, .at 708), (1125, .at 708), (1123, .at 708), (1118, .at 710), (1116, .at 710), (1115, .at 710), (1114, .at 710), (1106, .at 709), (1103, .at 708), (1102, .at 708), (1101, .at 708), (1099, .at 708), (1097, .at 708), (1090, .at 707), (1089, .at 707), (1088, .at 707), (1085, .at 707), (1083, .at 707), (1081, .at 707), (1073, .at 718), (1072, .at 718), (1070, .at 718), (1068, .at 718), (1063, .at 718), (1062, .at 718), (1059, .at 718), (1056, .at 718), (1053, .at 718), (1051, .at 718), (1049, .at 718), (1048, .at 718), (1047, .at 707), (1045, .at 707), (1044, .at 707), (1042, .at 707), (1040, .at 707), (1038, .at 718), (1037, .at 718), (1036, .at 718), (1030, .at 709), (1029, .at 709), (1025, .at 709), (1023, .at 710), (1022, .at 710), (1021, .at 710), (1020, .at 710), (1017, .at 709), (1014, .at 710), (1012, .at 710), (1011, .at 710), (1010, .at 710), (1005, .at 718), (1003, .at 718), (1001, .at 718), (1000, .at 718), (999, .at 707), (997, .at 707), (996, .at 707), (994, .at 707), (992, .at 707), (990, .at 718), (989, .at 718), (988, .at 718), (982, .at 709), (981, .at 709), (977, .at 709), (975, .at 710), (974, .at 710), (973, .at 710), (972, .at 710), (969, .at 709), (966, .at 710), (964, .at 710), (963, .at 710), (962, .at 710), (957, .at 718), (955, .at 718), (953, .at 718), (952, .at 718), (950, .at 718), (949, .at 718), (948, .at 718), (947, .at 718), (942, .at 720), (937, .at 709), (935, .at 710), (934, .at 710), (932, .at 710), (930, .at 710), (928, .at 710), (920, .at 709), (918, .at 710), (917, .at 710), (916, .at 710), (915, .at 710), (911, .at 710), (909, .at 710), (908, .at 710), (907, .at 710), (906, .at 710), (899, .at 709), (898, .at 709), (894, .at 709), (891, .at 705), (890, .at 705), (889, .at 705), (887, .at 705), (885, .at 705), (879, .at 709), (878, .at 709), (874, .at 709), (864, .at 709), (855, .at 709), (853, .at 711), (852, .at 711), (851, .at 711), (850, .at 711), (847, .at 709), (844, .at 705), (843, .at 705), (842, .at 705), (840, .at 705), (838, .at 705), (834, .at 711), (832, .at 711), (831, .at 711), (830, .at 711), (825, .at 709), (823, .at 710), (822, .at 710), (820, .at 710), (818, .at 710), (816, .at 710), (808, .at 709), (806, .at 710), (805, .at 710), (804, .at 710), (803, .at 710), (799, .at 710), (797, .at 710), (796, .at 710), (795, .at 710), (794, .at 710), (787, .at 709), (786, .at 709), (782, .at 709), (779, .at 706), (778, .at 706), (777, .at 706), (775, .at 706), (773, .at 706), (767, .at 709), (766, .at 709), (762, .at 709), (752, .at 709), (743, .at 709), (741, .at 711), (740, .at 711), (739, .at 711), (738, .at 711), (735, .at 709), (732, .at 706), (731, .at 706), (730, .at 706), (728, .at 706), (726, .at 706), (722, .at 711), (720, .at 711), (719, .at 711), (718, .at 711), (713, .at 709), (711, .at 710), (710, .at 710), (708, .at 710), (706, .at 710), (704, .at 710), (696, .at 709), (694, .at 710), (693, .at 710), (692, .at 710), (691, .at 710), (687, .at 710), (685, .at 710), (684, .at 710), (683, .at 710), (682, .at 710), (675, .at 709), (674, .at 709), (670, .at 709), (667, .at 717), (666, .at 717), (665, .at 717), (663, .at 717), (661, .at 717), (655, .at 709), (654, .at 709), (650, .at 709), (638, .at 709), (636, .at 709), (633, .at 717), (632, .at 717), (631, .at 717), (629, .at 717), (627, .at 717), (624, .at 709), (622, .at 709), (613, .at 721), (612, .at 721), (609, .at 721), (608, .at 721), (605, .at 721), (604, .at 721), (601, .at 721), (600, .at 721), (593, .at 721), (574, .at 721), (555, .at 721), (546, .at 722), (545, .at 722), (542, .at 722), (541, .at 722), (534, .at 722), (515, .at 722), (481, .at 723), (480, .at 723), (477, .at 723), (476, .at 723), (469, .at 723), (450, .at 723), (432, .at 721), (431, .at 721), (427, .at 721), (425, .at 711), (424, .at 711), (423, .at 711), (422, .at 711), (418, .at 711), (416, .at 711), (415, .at 711), (414, .at 711), (413, .at 711), (406, .at 721), (405, .at 721), (401, .at 721), (382, .at 721), (373, .at 724), (372, .at 724), (369, .at 724), (368, .at 724), (361, .at 724), (342, .at 724), (308, .at 721), (306, .at 711), (305, .at 711), (304, .at 711), (303, .at 711), (299, .at 711), (297, .at 711), (296, .at 711), (295, .at 711), (294, .at 711), (287, .at 721), (286, .at 721), (280, .at 721), (278, .at 721), (276, .at 721), (274, .at 721), (272, .at 721), (263, .at 725), (262, .at 725), (259, .at 725), (258, .at 725), (255, .at 725), (254, .at 725), (251, .at 725), (250, .at 725), (247, .at 725), (246, .at 725), (239, .at 725), (231, .at 725), (222, .at 725), (213, .at 725), (204, .at 725), (196, .at 726), (195, .at 726), (194, .opAt 1 726), (189, .at 725), (187, .at 725), (185, .at 725), (183, .at 725), (174, .at 727), (173, .at 727), (170, .at 727), (169, .at 727), (166, .at 727), (165, .at 727), (162, .at 727), (161, .at 727), (154, .at 727), (150, .op 10), (147, .at 727), (138, .at 727), (129, .at 727), (120, .at 727), (118, .at 727), (116, .op 17), (107, .at 721), (106, .at 721), (102, .at 721), (100, .at 711), (99, .at 711), (98, .at 711), (97, .at 711), (92, .at 721), (90, .at 721), (88, .at 721), (79, .at 728), (78, .at 728), (75, .at 728), (74, .at 728), (71, .at 728), (70, .at 728), (63, .at 728), (53, .at 728), (50, .op 4), (47, .at 728), (42, .at 711), (40, .at 711), (39, .at 711), (38, .at 711), (31, .at 709), (29, .at 710), (28, .at 710), (26, .at 710), (24, .at 710), (22, .at 710), (13, .at 709), (10, .at 711), (9, .at 711), (8, .at 711), (6, .at 711), (4, .at 711)]
noncomputable def h_fDtz0 : List (Nat × H) := [(1839, .op 0), (1706, .opAt 0 705), (180, .opAt 1 727), (136, .op 10), (117, .con 0), (50, .op 4)]
set_option maxHeartbeats 0 in
theorem run_fDtz0 {w : World} {P0 : Params} {b1 b2 : Bool} {τ τs : Nat} {p : Pos} {e1 : List Stmt} {e2 : Env} {p1 p2 : Pos} {a : Args} {x y : Int} {tx ty : Nat} {u : Nat → Nat} {F : Int → Nat → List (Nat × Nat) → List (Option Obj) → Prop} :
    sim (SR w (fol P0 b1 b2) [] id 701 1000 [] (FintO F) (consD [1, 1, 1, 3, 1, 1, 1, 4] x y tx ty)) 2004 ⟨h_fDtz0, []⟩ [] τ (puts .nil (nmI (fol P0 b1 b2) u ++ nm4 (fol P0 b1 b2) u 586 616 647 676 ++ [(586, key1 u)])) 701 690 ⟨toldCode wDtz (Nat.add τs 690) x tx y ty, none, none, [(.func e1 e2, p1), (.builtin id_caller a, p2)], none⟩ p .base (den (toldCode wDtz (Nat.add τs 690) x tx y ty)) =
    (ads [] [705, 727] ((¬ y = 0) ∧ ((cDz [1, 1, 1, 3, 1, 1, 1, 4] x y tx ty 729).code = (cDz [1, 1, 1, 3, 1, 1, 1, 4] x y tx ty 729).code) ∧ selfs (cDz [1, 1, 1, 3, 1, 1, 1, 4] x y tx ty 729).need ∧ ∀ (_ : Nat) (_ : Nat → Nat), (¬ ((Builtin.Int.intBits (dtzV x y) : Nat) : Int) > 100000) ∧ F (dtzV x y) 731 [] [])) := by
  cases b1 <;> kernel_rfl
noncomputable def c_fDtz0 (P : Params) (u : Nat → Nat) (x : Int) (tx : Nat) (y : Int) (ty sg τ' n i : Nat) : Con := cTold wDtz (nmI P u ++ nm4 P u 586 616 647 676 ++ [(586, key1 u)]) (.lit 701 731) (dtzV x y) (fun _ => []) x tx y ty sg τ' i
theorem c_fDtz0_valid {w : World} {P0 : Params} {b1 b2 : Bool} (hP : fol P0 b1 b2 = w.params) {u : Nat → Nat} {x y : Int} (hy : y ≠ 0) (hq : Builtin.divisionGoesByPylong (x.natAbs : Int) (y.natAbs : Int) = false) (hb : ¬ ((Builtin.Int.intBits (dtzV x y) : Nat) : Int) > 100000) {tx ty sg τ' n i : Nat} {U A st hi js F cons} (rs) (τ : Nat) :
    (c_fDtz0 (fol P0 b1 b2) u x tx y ty sg τ' n i).Valid (SR w (fol P0 b1 b2) U A st hi js F cons) rs τ := by
  unfold c_fDtz0
  unfold cTold
  split
  rotate_left
  · exact nocon_valid
  rename_i hi0
  obtain ⟨τs, hτ⟩ := tok_form (τ := τ') hi0
  rw [hτ]
  refine Con.valid_heap (hi := 1000) (U := []) (js := []) (cons := consD [1, 1, 1, 3, 1, 1, 1, 4] x y tx ty) (SR_base hP) rfl rfl (by show 369 ≤ 701; omega) (by show 369 ≤ 1000; omega) (by kernel_rfl) (fun _ _ => rfl) (fun _ _ => rfl) (fun _ => rfl) (fun _ h => (nomatch h)) (consD1_valid hP hy hq) ?_
  intro Γ p τr hok hc
  obtain ⟨l, hΓ, hs0⟩ := okS_is hok
  obtain ⟨e1, e2, p1, l, rfl, hs1⟩ := shp1 hs0
  obtain ⟨a, p2, rfl⟩ := shp4 hs1
  rw [hc] at hΓ
  rw [hΓ]
  refine ⟨FintO (fun v m rs os => v = dtzV x y ∧ m = 731 ∧ rs = [] ∧ os = []), 2004, ⟨h_fDtz0, []⟩, ?_, ?_⟩
  · intro e m rs' τ' j os hF
    obtain ⟨x0, t, rfl, rfl, rfl, rfl, rfl⟩ := FintO_is hF
    exact ⟨fun _ => t, rfl, rfl, rfl, rfl⟩
  · refine cast (run_fDtz0).symm ?_
    exact ads_i (⟨hy, ⟨rfl, selfs_all _, fun _ _ => ⟨hb, ⟨rfl, rfl, rfl, rfl⟩⟩⟩⟩) _
noncomputable def h_fDtz1 : List (Nat × H) := [(1839, .op 0), (1706, .opAt 0 706), (180, .opAt 1 728), (136, .op 10), (117, .con 0), (50, .op 4)]
set_option maxHeartbeats 0 in
theorem run_fDtz1 {w : World} {P0 : Params} {b1 b2 : Bool} {τ τs : Nat} {p : Pos} {e1 : List Stmt} {e2 : Env} {p1 p2 : Pos} {a : Args} {x y : Int} {tx ty : Nat} {u : Nat → Nat} {F : Int → Nat → List (Nat × Nat) → List (Option Obj) → Prop} :
    sim (SR w (fol P0 b1 b2) [] id 702 1000 [] (FintO F) (consD [1, 1, 1, 3, 1, 1, 1, 4] x y tx ty)) 2004 ⟨h_fDtz1, []⟩ [] τ (puts .nil (nmI (fol P0 b1 b2) u ++ nm4 (fol P0 b1 b2) u 587 617 648 677 ++ [(587, key1 u)])) 702 690 ⟨toldCode wDtz (Nat.add τs 690) x tx y ty, none, none, [(.func e1 e2, p1), (.builtin id_caller a, p2)], none⟩ p .base (den (toldCode wDtz (Nat.add τs 690) x tx y ty)) =
    (ads [] [706, 728] ((¬ y = 0) ∧ ((cDz [1, 1, 1, 3, 1, 1, 1, 4] x y tx ty 730).code = (cDz [1, 1, 1, 3, 1, 1, 1, 4] x y tx ty 730).code) ∧ selfs (cDz [1, 1, 1, 3, 1, 1, 1, 4] x y tx ty 730).need ∧ ∀ (_ : Nat) (_ : Nat → Nat), (¬ ((Builtin.Int.intBits (dtzV x y) : Nat) : Int) > 100000) ∧ F (dtzV x y) 732 [] [])) := by
  cases b1 <;> kernel_rfl
noncomputable def c_fDtz1 (P : Params) (u : Nat → Nat) (x : Int) (tx : Nat) (y : Int) (ty sg τ' n i : Nat) : Con := cTold wDtz (nmI P u ++ nm4 P u 587 617 648 677 ++ [(587, key1 u)]) (.lit 702 732) (dtzV x y) (fun _ => []) x tx y ty sg τ' i
theorem c_fDtz1_valid {w : World} {P0 : Params} {b1 b2 : Bool} (hP : fol P0 b1 b2 = w.params) {u : Nat → Nat} {x y : Int} (hy : y ≠ 0) (hq : Builtin.divisionGoesByPylong (x.natAbs : Int) (y.natAbs : Int) = false) (hb : ¬ ((Builtin.Int.intBits (dtzV x y) : Nat) : Int) > 100000) {tx ty sg τ' n i : Nat} {U A st hi js F cons} (rs) (τ : Nat) :
    (c_fDtz1 (fol P0 b1 b2) u x tx y ty sg τ' n i).Valid (SR w (fol P0 b1 b2) U A st hi js F cons) rs τ := by
  unfold c_fDtz1
  unfold cTold
  split
  rotate_left
  · exact nocon_valid
  rename_i hi0
  obtain ⟨τs, hτ⟩ := tok_form (τ := τ') hi0
  rw [hτ]
  refine Con.valid_heap (hi := 1000) (U := []) (js := []) (cons := consD [1, 1, 1, 3, 1, 1, 1, 4] x y tx ty) (SR_base hP) rfl rfl (by show 369 ≤ 702; omega) (by show 369 ≤ 1000; omega) (by kernel_rfl) (fun _ _ => rfl) (fun _ _ => rfl) (fun _ => rfl) (fun _ h => (nomatch h)) (consD1_valid hP hy hq) ?_
  intro Γ p τr hok hc
  obtain ⟨l, hΓ, hs0⟩ := okS_is hok
  obtain ⟨e1, e2, p1, l, rfl, hs1⟩ := shp1 hs0
  obtain ⟨a, p2, rfl⟩ := shp4 hs1
  rw [hc] at hΓ
  rw [hΓ]
  refine ⟨FintO (fun v m rs os => v = dtzV x y ∧ m = 732 ∧ rs = [] ∧ os = []), 2004, ⟨h_fDtz1, []⟩, ?_, ?_⟩
  · intro e m rs' τ' j os hF
    obtain ⟨x0, t, rfl, rfl, rfl, rfl, rfl⟩ := FintO_is hF
    exact ⟨fun _ => t, rfl, rfl, rfl, rfl⟩
  · refine cast (run_fDtz1).symm ?_
    exact ads_i (⟨hy, ⟨rfl, selfs_all _, fun _ _ => ⟨hb, ⟨rfl, rfl, rfl, rfl⟩⟩⟩⟩) _
noncomputable def h_fDtz4 : List (Nat × H) := [(1839, .op 0), (1706, .opAt 0 709), (180, .opAt 1 731), (136, .op 10), (117, .con 0), (50, .op 4)]
set_option maxHeartbeats 0 in
theorem run_fDtz4 {w : World} {P0 : Params} {b1 b2 : Bool} {τ τs : Nat} {p : Pos} {e1 : List Stmt} {e2 : Env} {p1 p2 : Pos} {a : Args} {x y : Int} {tx ty : Nat} {u : Nat → Nat} {F : Int → Nat → List (Nat × Nat) → List (Option Obj) → Prop} :
    sim (SR w (fol P0 b1 b2) [] id 705 1000 [] (FintO F) (consD [1, 1, 1, 3, 1, 1, 1, 4] x y tx ty)) 2004 ⟨h_fDtz4, []⟩ [] τ (puts .nil (nmI (fol P0 b1 b2) u ++ nm4 (fol P0 b1 b2) u 586 616 647 676 ++ [(586, key1 u)])) 705 690 ⟨toldCode wDtz (Nat.add τs 690) x tx y ty, none, none, [(.func e1 e2, p1), (.builtin id_caller a, p2)], none⟩ p .base (den (toldCode wDtz (Nat.add τs 690) x tx y ty)) =
    (ads [] [709, 731] ((¬ y = 0) ∧ ((cDz [1, 1, 1, 3, 1, 1, 1, 4] x y tx ty 733).code = (cDz [1, 1, 1, 3, 1, 1, 1, 4] x y tx ty 733).code) ∧ selfs (cDz [1, 1, 1, 3, 1, 1, 1, 4] x y tx ty 733).need ∧ ∀ (_ : Nat) (_ : Nat → Nat), (¬ ((Builtin.Int.intBits (dtzV x y) : Nat) : Int) > 100000) ∧ F (dtzV x y) 735 [] [])) := by
  cases b1 <;> kernel_rfl
noncomputable def c_fDtz4 (P : Params) (u : Nat → Nat) (x : Int) (tx : Nat) (y : Int) (ty sg τ' n i : Nat) : Con := cTold wDtz (nmI P u ++ nm4 P u 586 616 647 676 ++ [(586, key1 u)]) (.lit 705 735) (dtzV x y) (fun _ => []) x tx y ty sg τ' i
theorem c_fDtz4_valid {w : World} {P0 : Params} {b1 b2 : Bool} (hP : fol P0 b1 b2 = w.params) {u : Nat → Nat} {x y : Int} (hy : y ≠ 0) (hq : Builtin.divisionGoesByPylong (x.natAbs : Int) (y.natAbs : Int) = false) (hb : ¬ ((Builtin.Int.intBits (dtzV x y) : Nat) : Int) > 100000) {tx ty sg τ' n i : Nat} {U A st hi js F cons} (rs) (τ : Nat) :
    (c_fDtz4 (fol P0 b1 b2) u x tx y ty sg τ' n i).Valid (SR w (fol P0 b1 b2) U A st hi js F cons) rs τ := by
  unfold c_fDtz4
  unfold cTold
  split
  rotate_left
  · exact nocon_valid
  rename_i hi0
  obtain ⟨τs, hτ⟩ := tok_form (τ := τ') hi0
  rw [hτ]
  refine Con.valid_heap (hi := 1000) (U := []) (js := []) (cons := consD [1, 1, 1, 3, 1, 1, 1, 4] x y tx ty) (SR_base hP) rfl rfl (by show 369 ≤ 705; omega) (by show 369 ≤ 1000; omega) (by kernel_rfl) (fun _ _ => rfl) (fun _ _ => rfl) (fun _ => rfl) (fun _ h => (nomatch h)) (consD1_valid hP hy hq) ?_
  intro Γ p τr hok hc
  obtain ⟨l, hΓ, hs0⟩ := okS_is hok
  obtain ⟨e1, e2, p1, l, rfl, hs1⟩ := shp1 hs0
  obtain ⟨a, p2, rfl⟩ := shp4 hs1
  rw [hc] at hΓ
  rw [hΓ]
  refine ⟨FintO (fun v m rs os => v = dtzV x y ∧ m = 735 ∧ rs = [] ∧ os = []), 2004, ⟨h_fDtz4, []⟩, ?_, ?_⟩
  · intro e m rs' τ' j os hF
    obtain ⟨x0, t, rfl, rfl, rfl, rfl, rfl⟩ := FintO_is hF
    exact ⟨fun _ => t, rfl, rfl, rfl, rfl⟩
  · refine cast (run_fDtz4).symm ?_
    exact ads_i (⟨hy, ⟨rfl, selfs_all _, fun _ _ => ⟨hb, ⟨rfl, rfl, rfl, rfl⟩⟩⟩⟩) _
noncomputable def h_fDtz5 : List (Nat × H) := [(1839, .op 0), (1706, .opAt 0 710), (180, .opAt 1 732), (136, .op 10), (117, .con 0), (50, .op 4)]
set_option maxHeartbeats 0 in
theorem run_fDtz5 {w : World} {P0 : Params} {b1 b2 : Bool} {τ τs : Nat} {p : Pos} {e1 : List Stmt} {e2 : Env} {p1 p2 : Pos} {a : Args} {x y : Int} {tx ty : Nat} {u : Nat → Nat} {F : Int → Nat → List (Nat × Nat) → List (Option Obj) → Prop} :
    sim (SR w (fol P0 b1 b2) [] id 706 1000 [] (FintO F) (consD [1, 1, 1, 3, 1, 1, 1, 4] x y tx ty)) 2004 ⟨h_fDtz5, []⟩ [] τ (puts .nil (nmI (fol P0 b1 b2) u ++ nm4 (fol P0 b1 b2) u 587 617 648 677 ++ [(587, key1 u)])) 706 690 ⟨toldCode wDtz (Nat.add τs 690) x tx y ty, none, none, [(.func e1 e2, p1), (.builtin id_caller a, p2)], none⟩ p .base (den (toldCode wDtz (Nat.add τs 690) x tx y ty)) =
    (ads [] [710, 732] ((¬ y = 0) ∧ ((cDz [1, 1, 1, 3, 1, 1, 1, 4] x y tx ty 734).code = (cDz [1, 1, 1, 3, 1, 1, 1, 4] x y tx ty 734).code) ∧ selfs (cDz [1, 1, 1, 3, 1, 1, 1, 4] x y tx ty 734).need ∧ ∀ (_ : Nat) (_ : Nat → Nat), (¬ ((Builtin.Int.intBits (dtzV x y) : Nat) : Int) > 100000) ∧ F (dtzV x y) 736 [] [])) := by
  cases b1 <;> kernel_rfl
noncomputable def c_fDtz5 (P : Params) (u : Nat → Nat) (x : Int) (tx : Nat) (y : Int) (ty sg τ' n i : Nat) : Con := cTold wDtz (nmI P u ++ nm4 P u 587 617 648 677 ++ [(587, key1 u)]) (.lit 706 736) (dtzV x y) (fun _ => []) x tx y ty sg τ' i
theorem c_fDtz5_valid {w : World} {P0 : Params} {b1 b2 : Bool} (hP : fol P0 b1 b2 = w.params) {u : Nat → Nat} {x y : Int} (hy : y ≠ 0) (hq : Builtin.divisionGoesByPylong (x.natAbs : Int) (y.natAbs : Int) = false) (hb : ¬ ((Builtin.Int.intBits (dtzV x y) : Nat) : Int) > 100000) {tx ty sg τ' n i : Nat} {U A st hi js F cons} (rs) (τ : Nat) :
    (c_fDtz5 (fol P0 b1 b2) u x tx y ty sg τ' n i).Valid (SR w (fol P0 b1 b2) U A st hi js F cons) rs τ := by
  unfold c_fDtz5
  unfold cTold
  split
  rotate_left
  · exact nocon_valid
  rename_i hi0
  obtain ⟨τs, hτ⟩ := tok_form (τ := τ') hi0
  rw [hτ]
  refine Con.valid_heap (hi := 1000) (U := []) (js := []) (cons := consD [1, 1, 1, 3, 1, 1, 1, 4] x y tx ty) (SR_base hP) rfl rfl (by show 369 ≤ 706; omega) (by show 369 ≤ 1000; omega) (by kernel_rfl) (fun _ _ => rfl) (fun _ _ => rfl) (fun _ => rfl) (fun _ h => (nomatch h)) (consD1_valid hP hy hq) ?_
  intro Γ p τr hok hc
  obtain ⟨l, hΓ, hs0⟩ := okS_is hok
  obtain ⟨e1, e2, p1, l, rfl, hs1⟩ := shp1 hs0
  obtain ⟨a, p2, rfl⟩ := shp4 hs1
  rw [hc] at hΓ
  rw [hΓ]
  refine ⟨FintO (fun v m rs os => v = dtzV x y ∧ m = 736 ∧ rs = [] ∧ os = []), 2004, ⟨h_fDtz5, []⟩, ?_, ?_⟩
  · intro e m rs' τ' j os hF
    obtain ⟨x0, t, rfl, rfl, rfl, rfl, rfl⟩ := FintO_is hF
    exact ⟨fun _ => t, rfl, rfl, rfl, rfl⟩
  · refine cast (run_fDtz5).symm ?_
    exact ads_i (⟨hy, ⟨rfl, selfs_all _, fun _ _ => ⟨hb, ⟨rfl, rfl, rfl, rfl⟩⟩⟩⟩) _
set_option maxHeartbeats 0 in
theorem run_fDiv0 {w : World} {P0 : Params} {b1 b2 : Bool} {τ τs δ : Nat} {p : Pos} {e1 : List Stmt} {e2 : Env} {p1 p2 : Pos} {a : Args} {x y : Int} {tx ty : Nat} {u : Nat → Nat} {F : Int → Nat → List (Nat × Nat) → List (Option Obj) → Prop} :
    sim (SR w (fol P0 b1 b2) [] id 700 700 [] (FintO F) noc) 2030 ⟨h_fDiv, []⟩ [(700, δ)] τ (puts .nil (nmI (fol P0 b1 b2) u ++ nm4 (fol P0 b1 b2) u 586 616 647 676 ++ [(647, key3 u)])) 700 690 ⟨toldCode wDiv (Nat.add τs 690) x tx y ty, none, none, [(.func e1 e2, p1), (.builtin id_caller a, p2)], none⟩ p .base (den (toldCode wDiv (Nat.add τs 690) x tx y ty)) =
    (ads [(700, δ)] [700, 700, 700, 700, 700, 700, 700, 700, 700, 700, 701, 701, 701, 701, 701, 701, 701, 701, 701, 702, 702, 702, 702, 702, 702, 702, 702, 702, 702, 701, 703, 703, 703, 703, 703, 703, 703, 703, 703, 703, 703, 703, 704, 704, 704, 704, 704, 704, 704, 704, 704, 704, 703, 703, 703, 703, 700, 700, 700, 700, 700, 700, 709, 709, 709, 709, 709, 709, 709, 709, 709, 709, 709, 709, 710, 710, 710, 710, 710, 709, 710, 710, 710, 710, 710, 710, 710, 710, 710, 709, 709, 709, 708, 708, 708, 708, 708, 709, 709, 709, 709, 709, 709, 709, 709, 708, 708, 708, 708, 708, 712, 712, 712, 712, 712, 712, 713, 713, 713, 713, 713, 713, 712, 712, 712, 712, 714, 714, 714, 714, 714, 714, 712, 712, 712, 712, 715, 715, 715, 715, 715, 715, 712, 716, 716, 716, 716, 716, 716, 716, 709, 710, 710, 710, 710, 709, 708, 708, 708, 708, 708, 710, 710, 710, 710, 709, 708, 708, 708, 708, 708, 707, 707, 707, 707, 707, 707, 718, 718, 718, 718, 718, 718, 718, 718, 718, 718, 718, 718, 707, 707, 707, 707, 707, 718, 718, 718, 709, 709, 709, 710, 710, 710, 710, 709, 710, 710, 710, 710, 718, 718, 718, 718, 707, 707, 707, 707, 707, 718, 718, 718, 709, 709, 709, 710, 710, 710, 710, 709, 710, 710, 710, 710, 718, 718, 718, 718, 718, 718, 718, 718, 720, 709, 710, 710, 710, 710, 710, 709, 710, 710, 710, 710, 710, 710, 710, 710, 710, 709, 709, 709, 705, 705, 705, 705, 705, 709, 709, 709, 709, 709, 711, 711, 711, 711, 709, 705, 705, 705, 705, 705, 711, 711, 711, 711, 709, 710, 710, 710, 710, 710, 709, 710, 710, 710, 710, 710, 710, 710, 710, 710, 709, 709, 709, 706, 706, 706, 706, 706, 709, 709, 709, 709, 709, 711, 711, 711, 711, 709, 706, 706, 706, 706, 706, 711, 711, 711, 711, 709, 710, 710, 710, 710, 710, 709, 710, 710, 710, 710, 710, 710, 710, 710, 710, 709, 709, 709, 717, 717, 717, 717, 717, 709, 709, 709, 709, 709, 717, 717, 717, 717, 717, 709, 709, 721, 721, 721, 721, 721, 721, 721, 721, 721, 721, 721, 722, 722, 722, 722, 722, 722, 723, 723, 723, 723, 723, 723, 721, 721, 721, 711, 711, 711, 711, 711, 711, 711, 711, 711, 721, 721, 721, 721, 724, 724, 724, 724, 724, 724, 721, 711, 711, 711, 711, 711, 711, 711, 711, 711, 721, 721, 721, 721, 721, 721, 721, 725, 725, 725, 725, 725, 725, 725, 725, 725, 725, 725, 725, 725, 725, 725, 726, 726, 726, 725, 725, 725, 725, 727, 727, 727, 727, 727, 727, 727, 727, 727] ((¬ y = 0) ∧ ads [(700, δ)] [727, 727, 727, 727, 727] ((y ≠ 0 ∧ Builtin.divisionGoesByPylong x y = false) ∧ ads [(700, δ)] [721, 721, 721, 711, 711, 711, 711, 721, 721, 721, 728, 728, 728, 728, 728, 728, 728, 728] ((¬ ((Builtin.Int.intBits (x.fdiv y) : Nat) : Int) > 100000) ∧ ads [(700, δ)] [728, 711, 711, 711, 711, 709, 710, 710, 710, 710, 710, 709, 711, 711, 711, 711, 711] (F (x.fdiv y) 729 [(700, δ)] []))))) := by
  cases b1 <;> kernel_rfl
noncomputable def c_fDiv0 (P : Params) (u : Nat → Nat) (x : Int) (tx : Nat) (y : Int) (ty sg τ' n i : Nat) : Con := match Nat.ble 700 n with
  | true => cTold wDiv (nmI P u ++ nm4 P u 586 616 647 676 ++ [(647, key3 u)]) (.lit n (Nat.add n 29)) (x.fdiv y) (fun _ => []) x tx y ty sg τ' i
  | false => nocon
theorem c_fDiv0_valid {w : World} {P0 : Params} {b1 b2 : Bool} (hP : fol P0 b1 b2 = w.params) {u : Nat → Nat} {x y : Int} (hy : y ≠ 0) (hq : Builtin.divisionGoesByPylong x y = false) (hb : ¬ ((Builtin.Int.intBits (x.fdiv y) : Nat) : Int) > 100000) {tx ty sg τ' n i : Nat} {U A st hi js F cons} (rs) (τ : Nat) :
    (c_fDiv0 (fol P0 b1 b2) u x tx y ty sg τ' n i).Valid (SR w (fol P0 b1 b2) U A st hi js F cons) rs τ := by
  unfold c_fDiv0
  split
  rotate_left
  · exact nocon_valid
  rename_i hn700
  have hn700 := Nat.le_of_ble_eq_true hn700
  unfold cTold
  split
  rotate_left
  · exact nocon_valid
  rename_i hi0
  obtain ⟨τs, hτ⟩ := tok_form (τ := τ') hi0
  rw [hτ]
  refine Con.valid_leaf (k := 29) (hi := 700) (cons := noc) (SR_base hP) rfl rfl hn700 (by show 369 ≤ 700; omega) (by kernel_rfl) (fun _ _ => rfl) (fun _ _ => rfl) (fun _ _ _ _ _ _ _ => nocon_valid) ?_
  intro Γ p δ τr hok hc
  obtain ⟨l, hΓ, hs0⟩ := okS_is hok
  obtain ⟨e1, e2, p1, l, rfl, hs1⟩ := shp1 hs0
  obtain ⟨a, p2, rfl⟩ := shp4 hs1
  rw [hc] at hΓ
  rw [hΓ]
  refine ⟨FintO (fun v m rs os => v = x.fdiv y ∧ m = 729 ∧ rs = [(700, δ)] ∧ os = []), 2030, ⟨h_fDiv, []⟩, ?_, ?_⟩
  · intro e m rs' τ' j os hF
    obtain ⟨x0, t, rfl, rfl, rfl, rfl, rfl⟩ := FintO_is hF
    exact ⟨fun _ => t, rfl, rfl, rfl⟩
  · refine cast (run_fDiv0).symm ?_
    exact ads_i (⟨hy, ads_i (⟨⟨hy, hq⟩, ads_i (⟨hb, ads_i (⟨rfl, rfl, rfl, rfl⟩) _⟩) _⟩) _⟩) _
set_option maxHeartbeats 0 in
theorem run_fDiv1 {w : World} {P0 : Params} {b1 b2 : Bool} {τ τs δ : Nat} {p : Pos} {e1 : List Stmt} {e2 : Env} {p1 p2 : Pos} {a : Args} {x y : Int} {tx ty : Nat} {u : Nat → Nat} {F : Int → Nat → List (Nat × Nat) → List (Option Obj) → Prop} :
    sim (SR w (fol P0 b1 b2) [] id 700 700 [] (FintO F) noc) 2030 ⟨h_fDiv, []⟩ [(700, δ)] τ (puts .nil (nmI (fol P0 b1 b2) u ++ nm4 (fol P0 b1 b2) u 587 617 648 677 ++ [(648, key3 u)])) 700 690 ⟨toldCode wDiv (Nat.add τs 690) x tx y ty, none, none, [(.func e1 e2, p1), (.builtin id_caller a, p2)], none⟩ p .base (den (toldCode wDiv (Nat.add τs 690) x tx y ty)) =
    (ads [(700, δ)] [700, 700, 700, 700, 700, 700, 700, 700, 700, 700, 701, 701, 701, 701, 701, 701, 701, 701, 701, 702, 702, 702, 702, 702, 702, 702, 702, 702, 702, 701, 703, 703, 703, 703, 703, 703, 703, 703, 703, 703, 703, 703, 704, 704, 704, 704, 704, 704, 704, 704, 704, 704, 703, 703, 703, 703, 700, 700, 700, 700, 700, 700, 709, 709, 709, 709, 709, 709, 709, 709, 709, 709, 709, 709, 710, 710, 710, 710, 710, 709, 710, 710, 710, 710, 710, 710, 710, 710, 710, 709, 709, 709, 708, 708, 708, 708, 708, 709, 709, 709, 709, 709, 709, 709, 709, 708, 708, 708, 708, 708, 712, 712, 712, 712, 712, 712, 713, 713, 713, 713, 713, 713, 712, 712, 712, 712, 714, 714, 714, 714, 714, 714, 712, 712, 712, 712, 715, 715, 715, 715, 715, 715, 712, 716, 716, 716, 716, 716, 716, 716, 709, 710, 710, 710, 710, 709, 708, 708, 708, 708, 708, 710, 710, 710, 710, 709, 708, 708, 708, 708, 708, 707, 707, 707, 707, 707, 707, 718, 718, 718, 718, 718, 718, 718, 718, 718, 718, 718, 718, 707, 707, 707, 707, 707, 718, 718, 718, 709, 709, 709, 710, 710, 710, 710, 709, 710, 710, 710, 710, 718, 718, 718, 718, 707, 707, 707, 707, 707, 718, 718, 718, 709, 709, 709, 710, 710, 710, 710, 709, 710, 710, 710, 710, 718, 718, 718, 718, 718, 718, 718, 718, 720, 709, 710, 710, 710, 710, 710, 709, 710, 710, 710, 710, 710, 710, 710, 710, 710, 709, 709, 709, 705, 705, 705, 705, 705, 709, 709, 709, 709, 709, 711, 711, 711, 711, 709, 705, 705, 705, 705, 705, 711, 711, 711, 711, 709, 710, 710, 710, 710, 710, 709, 710, 710, 710, 710, 710, 710, 710, 710, 710, 709, 709, 709, 706, 706, 706, 706, 706, 709, 709, 709, 709, 709, 711, 711, 711, 711, 709, 706, 706, 706, 706, 706, 711, 711, 711, 711, 709, 710, 710, 710, 710, 710, 709, 710, 710, 710, 710, 710, 710, 710, 710, 710, 709, 709, 709, 717, 717, 717, 717, 717, 709, 709, 709, 709, 709, 717, 717, 717, 717, 717, 709, 709, 721, 721, 721, 721, 721, 721, 721, 721, 721, 721, 721, 722, 722, 722, 722, 722, 722, 723, 723, 723, 723, 723, 723, 721, 721, 721, 711, 711, 711, 711, 711, 711, 711, 711, 711, 721, 721, 721, 721, 724, 724, 724, 724, 724, 724, 721, 711, 711, 711, 711, 711, 711, 711, 711, 711, 721, 721, 721, 721, 721, 721, 721, 725, 725, 725, 725, 725, 725, 725, 725, 725, 725, 725, 725, 725, 725, 725, 726, 726, 726, 725, 725, 725, 725, 727, 727, 727, 727, 727, 727, 727, 727, 727] ((¬ y = 0) ∧ ads [(700, δ)] [727, 727, 727, 727, 727] ((y ≠ 0 ∧ Builtin.divisionGoesByPylong x y = false) ∧ ads [(700, δ)] [721, 721, 721, 711, 711, 711, 711, 721, 721, 721, 728, 728, 728, 728, 728, 728, 728, 728] ((¬ ((Builtin.Int.intBits (x.fdiv y) : Nat) : Int) > 100000) ∧ ads [(700, δ)] [728, 711, 711, 711, 711, 709, 710, 710, 710, 710, 710, 709, 711, 711, 711, 711, 711] (F (x.fdiv y) 729 [(700, δ)] []))))) := by
  cases b1 <;> kernel_rfl
noncomputable def c_fDiv1 (P : Params) (u : Nat → Nat) (x : Int) (tx : Nat) (y : Int) (ty sg τ' n i : Nat) : Con := match Nat.ble 700 n with
  | true => cTold wDiv (nmI P u ++ nm4 P u 587 617 648 677 ++ [(648, key3 u)]) (.lit n (Nat.add n 29)) (x.fdiv y) (fun _ => []) x tx y ty sg τ' i
  | false => nocon
theorem c_fDiv1_valid {w : World} {P0 : Params} {b1 b2 : Bool} (hP : fol P0 b1 b2 = w.params) {u : Nat → Nat} {x y : Int} (hy : y ≠ 0) (hq : Builtin.divisionGoesByPylong x y = false) (hb : ¬ ((Builtin.Int.intBits (x.fdiv y) : Nat) : Int) > 100000) {tx ty sg τ' n i : Nat} {U A st hi js F cons} (rs) (τ : Nat) :
    (c_fDiv1 (fol P0 b1 b2) u x tx y ty sg τ' n i).Valid (SR w (fol P0 b1 b2) U A st hi js F cons) rs τ := by
  unfold c_fDiv1
  split
  rotate_left
  · exact nocon_valid
  rename_i hn700
  have hn700 := Nat.le_of_ble_eq_true hn700
  unfold cTold
  split
  rotate_left
  · exact nocon_valid
  rename_i hi0
  obtain ⟨τs, hτ⟩ := tok_form (τ := τ') hi0
  rw [hτ]
  refine Con.valid_leaf (k := 29) (hi := 700) (cons := noc) (SR_base hP) rfl rfl hn700 (by show 369 ≤ 700; omega) (by kernel_rfl) (fun _ _ => rfl) (fun _ _ => rfl) (fun _ _ _ _ _ _ _ => nocon_valid) ?_
  intro Γ p δ τr hok hc
  obtain ⟨l, hΓ, hs0⟩ := okS_is hok
  obtain ⟨e1, e2, p1, l, rfl, hs1⟩ := shp1 hs0
  obtain ⟨a, p2, rfl⟩ := shp4 hs1
  rw [hc] at hΓ
  rw [hΓ]
  refine ⟨FintO (fun v m rs os => v = x.fdiv y ∧ m = 729 ∧ rs = [(700, δ)] ∧ os = []), 2030, ⟨h_fDiv, []⟩, ?_, ?_⟩
  · intro e m rs' τ' j os hF
    obtain ⟨x0, t, rfl, rfl, rfl, rfl, rfl⟩ := FintO_is hF
    exact ⟨fun _ => t, rfl, rfl, rfl⟩
  · refine cast (run_fDiv1).symm ?_
    exact ads_i (⟨hy, ads_i (⟨⟨hy, hq⟩, ads_i (⟨hb, ads_i (⟨rfl, rfl, rfl, rfl⟩) _⟩) _⟩) _⟩) _
set_option maxHeartbeats 0 in
theorem run_fMod0 {w : World} {P0 : Params} {b1 b2 : Bool} {τ τs δ : Nat} {p : Pos} {e1 : List Stmt} {e2 : Env} {p1 p2 : Pos} {a : Args} {x y : Int} {tx ty : Nat} {u : Nat → Nat} {F : Int → Nat → List (Nat × Nat) → List (Option Obj) → Prop} :
    sim (SR w (fol P0 b1 b2) [] id 700 700 [] (FintO F) noc) 2026 ⟨h_fMod, []⟩ [(700, δ)] τ (puts .nil (nmI (fol P0 b1 b2) u ++ nm4 (fol P0 b1 b2) u 586 616 647 676 ++ [(676, key4 u)])) 700 690 ⟨toldCode wMod (Nat.add τs 690) x tx y ty, none, none, [(.func e1 e2, p1), (.builtin id_caller a, p2)], none⟩ p .base (den (toldCode wMod (Nat.add τs 690) x tx y ty)) =
    (ads [(700, δ)] [700, 700, 700, 700, 700, 700, 700, 700, 700, 700, 701, 701, 701, 701, 701, 701, 701, 701, 701, 702, 702, 702, 702, 702, 702, 702, 702, 702, 702, 701, 703, 703, 703, 703, 703, 703, 703, 703, 703, 703, 703, 703, 704, 704, 704, 704, 704, 704, 704, 704, 704, 704, 703, 703, 703, 703, 700, 700, 700, 700, 700, 700, 709, 709, 709, 709, 709, 709, 709, 709, 709, 709, 709, 709, 710, 710, 710, 710, 710, 709, 710, 710, 710, 710, 710, 710, 710, 710, 710, 709, 709, 709, 708, 708, 708, 708, 708, 709, 709, 709, 709, 709, 709, 709, 709, 708, 708, 708, 708, 708, 712, 712, 712, 712, 712, 712, 713, 713, 713, 713, 713, 713, 712, 712, 712, 712, 714, 714, 714, 714, 714, 714, 712, 712, 712, 712, 715, 715, 715, 715, 715, 715, 712, 716, 716, 716, 716, 716, 716, 716, 709, 710, 710, 710, 710, 709, 708, 708, 708, 708, 708, 710, 710, 710, 710, 709, 708, 708, 708, 708, 708, 707, 707, 707, 707, 707, 707, 718, 718, 718, 718, 718, 718, 718, 718, 718, 718, 718, 718, 707, 707, 707, 707, 707, 718, 718, 718, 709, 709, 709, 710, 710, 710, 710, 709, 710, 710, 710, 710, 718, 718, 718, 718, 707, 707, 707, 707, 707, 718, 718, 718, 709, 709, 709, 710, 710, 710, 710, 709, 710, 710, 710, 710, 718, 718, 718, 718, 718, 718, 718, 718, 720, 709, 710, 710, 710, 710, 710, 709, 710, 710, 710, 710, 710, 710, 710, 710, 710, 709, 709, 709, 705, 705, 705, 705, 705, 709, 709, 709, 709, 709, 711, 711, 711, 711, 709, 705, 705, 705, 705, 705, 711, 711, 711, 711, 709, 710, 710, 710, 710, 710, 709, 710, 710, 710, 710, 710, 710, 710, 710, 710, 709, 709, 709, 706, 706, 706, 706, 706, 709, 709, 709, 709, 709, 711, 711, 711, 711, 709, 706, 706, 706, 706, 706, 711, 711, 711, 711, 709, 710, 710, 710, 710, 710, 709, 710, 710, 710, 710, 710, 710, 710, 710, 710, 709, 709, 709, 717, 717, 717, 717, 717, 709, 709, 709, 709, 709, 717, 717, 717, 717, 717, 709, 709, 721, 721, 721, 721, 721, 721, 721, 721, 721, 721, 721, 722, 722, 722, 722, 722, 722, 723, 723, 723, 723, 723, 723, 721, 721, 721, 711, 711, 711, 711, 711, 711, 711, 711, 711, 721, 721, 721, 721, 724, 724, 724, 724, 724, 724, 721, 711, 711, 711, 711, 711, 711, 711, 711, 711, 721, 721, 721, 721, 721, 721, 721, 725, 725, 725, 725, 725, 725, 725, 725, 725, 725, 725, 725, 725, 725, 725, 726, 726, 726, 725, 725, 725, 725, 727, 727, 727, 727, 727, 727, 727, 727, 727] ((¬ y = 0) ∧ ads [(700, δ)] [727, 727, 727, 727, 727] ((y ≠ 0) ∧ ads [(700, δ)] [721, 721, 721, 711, 711, 711, 711, 721, 721, 721, 728, 728, 728, 728, 728, 728, 728, 728] ((¬ ((Builtin.Int.intBits (x.fmod y) : Nat) : Int) > 100000) ∧ ads [(700, δ)] [728, 711, 711, 711, 711, 709, 710, 710, 710, 710, 710, 709, 711, 711, 711, 711, 711] (F (x.fmod y) 729 [(700, δ)] []))))) := by
  cases b1 <;> kernel_rfl
noncomputable def c_fMod0 (P : Params) (u : Nat → Nat) (x : Int) (tx : Nat) (y : Int) (ty sg τ' n i : Nat) : Con := match Nat.ble 700 n with
  | true => cTold wMod (nmI P u ++ nm4 P u 586 616 647 676 ++ [(676, key4 u)]) (.lit n (Nat.add n 29)) (x.fmod y) (fun _ => []) x tx y ty sg τ' i
  | false => nocon
theorem c_fMod0_valid {w : World} {P0 : Params} {b1 b2 : Bool} (hP : fol P0 b1 b2 = w.params) {u : Nat → Nat} {x y : Int} (hy : y ≠ 0) (hb : ¬ ((Builtin.Int.intBits (x.fmod y) : Nat) : Int) > 100000) {tx ty sg τ' n i : Nat} {U A st hi js F cons} (rs) (τ : Nat) :
    (c_fMod0 (fol P0 b1 b2) u x tx y ty sg τ' n i).Valid (SR w (fol P0 b1 b2) U A st hi js F cons) rs τ := by
  unfold c_fMod0
  split
  rotate_left
  · exact nocon_valid
  rename_i hn700
  have hn700 := Nat.le_of_ble_eq_true hn700
  unfold cTold
  split
  rotate_left
  · exact nocon_valid
  rename_i hi0
  obtain ⟨τs, hτ⟩ := tok_form (τ := τ') hi0
  rw [hτ]
  refine Con.valid_leaf (k := 29) (hi := 700) (cons := noc) (SR_base hP) rfl rfl hn700 (by show 369 ≤ 700; omega) (by kernel_rfl) (fun _ _ => rfl) (fun _ _ => rfl) (fun _ _ _ _ _ _ _ => nocon_valid) ?_
  intro Γ p δ τr hok hc
  obtain ⟨l, hΓ, hs0⟩ := okS_is hok
  obtain ⟨e1, e2, p1, l, rfl, hs1⟩ := shp1 hs0
  obtain ⟨a, p2, rfl⟩ := shp4 hs1
  rw [hc] at hΓ
  rw [hΓ]
  refine ⟨FintO (fun v m rs os => v = x.fmod y ∧ m = 729 ∧ rs = [(700, δ)] ∧ os = []), 2026, ⟨h_fMod, []⟩, ?_, ?_⟩
  · intro e m rs' τ' j os hF
    obtain ⟨x0, t, rfl, rfl, rfl, rfl, rfl⟩ := FintO_is hF
    exact ⟨fun _ => t, rfl, rfl, rfl⟩
  · refine cast (run_fMod0).symm ?_
    exact ads_i (⟨hy, ads_i (⟨hy, ads_i (⟨hb, ads_i (⟨rfl, rfl, rfl, rfl⟩) _⟩) _⟩) _⟩) _
set_option maxHeartbeats 0 in
theorem run_fMod1 {w : World} {P0 : Params} {b1 b2 : Bool} {τ τs δ : Nat} {p : Pos} {e1 : List Stmt} {e2 : Env} {p1 p2 : Pos} {a : Args} {x y : Int} {tx ty : Nat} {u : Nat → Nat} {F : Int → Nat → List (Nat × Nat) → List (Option Obj) → Prop} :
    sim (SR w (fol P0 b1 b2) [] id 700 700 [] (FintO F) noc) 2026 ⟨h_fMod, []⟩ [(700, δ)] τ (puts .nil (nmI (fol P0 b1 b2) u ++ nm4 (fol P0 b1 b2) u 587 617 648 677 ++ [(677, key4 u)])) 700 690 ⟨toldCode wMod (Nat.add τs 690) x tx y ty, none, none, [(.func e1 e2, p1), (.builtin id_caller a, p2)], none⟩ p .base (den (toldCode wMod (Nat.add τs 690) x tx y ty)) =
    (ads [(700, δ)] [700, 700, 700, 700, 700, 700, 700, 700, 700, 700, 701, 701, 701, 701, 701, 701, 701, 701, 701, 702, 702, 702, 702, 702, 702, 702, 702, 702, 702, 701, 703, 703, 703, 703, 703, 703, 703, 703, 703, 703, 703, 703, 704, 704, 704, 704, 704, 704, 704, 704, 704, 704, 703, 703, 703, 703, 700, 700, 700, 700, 700, 700, 709, 709, 709, 709, 709, 709, 709, 709, 709, 709, 709, 709, 710, 710, 710, 710, 710, 709, 710, 710, 710, 710, 710, 710, 710, 710, 710, 709, 709, 709, 708, 708, 708, 708, 708, 709, 709, 709, 709, 709, 709, 709, 709, 708, 708, 708, 708, 708, 712, 712, 712, 712, 712, 712, 713, 713, 713, 713, 713, 713, 712, 712, 712, 712, 714, 714, 714, 714, 714, 714, 712, 712, 712, 712, 715, 715, 715, 715, 715, 715, 712, 716, 716, 716, 716, 716, 716, 716, 709, 710, 710, 710, 710, 709, 708, 708, 708, 708, 708, 710, 710, 710, 710, 709, 708, 708, 708, 708, 708, 707, 707, 707, 707, 707, 707, 718, 718, 718, 718, 718, 718, 718, 718, 718, 718, 718, 718, 707, 707, 707, 707, 707, 718, 718, 718, 709, 709, 709, 710, 710, 710, 710, 709, 710, 710, 710, 710, 718, 718, 718, 718, 707, 707, 707, 707, 707, 718, 718, 718, 709, 709, 709, 710, 710, 710, 710, 709, 710, 710, 710, 710, 718, 718, 718, 718, 718, 718, 718, 718, 720, 709, 710, 710, 710, 710, 710, 709, 710, 710, 710, 710, 710, 710, 710, 710, 710, 709, 709, 709, 705, 705, 705, 705, 705, 709, 709, 709, 709, 709, 711, 711, 711, 711, 709, 705, 705, 705, 705, 705, 711, 711, 711, 711, 709, 710, 710, 710, 710, 710, 709, 710, 710, 710, 710, 710, 710, 710, 710, 710, 709, 709, 709, 706, 706, 706, 706, 706, 709, 709, 709, 709, 709, 711, 711, 711, 711, 709, 706, 706, 706, 706, 706, 711, 711, 711, 711, 709, 710, 710, 710, 710, 710, 709, 710, 710, 710, 710, 710, 710, 710, 710, 710, 709, 709, 709, 717, 717, 717, 717, 717, 709, 709, 709, 709, 709, 717, 717, 717, 717, 717, 709, 709, 721, 721, 721, 721, 721, 721, 721, 721, 721, 721, 721, 722, 722, 722, 722, 722, 722, 723, 723, 723, 723, 723, 723, 721, 721, 721, 711, 711, 711, 711, 711, 711, 711, 711, 711, 721, 721, 721, 721, 724, 724, 724, 724, 724, 724, 721, 711, 711, 711, 711, 711, 711, 711, 711, 711, 721, 721, 721, 721, 721, 721, 721, 725, 725, 725, 725, 725, 725, 725, 725, 725, 725, 725, 725, 725, 725, 725, 726, 726, 726, 725, 725, 725, 725, 727, 727, 727, 727, 727, 727, 727, 727, 727] ((¬ y = 0) ∧ ads [(700, δ)] [727, 727, 727, 727, 727] ((y ≠ 0) ∧ ads [(700, δ)] [721, 721, 721, 711, 711, 711, 711, 721, 721, 721, 728, 728, 728, 728, 728, 728, 728, 728] ((¬ ((Builtin.Int.intBits (x.fmod y) : Nat) : Int) > 100000) ∧ ads [(700, δ)] [728, 711, 711, 711, 711, 709, 710, 710, 710, 710, 710, 709, 711, 711, 711, 711, 711] (F (x.fmod y) 729 [(700, δ)] []))))) := by
  cases b1 <;> kernel_rfl
noncomputable def c_fMod1 (P : Params) (u : Nat → Nat) (x : Int) (tx : Nat) (y : Int) (ty sg τ' n i : Nat) : Con := match Nat.ble 700 n with
  | true => cTold wMod (nmI P u ++ nm4 P u 587 617 648 677 ++ [(677, key4 u)]) (.lit n (Nat.add n 29)) (x.fmod y) (fun _ => []) x tx y ty sg τ' i
  | false => nocon
theorem c_fMod1_valid {w : World} {P0 : Params} {b1 b2 : Bool} (hP : fol P0 b1 b2 = w.params) {u : Nat → Nat} {x y : Int} (hy : y ≠ 0) (hb : ¬ ((Builtin.Int.intBits (x.fmod y) : Nat) : Int) > 100000) {tx ty sg τ' n i : Nat} {U A st hi js F cons} (rs) (τ : Nat) :
    (c_fMod1 (fol P0 b1 b2) u x tx y ty sg τ' n i).Valid (SR w (fol P0 b1 b2) U A st hi js F cons) rs τ := by
  unfold c_fMod1
  split
  rotate_left
  · exact nocon_valid
  rename_i hn700
  have hn700 := Nat.le_of_ble_eq_true hn700
  unfold cTold
  split
  rotate_left
  · exact nocon_valid
  rename_i hi0
  obtain ⟨τs, hτ⟩ := tok_form (τ := τ') hi0
  rw [hτ]
  refine Con.valid_leaf (k := 29) (hi := 700) (cons := noc) (SR_base hP) rfl rfl hn700 (by show 369 ≤ 700; omega) (by kernel_rfl) (fun _ _ => rfl) (fun _ _ => rfl) (fun _ _ _ _ _ _ _ => nocon_valid) ?_
  intro Γ p δ τr hok hc
  obtain ⟨l, hΓ, hs0⟩ := okS_is hok
  obtain ⟨e1, e2, p1, l, rfl, hs1⟩ := shp1 hs0
  obtain ⟨a, p2, rfl⟩ := shp4 hs1
  rw [hc] at hΓ
  rw [hΓ]
  refine ⟨FintO (fun v m rs os => v = x.fmod y ∧ m = 729 ∧ rs = [(700, δ)] ∧ os = []), 2026, ⟨h_fMod, []⟩, ?_, ?_⟩
  · intro e m rs' τ' j os hF
    obtain ⟨x0, t, rfl, rfl, rfl, rfl, rfl⟩ := FintO_is hF
    exact ⟨fun _ => t, rfl, rfl, rfl⟩
  · refine cast (run_fMod1).symm ?_
    exact ads_i (⟨hy, ads_i (⟨hy, ads_i (⟨hb, ads_i (⟨rfl, rfl, rfl, rfl⟩) _⟩) _⟩) _⟩) _
end Mine
end
section
open PySem PySem.W PySem.W.X
namespace Mine
noncomputable def h_gMod : List (Nat × H) := [(2020, .at 810), (2019, .at 810), (2016, .at 810), (2015, .at 810), (2012, .at 810), (2011, .at 810), (2008, .at 810), (2007, .at 810), (1998, .at 810), (1979, .at 810), (1969, .at 811), (1968, .at 811), (1965, .at 811), (1964, .at 811), (1961, .at 811), (1960, .at 811), (1953, .at 811), (1934, .at 811), (1915, .at 811), (1906, .at 812), (1905, .at 812), (1902, .at 812), (1901, .at 812), (1894, .at 812), (1869, .at 812), (1861, .op 0), (1855, .at 812), (1854, .at 812), (1850, .at 812), (1841, .at 812), (1837, .at 811), (1828, .at 813), (1827, .at 813), (1824, .at 813), (1823, .at 813), (1820, .at 813), (1819, .at 813), (1811, .at 813), (1809, .at 813), (1803, .at 813), (1802, .at 813), (1798, .at 813), (1773, .at 813), (1761, .at 814), (1760, .at 814), (1759, .at 814), (1756, .at 814), (1754, .at 814), (1740, .at 814), (1739, .at 814), (1738, .at 814), (1731, .at 814), (1728, .opAt 0 814), (1718, .at 813), (1717, .at 813), (1713, .at 813), (1704, .at 813), (1695, .at 810), (1690, .at 810), (1682, .at 810), (1681, .at 810), (1674, .at 810), (1672, .at 810), (1662, .at 819), (1661, .at 819), (1658, .at 819), (1657, .at 819), (1654, .at 819), (1653, .at 819), (1645, .at 819), (1639, .at 819), (1638, .at 819), (1629, .at 819), (1628, .at 819), (1623, .at 819), (1621, .at 820), (1620, .at 820), (1618, .at 820), (1616, .at 820), (1614, .at 820), (1606, .at 819), (1604, .at 820), (1603, .at 820), (1602, .at 820), (1601, .at 820), (1597, .at 820), (1595, .at 820), (1594, .at 820), (1593, .at 820), (1592, .at 820), (1585, .at 819), (1584, .at 819), (1580, .at 819), (1577, .at 818), (1576, .at 818), (1575, .at 818), (1573, .at 818), (1571, .at 818), (1565, .at 819), (1564, .at 819), (1560, .at 819), (1550, .at 819), (1541, .at 819), (1532, .at 819), (1521, .at 819), (1519, .at 819), (1516, .at 818), (1515, .at 818), (1514, .at 818), (1512, .at 818), (1510, .at 818), (1500, .at 822), (1499, .at 822), (1496, .at 822), (1495, .at 822), (1488, .at 822), (1469, .at 822), (1460, .at 823), (1459, .at 823), (1456, .at 823), (1455, .at 823), (1448, .at 823), (1429, .at 823), (1399, .at 822), (1398, .at 822), (1394, .at 822), (1375, .at 822), (1366, .at 824), (1365, .at 824), (1362, .at 824), (1361, .at 824), (1354, .at 824), (1335, .at 824), (1305, .at 822), (1304, .at 822), (1298, .at 822), (1279, .at 822), (1270, .at 825), (1269, .at 825), (1266, .at 825), (1265, .at 825), (1258, .at 825), (1239, .at 825), (1224, .at 822), (1215, .at 826), (1214, .at 826), (1211, .at 826), (1210, .at 826), (1203, .at 826), (1194, .at 826), (1185, .at 826), (1143, .at 819), (1141, .at 820), (1140, .at 820), (1139, .at 820), (1138, .at 820), (1132, .at 819), (1129, .at 818), (1128, .at 818), (1127, .at 818), (1125, .at 818), (1123, .at 818), (1118, .at 820), (1116, .at 820), (1115, .at 820), (1114, .at 820), (1106, .at 819), (1103, .at 818), (1102, .at 818), (1101, .at 818), (1099, .at 818), (1097, .at 818), (1090, .at 817), (1089, .at 817), (1088, .at 817), (1085, .at 817), (1083, .at 817), (1081, .at 817), (1073, .at 828), (1072, .at 828), (1070, .at 828), (1068, .at 828), (1063, .at 828), (1062, .at 828), (1059, .at 828), (1056, .at 828), (1053, .at 828), (1051, .at 828), (1049, .at 828), (1048, .at 828), (1047, .at 817), (1045, .at 817), (1044, .at 817), (1042, .at 817), (1040, .at 817), (1038, .at 828), (1037, .at 828), (1036, .at 828), (1030, .at 819), (1029, .at 819), (1025, .at 819), (1023, .at 820), (1022, .at 820), (1021, .at 820), (1020, .at 820), (1017, .at 819), (1014, .at 820), (1012, .at 820), (1011, .at 820), (1010, .at 820), (1005, .at 828), (1003, .at 828), (1001, .at 828), (1000, .at 828), (999, .at 817), (997, .at 817), (996, .at 817), (994, .at 817), (992, .at 817), (990, .at 828), (989, .at 828), (988, .at 828), (982, .at 819), (981, .at 819), (977, .at 819), (975, .at 820), (974, .at 820), (973, .at 820), (972, .at 820), (969, .at 819), (966, .at 820), (964, .at 820), (963, .at 820), (962, .at 820), (957, .at 828), (955, .at 828), (953, .at 828), (952, .at 828), (950, .at 828), (949, .at 828), (948, .at 828), (947, .at 828), (942, .at 830), (937, .at 819), (935, .at 820), (934, .at 820), (932, .at 820), (930, .at 820), (928, .at 820), (920, .at 819), (918, .at 820), (917, .at 820), (916, .at 820), (915, .at 820), (911, .at 820), (909, .at 820), (908, .at 820), (907, .at 820), (906, .at 820), (899, .at 819), (898, .at 819), (894, .at 819), (891, .at 815), (890, .at 815), (889, .at 815), (887, .at 815), (885, .at 815), (879, .at 819), (878, .at 819), (874, .at 819), (864, .at 819), (855, .at 819), (853, .at 821), (852, .at 821), (851, .at 821), (850, .at 821), (847, .at 819), (844, .at 815), (843, .at 815), (842, .at 815), (840, .at 815), (838, .at 815), (834, .at 821), (832, .at 821), (831, .at 821), (830, .at 821), (825, .at 819), (823, .at 820), (822, .at 820), (820, .at 820), (818, .at 820), (816, .at 820), (808, .at 819), (806, .at 820), (805, .at 820), (804, .at 820), (803, .at 820), (799, .at 820), (797, .at 820), (796, .at 820), (795, .at 820), (794, .at 820), (787, .at 819), (786, .at 819), (782, .at 819), (779, .at 816), (778, .at 816), (777, .at 816), (775, .at 816), (773, .at 816), (767, .at 819), (766, .at 819), (762, .at 819), (752, .at 819), (743, .at 819), (741, .at 821), (740, .at 821), (739, .at 821), (738, .at 821), (735, .at 819), (732, .at 816), (731, .at 816), (730, .at 816), (728, .at 816), (726, .at 816), (722, .at 821), (720, .at 821), (719, .at 821), (718, .at 821), (713, .at 819), (711, .at 820), (710, .at 820), (708, .at 820), (706, .at 820), (704, .at 820), (696, .at 819), (694, .at 820), (693, .at 820), (692, .at 820), (691, .at 820), (687, .at 820), (685, .at 820), (684, .at 820), (683, .at 820), (682, .at 820), (675, .at 819), (674, .at 819), (670, .at 819), (667, .at 827), (666, .at 827), (665, .at 827), (663, .at 827), (661, .at 827), (655, .at 819), (654, .at 819), (650, .at 819), (638, .at 819), (636, .at 819), (633, .at 827), (632, .at 827), (631, .at 827), (629, .at 827), (627, .at 827), (624, .at 819), (622, .at 819), (613, .at 831), (612, .at 831), (609, .at 831), (608, .at 831), (605, .at 831), (604, .at 831), (601, .at 831), (600, .at 831), (593, .at 831), (574, .at 831), (555, .at 831), (546, .at 832), (545, .at 832), (542, .at 832), (541, .at 832), (534, .at 832), (515, .at 832), (481, .at 833), (480, .at 833), (477, .at 833), (476, .at 833), (469, .at 833), (450, .at 833), (432, .at 831), (431, .at 831), (427, .at 831), (425, .at 821), (424, .at 821), (423, .at 821), (422, .at 821), (418, .at 821), (416, .at 821), (415, .at 821), (414, .at 821), (413, .at 821), (406, .at 831), (405, .at 831), (401, .at 831), (382, .at 831), (373, .at 834), (372, .at 834), (369, .at 834), (368, .at 834), (361, .at 834), (342, .at 834), (308, .at 831), (306, .at 821), (305, .at 821), (304, .at 821), (303, .at 821), (299, .at 821), (297, .at 821), (296, .at 821), (295, .at 821), (294, .at 821), (287, .at 831), (286, .at 831), (280, .at 831), (278, .at 831), (276, .at 831), (274, .at 831), (272, .at 831), (263, .at 835), (262, .at 835), (259, .at 835), (258, .at 835), (255, .at 835), (254, .at 835), (251, .at 835), (250, .at 835), (247, .at 835), (246, .at 835), (239, .at 835), (231, .at 835), (222, .at 835), (213, .at 835), (204, .at 835), (196, .at 836), (195, .at 836), (194, .opAt 1 836), (189, .at 835), (187, .at 835), (185, .at 835), (183, .at 835), (174, .at 837), (173, .at 837), (170, .at 837), (169, .at 837), (166, .at 837), (165, .at 837), (162, .at 837), (161, .at 837), (154, .at 837), (150, .op 10), (147, .at 837), (138, .at 837), (129, .at 837), (120, .at 837), (118, .at 837), (116, .op 17), (107, .at 831), (106, .at 831), (102, .at 831), (100, .at 821), (99, .at 821), (98, .at 821), (97, .at 821), (92, .at 831), (90, .at 831), (88, .at 831), (79, .at 838), (78, .at 838), (75, .at 838), (74, .at 838), (71, .at 838), (70, .at 838), (63, .at 838), (53, .at 838), (50, .op 4), (47, .at 838), (42, .at 821), (40, .at 821), (39, .at 821), (38, .at 821), (31, .at 819), (29, .at 820), (28, .at 820), (26, .at 820), (24, .at 820), (22, .at 820), (13, .at 819), (10, .at 821), (9, .at 821), (8, .at 821), (6, .at 821), (4, .at 821)]
set_option maxHeartbeats 0 in
theorem run_gMod0 {w : World} {P0 : Params} {b1 b2 : Bool} {τ τs δ : Nat} {p : Pos} {e1 : List Stmt} {e2 : Env} {p1 p2 : Pos} {a : Args} {x y : Int} {tx ty : Nat} {u : Nat → Nat} {F : Int → Nat → List (Nat × Nat) → List (Option Obj) → Prop} :
    sim (SR w (fol P0 b1 b2) [] id 810 810 [] (FintO F) noc) 2026 ⟨h_gMod, []⟩ [(810, δ)] τ (puts .nil (nmI (fol P0 b1 b2) u ++ nm5 (fol P0 b1 b2) u 586 616 647 676 793 ++ [(676, key4 u)])) 810 690 ⟨toldCode wMod (Nat.add τs 690) x tx y ty, none, none, [(.func e1 e2, p1), (.builtin id_caller a, p2)], none⟩ p .base (den (toldCode wMod (Nat.add τs 690) x tx y ty)) =
    (ads [(810, δ)] [810, 810, 810, 810, 810, 810, 810, 810, 810, 810, 811, 811, 811, 811, 811, 811, 811, 811, 811, 812, 812, 812, 812, 812, 812, 812, 812, 812, 812, 811, 813, 813, 813, 813, 813, 813, 813, 813, 813, 813, 813, 813, 814, 814, 814, 814, 814, 814, 814, 814, 814, 814, 813, 813, 813, 813, 810, 810, 810, 810, 810, 810, 819, 819, 819, 819, 819, 819, 819, 819, 819, 819, 819, 819, 820, 820, 820, 820, 820, 819, 820, 820, 820, 820, 820, 820, 820, 820, 820, 819, 819, 819, 818, 818, 818, 818, 818, 819, 819, 819, 819, 819, 819, 819, 819, 818, 818, 818, 818, 818, 822, 822, 822, 822, 822, 822, 823, 823, 823, 823, 823, 823, 822, 822, 822, 822, 824, 824, 824, 824, 824, 824, 822, 822, 822, 822, 825, 825, 825, 825, 825, 825, 822, 826, 826, 826, 826, 826, 826, 826, 819, 820, 820, 820, 820, 819, 818, 818, 818, 818, 818, 820, 820, 820, 820, 819, 818, 818, 818, 818, 818, 817, 817, 817, 817, 817, 817, 828, 828, 828, 828, 828, 828, 828, 828, 828, 828, 828, 828, 817, 817, 817, 817, 817, 828, 828, 828, 819, 819, 819, 820, 820, 820, 820, 819, 820, 820, 820, 820, 828, 828, 828, 828, 817, 817, 817, 817, 817, 828, 828, 828, 819, 819, 819, 820, 820, 820, 820, 819, 820, 820, 820, 820, 828, 828, 828, 828, 828, 828, 828, 828, 830, 819, 820, 820, 820, 820, 820, 819, 820, 820, 820, 820, 820, 820, 820, 820, 820, 819, 819, 819, 815, 815, 815, 815, 815, 819, 819, 819, 819, 819, 821, 821, 821, 821, 819, 815, 815, 815, 815, 815, 821, 821, 821, 821, 819, 820, 820, 820, 820, 820, 819, 820, 820, 820, 820, 820, 820, 820, 820, 820, 819, 819, 819, 816, 816, 816, 816, 816, 819, 819, 819, 819, 819, 821, 821, 821, 821, 819, 816, 816, 816, 816, 816, 821, 821, 821, 821, 819, 820, 820, 820, 820, 820, 819, 820, 820, 820, 820, 820, 820, 820, 820, 820, 819, 819, 819, 827, 827, 827, 827, 827, 819, 819, 819, 819, 819, 827, 827, 827, 827, 827, 819, 819, 831, 831, 831, 831, 831, 831, 831, 831, 831, 831, 831, 832, 832, 832, 832, 832, 832, 833, 833, 833, 833, 833, 833, 831, 831, 831, 821, 821, 821, 821, 821, 821, 821, 821, 821, 831, 831, 831, 831, 834, 834, 834, 834, 834, 834, 831, 821, 821, 821, 821, 821, 821, 821, 821, 821, 831, 831, 831, 831, 831, 831, 831, 835, 835, 835, 835, 835, 835, 835, 835, 835, 835, 835, 835, 835, 835, 835, 836, 836, 836, 835, 835, 835, 835, 837, 837, 837, 837, 837, 837, 837, 837, 837] ((¬ y = 0) ∧ ads [(810, δ)] [837, 837, 837, 837, 837] ((y ≠ 0) ∧ ads [(810, δ)] [831, 831, 831, 821, 821, 821, 821, 831, 831, 831, 838, 838, 838, 838, 838, 838, 838, 838] ((¬ ((Builtin.Int.intBits (x.fmod y) : Nat) : Int) > 100000) ∧ ads [(810, δ)] [838, 821, 821, 821, 821, 819, 820, 820, 820, 820, 820, 819, 821, 821, 821, 821, 821] (F (x.fmod y) 839 [(810, δ)] []))))) := by
  cases b1 <;> kernel_rfl
noncomputable def c_gMod0 (P : Params) (u : Nat → Nat) (x : Int) (tx : Nat) (y : Int) (ty sg τ' n i : Nat) : Con := cTold wMod (nmI P u ++ nm5 P u 586 616 647 676 793 ++ [(676, key4 u)]) .any (x.fmod y) (fun _ => []) x tx y ty sg τ' i
theorem c_gMod0_valid {w : World} {P0 : Params} {b1 b2 : Bool} (hP : fol P0 b1 b2 = w.params) {u : Nat → Nat} {x y : Int} (hy : y ≠ 0) (hb : ¬ ((Builtin.Int.intBits (x.fmod y) : Nat) : Int) > 100000) {tx ty sg τ' n i : Nat} {U A st js F cons} (rs) (τ : Nat) :
    (c_gMod0 (fol P0 b1 b2) u x tx y ty sg τ' n i).Valid (SR w (fol P0 b1 b2) U A st 810 js F cons) rs τ := by
  unfold c_gMod0
  unfold cTold
  split
  rotate_left
  · exact nocon_valid
  rename_i hi0
  obtain ⟨τs, hτ⟩ := tok_form (τ := τ') hi0
  rw [hτ]
  refine Con.valid_any (cons := noc) (SR_base hP) rfl rfl (by show 369 ≤ 810; omega) (by kernel_rfl) (fun _ _ => rfl) (fun _ _ => rfl) (fun _ _ _ _ _ _ _ => nocon_valid) ?_
  intro Γ p δ τr hok hc
  obtain ⟨l, hΓ, hs0⟩ := okS_is hok
  obtain ⟨e1, e2, p1, l, rfl, hs1⟩ := shp1 hs0
  obtain ⟨a, p2, rfl⟩ := shp4 hs1
  rw [hc] at hΓ
  rw [hΓ]
  refine ⟨FintO (fun v m rs os => v = x.fmod y), 2026, ⟨h_gMod, []⟩, ?_, ?_⟩
  · intro e m rs' τ' j os hF
    obtain ⟨x0, t, rfl, rfl⟩ := FintO_is hF
    exact ⟨fun _ => t, rfl⟩
  · refine cast (run_gMod0).symm ?_
    exact ads_i (⟨hy, ads_i (⟨hy, ads_i (⟨hb, ads_i (rfl) _⟩) _⟩) _⟩) _
set_option maxHeartbeats 0 in
theorem run_gMod1 {w : World} {P0 : Params} {b1 b2 : Bool} {τ τs δ : Nat} {p : Pos} {e1 : List Stmt} {e2 : Env} {p1 p2 : Pos} {a : Args} {x y : Int} {tx ty : Nat} {u : Nat → Nat} {F : Int → Nat → List (Nat × Nat) → List (Option Obj) → Prop} :
    sim (SR w (fol P0 b1 b2) [] id 810 810 [] (FintO F) noc) 2026 ⟨h_gMod, []⟩ [(810, δ)] τ (puts .nil (nmI (fol P0 b1 b2) u ++ nm5 (fol P0 b1 b2) u 587 617 648 677 794 ++ [(677, key4 u)])) 810 690 ⟨toldCode wMod (Nat.add τs 690) x tx y ty, none, none, [(.func e1 e2, p1), (.builtin id_caller a, p2)], none⟩ p .base (den (toldCode wMod (Nat.add τs 690) x tx y ty)) =
    (ads [(810, δ)] [810, 810, 810, 810, 810, 810, 810, 810, 810, 810, 811, 811, 811, 811, 811, 811, 811, 811, 811, 812, 812, 812, 812, 812, 812, 812, 812, 812, 812, 811, 813, 813, 813, 813, 813, 813, 813, 813, 813, 813, 813, 813, 814, 814, 814, 814, 814, 814, 814, 814, 814, 814, 813, 813, 813, 813, 810, 810, 810, 810, 810, 810, 819, 819, 819, 819, 819, 819, 819, 819, 819, 819, 819, 819, 820, 820, 820, 820, 820, 819, 820, 820, 820, 820, 820, 820, 820, 820, 820, 819, 819, 819, 818, 818, 818, 818, 818, 819, 819, 819, 819, 819, 819, 819, 819, 818, 818, 818, 818, 818, 822, 822, 822, 822, 822, 822, 823, 823, 823, 823, 823, 823, 822, 822, 822, 822, 824, 824, 824, 824, 824, 824, 822, 822, 822, 822, 825, 825, 825, 825, 825, 825, 822, 826, 826, 826, 826, 826, 826, 826, 819, 820, 820, 820, 820, 819, 818, 818, 818, 818, 818, 820, 820, 820, 820, 819, 818, 818, 818, 818, 818, 817, 817, 817, 817, 817, 817, 828, 828, 828, 828, 828, 828, 828, 828, 828, 828, 828, 828, 817, 817, 817, 817, 817, 828, 828, 828, 819, 819, 819, 820, 820, 820, 820, 819, 820, 820, 820, 820, 828, 828, 828, 828, 817, 817, 817, 817, 817, 828, 828, 828, 819, 819, 819, 820, 820, 820, 820, 819, 820, 820, 820, 820, 828, 828, 828, 828, 828, 828, 828, 828, 830, 819, 820, 820, 820, 820, 820, 819, 820, 820, 820, 820, 820, 820, 820, 820, 820, 819, 819, 819, 815, 815, 815, 815, 815, 819, 819, 819, 819, 819, 821, 821, 821, 821, 819, 815, 815, 815, 815, 815, 821, 821, 821, 821, 819, 820, 820, 820, 820, 820, 819, 820, 820, 820, 820, 820, 820, 820, 820, 820, 819, 819, 819, 816, 816, 816, 816, 816, 819, 819, 819, 819, 819, 821, 821, 821, 821, 819, 816, 816, 816, 816, 816, 821, 821, 821, 821, 819, 820, 820, 820, 820, 820, 819, 820, 820, 820, 820, 820, 820, 820, 820, 820, 819, 819, 819, 827, 827, 827, 827, 827, 819, 819, 819, 819, 819, 827, 827, 827, 827, 827, 819, 819, 831, 831, 831, 831, 831, 831, 831, 831, 831, 831, 831, 832, 832, 832, 832, 832, 832, 833, 833, 833, 833, 833, 833, 831, 831, 831, 821, 821, 821, 821, 821, 821, 821, 821, 821, 831, 831, 831, 831, 834, 834, 834, 834, 834, 834, 831, 821, 821, 821, 821, 821, 821, 821, 821, 821, 831, 831, 831, 831, 831, 831, 831, 835, 835, 835, 835, 835, 835, 835, 835, 835, 835, 835, 835, 835, 835, 835, 836, 836, 836, 835, 835, 835, 835, 837, 837, 837, 837, 837, 837, 837, 837, 837] ((¬ y = 0) ∧ ads [(810, δ)] [837, 837, 837, 837, 837] ((y ≠ 0) ∧ ads [(810, δ)] [831, 831, 831, 821, 821, 821, 821, 831, 831, 831, 838, 838, 838, 838, 838, 838, 838, 838] ((¬ ((Builtin.Int.intBits (x.fmod y) : Nat) : Int) > 100000) ∧ ads [(810, δ)] [838, 821, 821, 821, 821, 819, 820, 820, 820, 820, 820, 819, 821, 821, 821, 821, 821] (F (x.fmod y) 839 [(810, δ)] []))))) := by
  cases b1 <;> kernel_rfl
noncomputable def c_gMod1 (P : Params) (u : Nat → Nat) (x : Int) (tx : Nat) (y : Int) (ty sg τ' n i : Nat) : Con := cTold wMod (nmI P u ++ nm5 P u 587 617 648 677 794 ++ [(677, key4 u)]) .any (x.fmod y) (fun _ => []) x tx y ty sg τ' i
theorem c_gMod1_valid {w : World} {P0 : Params} {b1 b2 : Bool} (hP : fol P0 b1 b2 = w.params) {u : Nat → Nat} {x y : Int} (hy : y ≠ 0) (hb : ¬ ((Builtin.Int.intBits (x.fmod y) : Nat) : Int) > 100000) {tx ty sg τ' n i : Nat} {U A st js F cons} (rs) (τ : Nat) :
    (c_gMod1 (fol P0 b1 b2) u x tx y ty sg τ' n i).Valid (SR w (fol P0 b1 b2) U A st 810 js F cons) rs τ := by
  unfold c_gMod1
  unfold cTold
  split
  rotate_left
  · exact nocon_valid
  rename_i hi0
  obtain ⟨τs, hτ⟩ := tok_form (τ := τ') hi0
  rw [hτ]
  refine Con.valid_any (cons := noc) (SR_base hP) rfl rfl (by show 369 ≤ 810; omega) (by kernel_rfl) (fun _ _ => rfl) (fun _ _ => rfl) (fun _ _ _ _ _ _ _ => nocon_valid) ?_
  intro Γ p δ τr hok hc
  obtain ⟨l, hΓ, hs0⟩ := okS_is hok
  obtain ⟨e1, e2, p1, l, rfl, hs1⟩ := shp1 hs0
  obtain ⟨a, p2, rfl⟩ := shp4 hs1
  rw [hc] at hΓ
  rw [hΓ]
  refine ⟨FintO (fun v m rs os => v = x.fmod y), 2026, ⟨h_gMod, []⟩, ?_, ?_⟩
  · intro e m rs' τ' j os hF
    obtain ⟨x0, t, rfl, rfl⟩ := FintO_is hF
    exact ⟨fun _ => t, rfl⟩
  · refine cast (run_gMod1).symm ?_
    exact ads_i (⟨hy, ads_i (⟨hy, ads_i (⟨hb, ads_i (rfl) _⟩) _⟩) _⟩) _
set_option maxHeartbeats 0 in
theorem run_gMod4 {w : World} {P0 : Params} {b1 b2 : Bool} {τ τs δ : Nat} {p : Pos} {e1 : List Stmt} {e2 : Env} {p1 p2 : Pos} {a : Args} {x y : Int} {tx ty : Nat} {u : Nat → Nat} {F : Int → Nat → List (Nat × Nat) → List (Option Obj) → Prop} :
    sim (SR w (fol P0 b1 b2) [] id 810 810 [] (FintO F) noc) 2026 ⟨h_gMod, []⟩ [(810, δ)] τ (puts .nil (nmI (fol P0 b1 b2) u ++ nm5 (fol P0 b1 b2) u 586 616 647 676 797 ++ [(676, key4 u)])) 810 690 ⟨toldCode wMod (Nat.add τs 690) x tx y ty, none, none, [(.func e1 e2, p1), (.builtin id_caller a, p2)], none⟩ p .base (den (toldCode wMod (Nat.add τs 690) x tx y ty)) =
    (ads [(810, δ)] [810, 810, 810, 810, 810, 810, 810, 810, 810, 810, 811, 811, 811, 811, 811, 811, 811, 811, 811, 812, 812, 812, 812, 812, 812, 812, 812, 812, 812, 811, 813, 813, 813, 813, 813, 813, 813, 813, 813, 813, 813, 813, 814, 814, 814, 814, 814, 814, 814, 814, 814, 814, 813, 813, 813, 813, 810, 810, 810, 810, 810, 810, 819, 819, 819, 819, 819, 819, 819, 819, 819, 819, 819, 819, 820, 820, 820, 820, 820, 819, 820, 820, 820, 820, 820, 820, 820, 820, 820, 819, 819, 819, 818, 818, 818, 818, 818, 819, 819, 819, 819, 819, 819, 819, 819, 818, 818, 818, 818, 818, 822, 822, 822, 822, 822, 822, 823, 823, 823, 823, 823, 823, 822, 822, 822, 822, 824, 824, 824, 824, 824, 824, 822, 822, 822, 822, 825, 825, 825, 825, 825, 825, 822, 826, 826, 826, 826, 826, 826, 826, 819, 820, 820, 820, 820, 819, 818, 818, 818, 818, 818, 820, 820, 820, 820, 819, 818, 818, 818, 818, 818, 817, 817, 817, 817, 817, 817, 828, 828, 828, 828, 828, 828, 828, 828, 828, 828, 828, 828, 817, 817, 817, 817, 817, 828, 828, 828, 819, 819, 819, 820, 820, 820, 820, 819, 820, 820, 820, 820, 828, 828, 828, 828, 817, 817, 817, 817, 817, 828, 828, 828, 819, 819, 819, 820, 820, 820, 820, 819, 820, 820, 820, 820, 828, 828, 828, 828, 828, 828, 828, 828, 830, 819, 820, 820, 820, 820, 820, 819, 820, 820, 820, 820, 820, 820, 820, 820, 820, 819, 819, 819, 815, 815, 815, 815, 815, 819, 819, 819, 819, 819, 821, 821, 821, 821, 819, 815, 815, 815, 815, 815, 821, 821, 821, 821, 819, 820, 820, 820, 820, 820, 819, 820, 820, 820, 820, 820, 820, 820, 820, 820, 819, 819, 819, 816, 816, 816, 816, 816, 819, 819, 819, 819, 819, 821, 821, 821, 821, 819, 816, 816, 816, 816, 816, 821, 821, 821, 821, 819, 820, 820, 820, 820, 820, 819, 820, 820, 820, 820, 820, 820, 820, 820, 820, 819, 819, 819, 827, 827, 827, 827, 827, 819, 819, 819, 819, 819, 827, 827, 827, 827, 827, 819, 819, 831, 831, 831, 831, 831, 831, 831, 831, 831, 831, 831, 832, 832, 832, 832, 832, 832, 833, 833, 833, 833, 833, 833, 831, 831, 831, 821, 821, 821, 821, 821, 821, 821, 821, 821, 831, 831, 831, 831, 834, 834, 834, 834, 834, 834, 831, 821, 821, 821, 821, 821, 821, 821, 821, 821, 831, 831, 831, 831, 831, 831, 831, 835, 835, 835, 835, 835, 835, 835, 835, 835, 835, 835, 835, 835, 835, 835, 836, 836, 836, 835, 835, 835, 835, 837, 837, 837, 837, 837, 837, 837, 837, 837] ((¬ y = 0) ∧ ads [(810, δ)] [837, 837, 837, 837, 837] ((y ≠ 0) ∧ ads [(810, δ)] [831, 831, 831, 821, 821, 821, 821, 831, 831, 831, 838, 838, 838, 838, 838, 838, 838, 838] ((¬ ((Builtin.Int.intBits (x.fmod y) : Nat) : Int) > 100000) ∧ ads [(810, δ)] [838, 821, 821, 821, 821, 819, 820, 820, 820, 820, 820, 819, 821, 821, 821, 821, 821] (F (x.fmod y) 839 [(810, δ)] []))))) := by
  cases b1 <;> kernel_rfl
noncomputable def c_gMod4 (P : Params) (u : Nat → Nat) (x : Int) (tx : Nat) (y : Int) (ty sg τ' n i : Nat) : Con := cTold wMod (nmI P u ++ nm5 P u 586 616 647 676 797 ++ [(676, key4 u)]) .any (x.fmod y) (fun _ => []) x tx y ty sg τ' i
theorem c_gMod4_valid {w : World} {P0 : Params} {b1 b2 : Bool} (hP : fol P0 b1 b2 = w.params) {u : Nat → Nat} {x y : Int} (hy : y ≠ 0) (hb : ¬ ((Builtin.Int.intBits (x.fmod y) : Nat) : Int) > 100000) {tx ty sg τ' n i : Nat} {U A st js F cons} (rs) (τ : Nat) :
    (c_gMod4 (fol P0 b1 b2) u x tx y ty sg τ' n i).Valid (SR w (fol P0 b1 b2) U A st 810 js F cons) rs τ := by
  unfold c_gMod4
  unfold cTold
  split
  rotate_left
  · exact nocon_valid
  rename_i hi0
  obtain ⟨τs, hτ⟩ := tok_form (τ := τ') hi0
  rw [hτ]
  refine Con.valid_any (cons := noc) (SR_base hP) rfl rfl (by show 369 ≤ 810; omega) (by kernel_rfl) (fun _ _ => rfl) (fun _ _ => rfl) (fun _ _ _ _ _ _ _ => nocon_valid) ?_
  intro Γ p δ τr hok hc
  obtain ⟨l, hΓ, hs0⟩ := okS_is hok
  obtain ⟨e1, e2, p1, l, rfl, hs1⟩ := shp1 hs0
  obtain ⟨a, p2, rfl⟩ := shp4 hs1
  rw [hc] at hΓ
  rw [hΓ]
  refine ⟨FintO (fun v m rs os => v = x.fmod y), 2026, ⟨h_gMod, []⟩, ?_, ?_⟩
  · intro e m rs' τ' j os hF
    obtain ⟨x0, t, rfl, rfl⟩ := FintO_is hF
    exact ⟨fun _ => t, rfl⟩
  · refine cast (run_gMod4).symm ?_
    exact ads_i (⟨hy, ads_i (⟨hy, ads_i (⟨hb, ads_i (rfl) _⟩) _⟩) _⟩) _
set_option maxHeartbeats 0 in
theorem run_gMod5 {w : World} {P0 : Params} {b1 b2 : Bool} {τ τs δ : Nat} {p : Pos} {e1 : List Stmt} {e2 : Env} {p1 p2 : Pos} {a : Args} {x y : Int} {tx ty : Nat} {u : Nat → Nat} {F : Int → Nat → List (Nat × Nat) → List (Option Obj) → Prop} :
    sim (SR w (fol P0 b1 b2) [] id 810 810 [] (FintO F) noc) 2026 ⟨h_gMod, []⟩ [(810, δ)] τ (puts .nil (nmI (fol P0 b1 b2) u ++ nm5 (fol P0 b1 b2) u 587 617 648 677 798 ++ [(677, key4 u)])) 810 690 ⟨toldCode wMod (Nat.add τs 690) x tx y ty, none, none, [(.func e1 e2, p1), (.builtin id_caller a, p2)], none⟩ p .base (den (toldCode wMod (Nat.add τs 690) x tx y ty)) =
    (ads [(810, δ)] [810, 810, 810, 810, 810, 810, 810, 810, 810, 810, 811, 811, 811, 811, 811, 811, 811, 811, 811, 812, 812, 812, 812, 812, 812, 812, 812, 812, 812, 811, 813, 813, 813, 813, 813, 813, 813, 813, 813, 813, 813, 813, 814, 814, 814, 814, 814, 814, 814, 814, 814, 814, 813, 813, 813, 813, 810, 810, 810, 810, 810, 810, 819, 819, 819, 819, 819, 819, 819, 819, 819, 819, 819, 819, 820, 820, 820, 820, 820, 819, 820, 820, 820, 820, 820, 820, 820, 820, 820, 819, 819, 819, 818, 818, 818, 818, 818, 819, 819, 819, 819, 819, 819, 819, 819, 818, 818, 818, 818, 818, 822, 822, 822, 822, 822, 822, 823, 823, 823, 823, 823, 823, 822, 822, 822, 822, 824, 824, 824, 824, 824, 824, 822, 822, 822, 822, 825, 825, 825, 825, 825, 825, 822, 826, 826, 826, 826, 826, 826, 826, 819, 820, 820, 820, 820, 819, 818, 818, 818, 818, 818, 820, 820, 820, 820, 819, 818, 818, 818, 818, 818, 817, 817, 817, 817, 817, 817, 828, 828, 828, 828, 828, 828, 828, 828, 828, 828, 828, 828, 817, 817, 817, 817, 817, 828, 828, 828, 819, 819, 819, 820, 820, 820, 820, 819, 820, 820, 820, 820, 828, 828, 828, 828, 817, 817, 817, 817, 817, 828, 828, 828, 819, 819, 819, 820, 820, 820, 820, 819, 820, 820, 820, 820, 828, 828, 828, 828, 828, 828, 828, 828, 830, 819, 820, 820, 820, 820, 820, 819, 820, 820, 820, 820, 820, 820, 820, 820, 820, 819, 819, 819, 815, 815, 815, 815, 815, 819, 819, 819, 819, 819, 821, 821, 821, 821, 819, 815, 815, 815, 815, 815, 821, 821, 821, 821, 819, 820, 820, 820, 820, 820, 819, 820, 820, 820, 820, 820, 820, 820, 820, 820, 819, 819, 819, 816, 816, 816, 816, 816, 819, 819, 819, 819, 819, 821, 821, 821, 821, 819, 816, 816, 816, 816, 816, 821, 821, 821, 821, 819, 820, 820, 820, 820, 820, 819, 820, 820, 820, 820, 820, 820, 820, 820, 820, 819, 819, 819, 827, 827, 827, 827, 827, 819, 819, 819, 819, 819, 827, 827, 827, 827, 827, 819, 819, 831, 831, 831, 831, 831, 831, 831, 831, 831, 831, 831, 832, 832, 832, 832, 832, 832, 833, 833, 833, 833, 833, 833, 831, 831, 831, 821, 821, 821, 821, 821, 821, 821, 821, 821, 831, 831, 831, 831, 834, 834, 834, 834, 834, 834, 831, 821, 821, 821, 821, 821, 821, 821, 821, 821, 831, 831, 831, 831, 831, 831, 831, 835, 835, 835, 835, 835, 835, 835, 835, 835, 835, 835, 835, 835, 835, 835, 836, 836, 836, 835, 835, 835, 835, 837, 837, 837, 837, 837, 837, 837, 837, 837] ((¬ y = 0) ∧ ads [(810, δ)] [837, 837, 837, 837, 837] ((y ≠ 0) ∧ ads [(810, δ)] [831, 831, 831, 821, 821, 821, 821, 831, 831, 831, 838, 838, 838, 838, 838, 838, 838, 838] ((¬ ((Builtin.Int.intBits (x.fmod y) : Nat) : Int) > 100000) ∧ ads [(810, δ)] [838, 821, 821, 821, 821, 819, 820, 820, 820, 820, 820, 819, 821, 821, 821, 821, 821] (F (x.fmod y) 839 [(810, δ)] []))))) := by
  cases b1 <;> kernel_rfl
noncomputable def c_gMod5 (P : Params) (u : Nat → Nat) (x : Int) (tx : Nat) (y : Int) (ty sg τ' n i : Nat) : Con := cTold wMod (nmI P u ++ nm5 P u 587 617 648 677 798 ++ [(677, key4 u)]) .any (x.fmod y) (fun _ => []) x tx y ty sg τ' i
theorem c_gMod5_valid {w : World} {P0 : Params} {b1 b2 : Bool} (hP : fol P0 b1 b2 = w.params) {u : Nat → Nat} {x y : Int} (hy : y ≠ 0) (hb : ¬ ((Builtin.Int.intBits (x.fmod y) : Nat) : Int) > 100000) {tx ty sg τ' n i : Nat} {U A st js F cons} (rs) (τ : Nat) :
    (c_gMod5 (fol P0 b1 b2) u x tx y ty sg τ' n i).Valid (SR w (fol P0 b1 b2) U A st 810 js F cons) rs τ := by
  unfold c_gMod5
  unfold cTold
  split
  rotate_left
  · exact nocon_valid
  rename_i hi0
  obtain ⟨τs, hτ⟩ := tok_form (τ := τ') hi0
  rw [hτ]
  refine Con.valid_any (cons := noc) (SR_base hP) rfl rfl (by show 369 ≤ 810; omega) (by kernel_rfl) (fun _ _ => rfl) (fun _ _ => rfl) (fun _ _ _ _ _ _ _ => nocon_valid) ?_
  intro Γ p δ τr hok hc
  obtain ⟨l, hΓ, hs0⟩ := okS_is hok
  obtain ⟨e1, e2, p1, l, rfl, hs1⟩ := shp1 hs0
  obtain ⟨a, p2, rfl⟩ := shp4 hs1
  rw [hc] at hΓ
  rw [hΓ]
  refine ⟨FintO (fun v m rs os => v = x.fmod y), 2026, ⟨h_gMod, []⟩, ?_, ?_⟩
  · intro e m rs' τ' j os hF
    obtain ⟨x0, t, rfl, rfl⟩ := FintO_is hF
    exact ⟨fun _ => t, rfl⟩
  · refine cast (run_gMod5).symm ?_
    exact ads_i (⟨hy, ads_i (⟨hy, ads_i (⟨hb, ads_i (rfl) _⟩) _⟩) _⟩) _
end Mine
end
section
open PySem PySem.W PySem.W.X
namespace Mine
noncomputable def h_gGcd : List (Nat × H) := [(2064, .at 810), (2063, .at 810), (2060, .at 810), (2059, .at 810), (2056, .at 810), (2055, .at 810), (2052, .at 810), (2051, .at 810), (2042, .at 810), (2023, .at 810), (2013, .at 811), (2012, .at 811), (2009, .at 811), (2008, .at 811), (2005, .at 811), (2004, .at 811), (1997, .at 811), (1978, .at 811), (1959, .at 811), (1950, .at 812), (1949, .at 812), (1946, .at 812), (1945, .at 812), (1938, .at 812), (1913, .at 812), (1905, .op 0), (1899, .at 812), (1898, .at 812), (1894, .at 812), (1885, .at 812), (1881, .at 811), (1872, .at 813), (1871, .at 813), (1868, .at 813), (1867, .at 813), (1864, .at 813), (1863, .at 813), (1855, .at 813), (1853, .at 813), (1847, .at 813), (1846, .at 813), (1842, .at 813), (1817, .at 813), (1805, .at 814), (1804, .at 814), (1803, .at 814), (1800, .at 814), (1798, .at 814), (1784, .at 814), (1783, .at 814), (1782, .at 814), (1775, .at 814), (1772, .opAt 0 814), (1762, .at 813), (1761, .at 813), (1757, .at 813), (1748, .at 813), (1739, .at 810), (1734, .at 810), (1726, .at 810), (1725, .at 810), (1718, .at 810), (1716, .at 810), (1706, .at 819), (1705, .at 819), (1702, .at 819), (1701, .at 819), (1698, .at 819), (1697, .at 819), (1689, .at 819), (1683, .at 819), (1682, .at 819), (1673, .at 819), (1672, .at 819), (1667, .at 819), (1665, .at 820), (1664, .at 820), (1662, .at 820), (1660, .at 820), (1658, .at 820), (1650, .at 819), (1648, .at 820), (1647, .at 820), (1646, .at 820), (1645, .at 820), (1641, .at 820), (1639, .at 820), (1638, .at 820), (1637, .at 820), (1636, .at 820), (1629, .at 819), (1628, .at 819), (1624, .at 819), (1621, .at 818), (1620, .at 818), (1619, .at 818), (1617, .at 818), (1615, .at 818), (1609, .at 819), (1608, .at 819), (1604, .at 819), (1594, .at 819), (1585, .at 819), (1576, .at 819), (1565, .at 819), (1563, .at 819), (1560, .at 818), (1559, .at 818), (1558, .at 818), (1556, .at 818), (1554, .at 818), (1544, .at 822), (1543, .at 822), (1540, .at 822), (1539, .at 822), (1532, .at 822), (1513, .at 822), (1504, .at 823), (1503, .at 823), (1500, .at 823), (1499, .at 823), (1492, .at 823), (1473, .at 823), (1443, .at 822), (1442, .at 822), (1438, .at 822), (1419, .at 822), (1410, .at 824), (1409, .at 824), (1406, .at 824), (1405, .at 824), (1398, .at 824), (1379, .at 824), (1349, .at 822), (1348, .at 822), (1342, .at 822), (1323, .at 822), (1314, .at 825), (1313, .at 825), (1310, .at 825), (1309, .at 825), (1302, .at 825), (1283, .at 825), (1268, .at 822), (1259, .at 826), (1258, .at 826), (1255, .at 826), (1254, .at 826), (1247, .at 826), (1238, .at 826), (1229, .at 826), (1171, .at 819), (1169, .at 820), (1168, .at 820), (1167, .at 820), (1166, .at 820), (1160, .at 819), (1157, .at 818), (1156, .at 818), (1155, .at 818), (1153, .at 818), (1151, .at 818), (1146, .at 820), (1144, .at 820), (1143, .at 820), (1142, .at 820), (1134, .at 819), (1131, .at 818), (1130, .at 818), (1129, .at 818), (1127, .at 818), (1125, .at 818), (1118, .at 817), (1117, .at 817), (1116, .at 817), (1113, .at 817), (1111, .at 817), (1109, .at 817), (1101, .at 828), (1100, .at 828), (1098, .at 828), (1096, .at 828), (1091, .at 828), (1090, .at 828), (1087, .at 828), (1084, .at 828), (1081, .at 828), (1079, .at 828), (1077, .at 828), (1076, .at 828), (1075, .at 817), (1073, .at 817), (1072, .at 817), (1070, .at 817), (1068, .at 817), (1066, .at 828), (1065, .at 828), (1064, .at 828), (1058, .at 819), (1057, .at 819), (1053, .at 819), (1051, .at 820), (1050, .at 820), (1049, .at 820), (1048, .at 820), (1045, .at 819), (1042, .at 820), (1040, .at 820), (1039, .at 820), (1038, .at 820), (1033, .at 828), (1031, .at 828), (1029, .at 828), (1028, .at 828), (1027, .at 817), (1025, .at 817), (1024, .at 817), (1022, .at 817), (1020, .at 817), (1018, .at 828), (1017, .at 828), (1016, .at 828), (1010, .at 819), (1009, .at 819), (1005, .at 819), (1003, .at 820), (1002, .at 820), (1001, .at 820), (1000, .at 820), (997, .at 819), (994, .at 820), (992, .at 820), (991, .at 820), (990, .at 820), (985, .at 828), (983, .at 828), (981, .at 828), (980, .at 828), (978, .at 828), (977, .at 828), (976, .at 828), (975, .at 828), (970, .at 830), (965, .at 819), (963, .at 820), (962, .at 820), (960, .at 820), (958, .at 820), (956, .at 820), (948, .at 819), (946, .at 820), (945, .at 820), (944, .at 820), (943, .at 820), (939, .at 820), (937, .at 820), (936, .at 820), (935, .at 820), (934, .at 820), (927, .at 819), (926, .at 819), (922, .at 819), (919, .at 815), (918, .at 815), (917, .at 815), (915, .at 815), (913, .at 815), (907, .at 819), (906, .at 819), (902, .at 819), (892, .at 819), (883, .at 819), (881, .at 821), (880, .at 821), (879, .at 821), (878, .at 821), (875, .at 819), (872, .at 815), (871, .at 815), (870, .at 815), (868, .at 815), (866, .at 815), (862, .at 821), (860, .at 821), (859, .at 821), (858, .at 821), (853, .at 819), (851, .at 820), (850, .at 820), (848, .at 820), (846, .at 820), (844, .at 820), (836, .at 819), (834, .at 820), (833, .at 820), (832, .at 820), (831, .at 820), (827, .at 820), (825, .at 820), (824, .at 820), (823, .at 820), (822, .at 820), (815, .at 819), (814, .at 819), (810, .at 819), (807, .at 816), (806, .at 816), (805, .at 816), (803, .at 816), (801, .at 816), (795, .at 819), (794, .at 819), (790, .at 819), (780, .at 819), (771, .at 819), (769, .at 821), (768, .at 821), (767, .at 821), (766, .at 821), (763, .at 819), (760, .at 816), (759, .at 816), (758, .at 816), (756, .at 816), (754, .at 816), (750, .at 821), (748, .at 821), (747, .at 821), (746, .at 821), (741, .at 819), (739, .at 820), (738, .at 820), (736, .at 820), (734, .at 820), (732, .at 820), (724, .at 819), (722, .at 820), (721, .at 820), (720, .at 820), (719, .at 820), (715, .at 820), (713, .at 820), (712, .at 820), (711, .at 820), (710, .at 820), (703, .at 819), (702, .at 819), (698, .at 819), (695, .at 827), (694, .at 827), (693, .at 827), (691, .at 827), (689, .at 827), (683, .at 819), (682, .at 819), (678, .at 819), (666, .at 819), (664, .at 819), (661, .at 827), (660, .at 827), (659, .at 827), (657, .at 827), (655, .at 827), (652, .at 819), (650, .at 819), (641, .at 831), (640, .at 831), (637, .at 831), (636, .at 831), (633, .at 831), (632, .at 831), (629, .at 831), (628, .at 831), (621, .at 831), (602, .at 831), (583, .at 831), (574, .at 832), (573, .at 832), (570, .at 832), (569, .at 832), (562, .at 832), (543, .at 832), (509, .at 833), (508, .at 833), (505, .at 833), (504, .at 833), (497, .at 833), (478, .at 833), (460, .at 831), (459, .at 831), (455, .at 831), (453, .at 821), (452, .at 821), (451, .at 821), (450, .at 821), (446, .at 821), (444, .at 821), (443, .at 821), (442, .at 821), (441, .at 821), (434, .at 831), (433, .at 831), (429, .at 831), (410, .at 831), (401, .at 834), (400, .at 834), (397, .at 834), (396, .at 834), (389, .at 834), (370, .at 834), (336, .at 831), (334, .at 821), (333, .at 821), (332, .at 821), (331, .at 821), (327, .at 821), (325, .at 821), (324, .at 821), (323, .at 821), (322, .at 821), (315, .at 831), (314, .at 831), (308, .at 831), (306, .at 831), (304, .at 831), (302, .at 831), (300, .at 831), (291, .at 835), (290, .at 835), (287, .at 835), (286, .at 835), (283, .at 835), (282, .at 835), (279, .at 835), (278, .at 835), (275, .at 835), (274, .at 835), (267, .at 835), (259, .at 835), (250, .at 835), (241, .at 835), (232, .at 835), (224, .at 836), (223, .at 836), (222, .opAt 1 836), (219, .at 835), (211, .at 835), (202, .at 835), (193, .at 835), (184, .at 835), (173, .at 835), (171, .at 835), (162, .at 837), (161, .at 837), (158, .at 837), (157, .at 837), (147, .at 837), (145, .op 15), (139, .at 837), (138, .at 837), (131, .at 837), (129, .op 15), (123, .at 837), (122, .at 837), (119, .con 1), (116, .at 837), (107, .at 831), (106, .at 831), (102, .at 831), (100, .at 821), (99, .at 821), (98, .at 821), (97, .at 821), (92, .at 831), (90, .at 831), (88, .at 831), (79, .at 838), (78, .at 838), (75, .at 838), (74, .at 838), (71, .at 838), (70, .at 838), (63, .at 838), (53, .at 838), (50, .op 4), (47, .at 838), (42, .at 821), (40, .at 821), (39, .at 821), (38, .at 821), (31, .at 819), (29, .at 820), (28, .at 820), (26, .at 820), (24, .at 820), (22, .at 820), (13, .at 819), (10, .at 821), (9, .at 821), (8, .at 821), (6, .at 821), (4, .at 821)]
set_option maxHeartbeats 0 in
theorem run_gGcd0 {w : World} {P0 : Params} {b1 b2 : Bool} {τ τs δ : Nat} {p : Pos} {e1 : List Stmt} {e2 : Env} {p1 p2 : Pos} {a : Args} {x y : Int} {tx ty : Nat} {u : Nat → Nat} {F : Int → Nat → List (Nat × Nat) → List (Option Obj) → Prop} :
    sim (SR w (fol P0 b1 b2) [] id 810 810 [] (FintO F) (consG (fol P0 b1 b2) false x y)) 2070 ⟨h_gGcd, [(τ, fun _ => 0)]⟩ [(810, δ)] τ (puts .nil (nmI (fol P0 b1 b2) u ++ nm5 (fol P0 b1 b2) u 586 616 647 676 793 ++ [(793, key5 u)])) 810 690 ⟨toldCode wGcd (Nat.add τs 690) x tx y ty, none, none, [(.func e1 e2, p1), (.builtin id_caller a, p2)], none⟩ p .base (den (toldCode wGcd (Nat.add τs 690) x tx y ty)) =
    (ads [(810, δ)] [810, 810, 810, 810, 810, 810, 810, 810, 810, 810, 811, 811, 811, 811, 811, 811, 811, 811, 811, 812, 812, 812, 812, 812, 812, 812, 812, 812, 812, 811, 813, 813, 813, 813, 813, 813, 813, 813, 813, 813, 813, 813, 814, 814, 814, 814, 814, 814, 814, 814, 814, 814, 813, 813, 813, 813, 810, 810, 810, 810, 810, 810, 819, 819, 819, 819, 819, 819, 819, 819, 819, 819, 819, 819, 820, 820, 820, 820, 820, 819, 820, 820, 820, 820, 820, 820, 820, 820, 820, 819, 819, 819, 818, 818, 818, 818, 818, 819, 819, 819, 819, 819, 819, 819, 819, 818, 818, 818, 818, 818, 822, 822, 822, 822, 822, 822, 823, 823, 823, 823, 823, 823, 822, 822, 822, 822, 824, 824, 824, 824, 824, 824, 822, 822, 822, 822, 825, 825, 825, 825, 825, 825, 822, 826, 826, 826, 826, 826, 826, 826, 819, 820, 820, 820, 820, 819, 818, 818, 818, 818, 818, 820, 820, 820, 820, 819, 818, 818, 818, 818, 818, 817, 817, 817, 817, 817, 817, 828, 828, 828, 828, 828, 828, 828, 828, 828, 828, 828, 828, 817, 817, 817, 817, 817, 828, 828, 828, 819, 819, 819, 820, 820, 820, 820, 819, 820, 820, 820, 820, 828, 828, 828, 828, 817, 817, 817, 817, 817, 828, 828, 828, 819, 819, 819, 820, 820, 820, 820, 819, 820, 820, 820, 820, 828, 828, 828, 828, 828, 828, 828, 828, 830, 819, 820, 820, 820, 820, 820, 819, 820, 820, 820, 820, 820, 820, 820, 820, 820, 819, 819, 819, 815, 815, 815, 815, 815, 819, 819, 819, 819, 819, 821, 821, 821, 821, 819, 815, 815, 815, 815, 815, 821, 821, 821, 821, 819, 820, 820, 820, 820, 820, 819, 820, 820, 820, 820, 820, 820, 820, 820, 820, 819, 819, 819, 816, 816, 816, 816, 816, 819, 819, 819, 819, 819, 821, 821, 821, 821, 819, 816, 816, 816, 816, 816, 821, 821, 821, 821, 819, 820, 820, 820, 820, 820, 819, 820, 820, 820, 820, 820, 820, 820, 820, 820, 819, 819, 819, 827, 827, 827, 827, 827, 819, 819, 819, 819, 819, 827, 827, 827, 827, 827, 819, 819, 831, 831, 831, 831, 831, 831, 831, 831, 831, 831, 831, 832, 832, 832, 832, 832, 832, 833, 833, 833, 833, 833, 833, 831, 831, 831, 821, 821, 821, 821, 821, 821, 821, 821, 821, 831, 831, 831, 831, 834, 834, 834, 834, 834, 834, 831, 821, 821, 821, 821, 821, 821, 821, 821, 821, 831, 831, 831, 831, 831, 831, 831, 835, 835, 835, 835, 835, 835, 835, 835, 835, 835, 835, 835, 835, 835, 835, 836, 836, 836, 835, 835, 835, 835, 835, 835, 835, 837, 837, 837, 837, 837] (∀ (τ1 x1 : Nat), ads [(810, δ)] [837, 837, 837] (∀ (τ2 x2 : Nat), ads [(810, δ)] [837, 837] (((consG (fol P0 b1 b2) false x y 1 [(τ2, fun _ => x2), (τ1, fun _ => x1), (τ, fun _ => 0)] [(810, δ)] τ2 838 825).code = (consG (fol P0 b1 b2) false x y 1 [(τ2, fun _ => x2), (τ1, fun _ => x1), (τ, fun _ => 0)] [(810, δ)] τ2 838 825).code) ∧ selfs (consG (fol P0 b1 b2) false x y 1 [(τ2, fun _ => x2), (τ1, fun _ => x1), (τ, fun _ => 0)] [(810, δ)] τ2 838 825).need ∧ ∀ (d : Nat) (_ : Nat) (_ : Nat → Nat), ads [(838, d), (810, δ)] [837, 831, 831, 831, 821, 821, 821, 821, 831, 831, 831, 838, 838, 838, 838, 838, 838, 838, 838] ((¬ ((Builtin.Int.intBits ((Int.gcd (x.natAbs : Int) (y.natAbs : Int) : Int)) : Nat) : Int) > 100000) ∧ ads [(838, d), (810, δ)] [838, 821, 821, 821, 821, 819, 820, 820, 820, 820, 820, 819, 821, 821, 821, 821, 821] (F ((Int.gcd (x.natAbs : Int) (y.natAbs : Int) : Int)) 839 [(838, d), (810, δ)] [])))))) := by
  cases b1 <;> kernel_rfl
noncomputable def c_gGcd0 (P : Params) (u : Nat → Nat) (x : Int) (tx : Nat) (y : Int) (ty sg τ' n i : Nat) : Con := cTold wGcd (nmI P u ++ nm5 P u 586 616 647 676 793 ++ [(793, key5 u)]) .any ((Int.gcd (x.natAbs : Int) (y.natAbs : Int) : Int)) (fun _ => []) x tx y ty sg τ' i
theorem c_gGcd0_valid {w : World} {P0 : Params} {b1 b2 : Bool} (hP : fol P0 b1 b2 = w.params) {u : Nat → Nat} {x y : Int} (hb : ¬ ((Builtin.Int.intBits (Int.gcd (x.natAbs : Int) (y.natAbs : Int) : Int) : Nat) : Int) > 100000) {tx ty sg τ' n i : Nat} {U A st js F cons} (rs) (τ : Nat) :
    (c_gGcd0 (fol P0 b1 b2) u x tx y ty sg τ' n i).Valid (SR w (fol P0 b1 b2) U A st 810 js F cons) rs τ := by
  unfold c_gGcd0
  unfold cTold
  split
  rotate_left
  · exact nocon_valid
  rename_i hi0
  obtain ⟨τs, hτ⟩ := tok_form (τ := τ') hi0
  rw [hτ]
  refine Con.valid_any (cons := consG (fol P0 b1 b2) false x y) (SR_base hP) rfl rfl (by show 369 ≤ 810; omega) (by kernel_rfl) (fun _ _ => rfl) (fun _ _ => rfl) (consG_valid hP) ?_
  intro Γ p δ τr hok hc
  obtain ⟨l, hΓ, hs0⟩ := okS_is hok
  obtain ⟨e1, e2, p1, l, rfl, hs1⟩ := shp1 hs0
  obtain ⟨a, p2, rfl⟩ := shp4 hs1
  rw [hc] at hΓ
  rw [hΓ]
  refine ⟨FintO (fun v m rs os => v = (Int.gcd (x.natAbs : Int) (y.natAbs : Int) : Int)), 2070, ⟨h_gGcd, [(τr, fun _ => 0)]⟩, ?_, ?_⟩
  · intro e m rs' τ' j os hF
    obtain ⟨x0, t, rfl, rfl⟩ := FintO_is hF
    exact ⟨fun _ => t, rfl⟩
  · refine cast (run_gGcd0).symm ?_
    exact ads_i (fun _ _ => ads_i (fun _ _ => ads_i (⟨rfl, selfs_all _, fun _ _ _ => ads_i (⟨hb, ads_i (rfl) _⟩) _⟩) _) _) _
set_option maxHeartbeats 0 in
theorem run_gGcd1 {w : World} {P0 : Params} {b1 b2 : Bool} {τ τs δ : Nat} {p : Pos} {e1 : List Stmt} {e2 : Env} {p1 p2 : Pos} {a : Args} {x y : Int} {tx ty : Nat} {u : Nat → Nat} {F : Int → Nat → List (Nat × Nat) → List (Option Obj) → Prop} :
    sim (SR w (fol P0 b1 b2) [] id 810 810 [] (FintO F) (consG (fol P0 b1 b2) false x y)) 2070 ⟨h_gGcd, [(τ, fun _ => 0)]⟩ [(810, δ)] τ (puts .nil (nmI (fol P0 b1 b2) u ++ nm5 (fol P0 b1 b2) u 587 617 648 677 794 ++ [(794, key5 u)])) 810 690 ⟨toldCode wGcd (Nat.add τs 690) x tx y ty, none, none, [(.func e1 e2, p1), (.builtin id_caller a, p2)], none⟩ p .base (den (toldCode wGcd (Nat.add τs 690) x tx y ty)) =
    (ads [(810, δ)] [810, 810, 810, 810, 810, 810, 810, 810, 810, 810, 811, 811, 811, 811, 811, 811, 811, 811, 811, 812, 812, 812, 812, 812, 812, 812, 812, 812, 812, 811, 813, 813, 813, 813, 813, 813, 813, 813, 813, 813, 813, 813, 814, 814, 814, 814, 814, 814, 814, 814, 814, 814, 813, 813, 813, 813, 810, 810, 810, 810, 810, 810, 819, 819, 819, 819, 819, 819, 819, 819, 819, 819, 819, 819, 820, 820, 820, 820, 820, 819, 820, 820, 820, 820, 820, 820, 820, 820, 820, 819, 819, 819, 818, 818, 818, 818, 818, 819, 819, 819, 819, 819, 819, 819, 819, 818, 818, 818, 818, 818, 822, 822, 822, 822, 822, 822, 823, 823, 823, 823, 823, 823, 822, 822, 822, 822, 824, 824, 824, 824, 824, 824, 822, 822, 822, 822, 825, 825, 825, 825, 825, 825, 822, 826, 826, 826, 826, 826, 826, 826, 819, 820, 820, 820, 820, 819, 818, 818, 818, 818, 818, 820, 820, 820, 820, 819, 818, 818, 818, 818, 818, 817, 817, 817, 817, 817, 817, 828, 828, 828, 828, 828, 828, 828, 828, 828, 828, 828, 828, 817, 817, 817, 817, 817, 828, 828, 828, 819, 819, 819, 820, 820, 820, 820, 819, 820, 820, 820, 820, 828, 828, 828, 828, 817, 817, 817, 817, 817, 828, 828, 828, 819, 819, 819, 820, 820, 820, 820, 819, 820, 820, 820, 820, 828, 828, 828, 828, 828, 828, 828, 828, 830, 819, 820, 820, 820, 820, 820, 819, 820, 820, 820, 820, 820, 820, 820, 820, 820, 819, 819, 819, 815, 815, 815, 815, 815, 819, 819, 819, 819, 819, 821, 821, 821, 821, 819, 815, 815, 815, 815, 815, 821, 821, 821, 821, 819, 820, 820, 820, 820, 820, 819, 820, 820, 820, 820, 820, 820, 820, 820, 820, 819, 819, 819, 816, 816, 816, 816, 816, 819, 819, 819, 819, 819, 821, 821, 821, 821, 819, 816, 816, 816, 816, 816, 821, 821, 821, 821, 819, 820, 820, 820, 820, 820, 819, 820, 820, 820, 820, 820, 820, 820, 820, 820, 819, 819, 819, 827, 827, 827, 827, 827, 819, 819, 819, 819, 819, 827, 827, 827, 827, 827, 819, 819, 831, 831, 831, 831, 831, 831, 831, 831, 831, 831, 831, 832, 832, 832, 832, 832, 832, 833, 833, 833, 833, 833, 833, 831, 831, 831, 821, 821, 821, 821, 821, 821, 821, 821, 821, 831, 831, 831, 831, 834, 834, 834, 834, 834, 834, 831, 821, 821, 821, 821, 821, 821, 821, 821, 821, 831, 831, 831, 831, 831, 831, 831, 835, 835, 835, 835, 835, 835, 835, 835, 835, 835, 835, 835, 835, 835, 835, 836, 836, 836, 835, 835, 835, 835, 835, 835, 835, 837, 837, 837, 837, 837] (∀ (τ1 x1 : Nat), ads [(810, δ)] [837, 837, 837] (∀ (τ2 x2 : Nat), ads [(810, δ)] [837, 837] (((consG (fol P0 b1 b2) false x y 1 [(τ2, fun _ => x2), (τ1, fun _ => x1), (τ, fun _ => 0)] [(810, δ)] τ2 838 825).code = (consG (fol P0 b1 b2) false x y 1 [(τ2, fun _ => x2), (τ1, fun _ => x1), (τ, fun _ => 0)] [(810, δ)] τ2 838 825).code) ∧ selfs (consG (fol P0 b1 b2) false x y 1 [(τ2, fun _ => x2), (τ1, fun _ => x1), (τ, fun _ => 0)] [(810, δ)] τ2 838 825).need ∧ ∀ (d : Nat) (_ : Nat) (_ : Nat → Nat), ads [(838, d), (810, δ)] [837, 831, 831, 831, 821, 821, 821, 821, 831, 831, 831, 838, 838, 838, 838, 838, 838, 838, 838] ((¬ ((Builtin.Int.intBits ((Int.gcd (x.natAbs : Int) (y.natAbs : Int) : Int)) : Nat) : Int) > 100000) ∧ ads [(838, d), (810, δ)] [838, 821, 821, 821, 821, 819, 820, 820, 820, 820, 820, 819, 821, 821, 821, 821, 821] (F ((Int.gcd (x.natAbs : Int) (y.natAbs : Int) : Int)) 839 [(838, d), (810, δ)] [])))))) := by
  cases b1 <;> kernel_rfl
noncomputable def c_gGcd1 (P : Params) (u : Nat → Nat) (x : Int) (tx : Nat) (y : Int) (ty sg τ' n i : Nat) : Con := cTold wGcd (nmI P u ++ nm5 P u 587 617 648 677 794 ++ [(794, key5 u)]) .any ((Int.gcd (x.natAbs : Int) (y.natAbs : Int) : Int)) (fun _ => []) x tx y ty sg τ' i
theorem c_gGcd1_valid {w : World} {P0 : Params} {b1 b2 : Bool} (hP : fol P0 b1 b2 = w.params) {u : Nat → Nat} {x y : Int} (hb : ¬ ((Builtin.Int.intBits (Int.gcd (x.natAbs : Int) (y.natAbs : Int) : Int) : Nat) : Int) > 100000) {tx ty sg τ' n i : Nat} {U A st js F cons} (rs) (τ : Nat) :
    (c_gGcd1 (fol P0 b1 b2) u x tx y ty sg τ' n i).Valid (SR w (fol P0 b1 b2) U A st 810 js F cons) rs τ := by
  unfold c_gGcd1
  unfold cTold
  split
  rotate_left
  · exact nocon_valid
  rename_i hi0
  obtain ⟨τs, hτ⟩ := tok_form (τ := τ') hi0
  rw [hτ]
  refine Con.valid_any (cons := consG (fol P0 b1 b2) false x y) (SR_base hP) rfl rfl (by show 369 ≤ 810; omega) (by kernel_rfl) (fun _ _ => rfl) (fun _ _ => rfl) (consG_valid hP) ?_
  intro Γ p δ τr hok hc
  obtain ⟨l, hΓ, hs0⟩ := okS_is hok
  obtain ⟨e1, e2, p1, l, rfl, hs1⟩ := shp1 hs0
  obtain ⟨a, p2, rfl⟩ := shp4 hs1
  rw [hc] at hΓ
  rw [hΓ]
  refine ⟨FintO (fun v m rs os => v = (Int.gcd (x.natAbs : Int) (y.natAbs : Int) : Int)), 2070, ⟨h_gGcd, [(τr, fun _ => 0)]⟩, ?_, ?_⟩
  · intro e m rs' τ' j os hF
    obtain ⟨x0, t, rfl, rfl⟩ := FintO_is hF
    exact ⟨fun _ => t, rfl⟩
  · refine cast (run_gGcd1).symm ?_
    exact ads_i (fun _ _ => ads_i (fun _ _ => ads_i (⟨rfl, selfs_all _, fun _ _ _ => ads_i (⟨hb, ads_i (rfl) _⟩) _⟩) _) _) _
set_option maxHeartbeats 0 in
theorem run_gGcd4 {w : World} {P0 : Params} {b1 b2 : Bool} {τ τs δ : Nat} {p : Pos} {e1 : List Stmt} {e2 : Env} {p1 p2 : Pos} {a : Args} {x y : Int} {tx ty : Nat} {u : Nat → Nat} {F : Int → Nat → List (Nat × Nat) → List (Option Obj) → Prop} :
    sim (SR w (fol P0 b1 b2) [] id 810 810 [] (FintO F) (consG (fol P0 b1 b2) false x y)) 2070 ⟨h_gGcd, [(τ, fun _ => 0)]⟩ [(810, δ)] τ (puts .nil (nmI (fol P0 b1 b2) u ++ nm5 (fol P0 b1 b2) u 586 616 647 676 797 ++ [(797, key5 u)])) 810 690 ⟨toldCode wGcd (Nat.add τs 690) x tx y ty, none, none, [(.func e1 e2, p1), (.builtin id_caller a, p2)], none⟩ p .base (den (toldCode wGcd (Nat.add τs 690) x tx y ty)) =
    (ads [(810, δ)] [810, 810, 810, 810, 810, 810, 810, 810, 810, 810, 811, 811, 811, 811, 811, 811, 811, 811, 811, 812, 812, 812, 812, 812, 812, 812, 812, 812, 812, 811, 813, 813, 813, 813, 813, 813, 813, 813, 813, 813, 813, 813, 814, 814, 814, 814, 814, 814, 814, 814, 814, 814, 813, 813, 813, 813, 810, 810, 810, 810, 810, 810, 819, 819, 819, 819, 819, 819, 819, 819, 819, 819, 819, 819, 820, 820, 820, 820, 820, 819, 820, 820, 820, 820, 820, 820, 820, 820, 820, 819, 819, 819, 818, 818, 818, 818, 818, 819, 819, 819, 819, 819, 819, 819, 819, 818, 818, 818, 818, 818, 822, 822, 822, 822, 822, 822, 823, 823, 823, 823, 823, 823, 822, 822, 822, 822, 824, 824, 824, 824, 824, 824, 822, 822, 822, 822, 825, 825, 825, 825, 825, 825, 822, 826, 826, 826, 826, 826, 826, 826, 819, 820, 820, 820, 820, 819, 818, 818, 818, 818, 818, 820, 820, 820, 820, 819, 818, 818, 818, 818, 818, 817, 817, 817, 817, 817, 817, 828, 828, 828, 828, 828, 828, 828, 828, 828, 828, 828, 828, 817, 817, 817, 817, 817, 828, 828, 828, 819, 819, 819, 820, 820, 820, 820, 819, 820, 820, 820, 820, 828, 828, 828, 828, 817, 817, 817, 817, 817, 828, 828, 828, 819, 819, 819, 820, 820, 820, 820, 819, 820, 820, 820, 820, 828, 828, 828, 828, 828, 828, 828, 828, 830, 819, 820, 820, 820, 820, 820, 819, 820, 820, 820, 820, 820, 820, 820, 820, 820, 819, 819, 819, 815, 815, 815, 815, 815, 819, 819, 819, 819, 819, 821, 821, 821, 821, 819, 815, 815, 815, 815, 815, 821, 821, 821, 821, 819, 820, 820, 820, 820, 820, 819, 820, 820, 820, 820, 820, 820, 820, 820, 820, 819, 819, 819, 816, 816, 816, 816, 816, 819, 819, 819, 819, 819, 821, 821, 821, 821, 819, 816, 816, 816, 816, 816, 821, 821, 821, 821, 819, 820, 820, 820, 820, 820, 819, 820, 820, 820, 820, 820, 820, 820, 820, 820, 819, 819, 819, 827, 827, 827, 827, 827, 819, 819, 819, 819, 819, 827, 827, 827, 827, 827, 819, 819, 831, 831, 831, 831, 831, 831, 831, 831, 831, 831, 831, 832, 832, 832, 832, 832, 832, 833, 833, 833, 833, 833, 833, 831, 831, 831, 821, 821, 821, 821, 821, 821, 821, 821, 821, 831, 831, 831, 831, 834, 834, 834, 834, 834, 834, 831, 821, 821, 821, 821, 821, 821, 821, 821, 821, 831, 831, 831, 831, 831, 831, 831, 835, 835, 835, 835, 835, 835, 835, 835, 835, 835, 835, 835, 835, 835, 835, 836, 836, 836, 835, 835, 835, 835, 835, 835, 835, 837, 837, 837, 837, 837] (∀ (τ1 x1 : Nat), ads [(810, δ)] [837, 837, 837] (∀ (τ2 x2 : Nat), ads [(810, δ)] [837, 837] (((consG (fol P0 b1 b2) false x y 1 [(τ2, fun _ => x2), (τ1, fun _ => x1), (τ, fun _ => 0)] [(810, δ)] τ2 838 825).code = (consG (fol P0 b1 b2) false x y 1 [(τ2, fun _ => x2), (τ1, fun _ => x1), (τ, fun _ => 0)] [(810, δ)] τ2 838 825).code) ∧ selfs (consG (fol P0 b1 b2) false x y 1 [(τ2, fun _ => x2), (τ1, fun _ => x1), (τ, fun _ => 0)] [(810, δ)] τ2 838 825).need ∧ ∀ (d : Nat) (_ : Nat) (_ : Nat → Nat), ads [(838, d), (810, δ)] [837, 831, 831, 831, 821, 821, 821, 821, 831, 831, 831, 838, 838, 838, 838, 838, 838, 838, 838] ((¬ ((Builtin.Int.intBits ((Int.gcd (x.natAbs : Int) (y.natAbs : Int) : Int)) : Nat) : Int) > 100000) ∧ ads [(838, d), (810, δ)] [838, 821, 821, 821, 821, 819, 820, 820, 820, 820, 820, 819, 821, 821, 821, 821, 821] (F ((Int.gcd (x.natAbs : Int) (y.natAbs : Int) : Int)) 839 [(838, d), (810, δ)] [])))))) := by
  cases b1 <;> kernel_rfl
noncomputable def c_gGcd4 (P : Params) (u : Nat → Nat) (x : Int) (tx : Nat) (y : Int) (ty sg τ' n i : Nat) : Con := cTold wGcd (nmI P u ++ nm5 P u 586 616 647 676 797 ++ [(797, key5 u)]) .any ((Int.gcd (x.natAbs : Int) (y.natAbs : Int) : Int)) (fun _ => []) x tx y ty sg τ' i
theorem c_gGcd4_valid {w : World} {P0 : Params} {b1 b2 : Bool} (hP : fol P0 b1 b2 = w.params) {u : Nat → Nat} {x y : Int} (hb : ¬ ((Builtin.Int.intBits (Int.gcd (x.natAbs : Int) (y.natAbs : Int) : Int) : Nat) : Int) > 100000) {tx ty sg τ' n i : Nat} {U A st js F cons} (rs) (τ : Nat) :
    (c_gGcd4 (fol P0 b1 b2) u x tx y ty sg τ' n i).Valid (SR w (fol P0 b1 b2) U A st 810 js F cons) rs τ := by
  unfold c_gGcd4
  unfold cTold
  split
  rotate_left
  · exact nocon_valid
  rename_i hi0
  obtain ⟨τs, hτ⟩ := tok_form (τ := τ') hi0
  rw [hτ]
  refine Con.valid_any (cons := consG (fol P0 b1 b2) false x y) (SR_base hP) rfl rfl (by show 369 ≤ 810; omega) (by kernel_rfl) (fun _ _ => rfl) (fun _ _ => rfl) (consG_valid hP) ?_
  intro Γ p δ τr hok hc
  obtain ⟨l, hΓ, hs0⟩ := okS_is hok
  obtain ⟨e1, e2, p1, l, rfl, hs1⟩ := shp1 hs0
  obtain ⟨a, p2, rfl⟩ := shp4 hs1
  rw [hc] at hΓ
  rw [hΓ]
  refine ⟨FintO (fun v m rs os => v = (Int.gcd (x.natAbs : Int) (y.natAbs : Int) : Int)), 2070, ⟨h_gGcd, [(τr, fun _ => 0)]⟩, ?_, ?_⟩
  · intro e m rs' τ' j os hF
    obtain ⟨x0, t, rfl, rfl⟩ := FintO_is hF
    exact ⟨fun _ => t, rfl⟩
  · refine cast (run_gGcd4).symm ?_
    exact ads_i (fun _ _ => ads_i (fun _ _ => ads_i (⟨rfl, selfs_all _, fun _ _ _ => ads_i (⟨hb, ads_i (rfl) _⟩) _⟩) _) _) _
set_option maxHeartbeats 0 in
theorem run_gGcd5 {w : World} {P0 : Params} {b1 b2 : Bool} {τ τs δ : Nat} {p : Pos} {e1 : List Stmt} {e2 : Env} {p1 p2 : Pos} {a : Args} {x y : Int} {tx ty : Nat} {u : Nat → Nat} {F : Int → Nat → List (Nat × Nat) → List (Option Obj) → Prop} :
    sim (SR w (fol P0 b1 b2) [] id 810 810 [] (FintO F) (consG (fol P0 b1 b2) false x y)) 2070 ⟨h_gGcd, [(τ, fun _ => 0)]⟩ [(810, δ)] τ (puts .nil (nmI (fol P0 b1 b2) u ++ nm5 (fol P0 b1 b2) u 587 617 648 677 798 ++ [(798, key5 u)])) 810 690 ⟨toldCode wGcd (Nat.add τs 690) x tx y ty, none, none, [(.func e1 e2, p1), (.builtin id_caller a, p2)], none⟩ p .base (den (toldCode wGcd (Nat.add τs 690) x tx y ty)) =
    (ads [(810, δ)] [810, 810, 810, 810, 810, 810, 810, 810, 810, 810, 811, 811, 811, 811, 811, 811, 811, 811, 811, 812, 812, 812, 812, 812, 812, 812, 812, 812, 812, 811, 813, 813, 813, 813, 813, 813, 813, 813, 813, 813, 813, 813, 814, 814, 814, 814, 814, 814, 814, 814, 814, 814, 813, 813, 813, 813, 810, 810, 810, 810, 810, 810, 819, 819, 819, 819, 819, 819, 819, 819, 819, 819, 819, 819, 820, 820, 820, 820, 820, 819, 820, 820, 820, 820, 820, 820, 820, 820, 820, 819, 819, 819, 818, 818, 818, 818, 818, 819, 819, 819, 819, 819, 819, 819, 819, 818, 818, 818, 818, 818, 822, 822, 822, 822, 822, 822, 823, 823, 823, 823, 823, 823, 822, 822, 822, 822, 824, 824, 824, 824, 824, 824, 822, 822, 822, 822, 825, 825, 825, 825, 825, 825, 822, 826, 826, 826, 826, 826, 826, 826, 819, 820, 820, 820, 820, 819, 818, 818, 818, 818, 818, 820, 820, 820, 820, 819, 818, 818, 818, 818, 818, 817, 817, 817, 817, 817, 817, 828, 828, 828, 828, 828, 828, 828, 828, 828, 828, 828, 828, 817, 817, 817, 817, 817, 828, 828, 828, 819, 819, 819, 820, 820, 820, 820, 819, 820, 820, 820, 820, 828, 828, 828, 828, 817, 817, 817, 817, 817, 828, 828, 828, 819, 819, 819, 820, 820, 820, 820, 819, 820, 820, 820, 820, 828, 828, 828, 828, 828, 828, 828, 828, 830, 819, 820, 820, 820, 820, 820, 819, 820, 820, 820, 820, 820, 820, 820, 820, 820, 819, 819, 819, 815, 815, 815, 815, 815, 819, 819, 819, 819, 819, 821, 821, 821, 821, 819, 815, 815, 815, 815, 815, 821, 821, 821, 821, 819, 820, 820, 820, 820, 820, 819, 820, 820, 820, 820, 820, 820, 820, 820, 820, 819, 819, 819, 816, 816, 816, 816, 816, 819, 819, 819, 819, 819, 821, 821, 821, 821, 819, 816, 816, 816, 816, 816, 821, 821, 821, 821, 819, 820, 820, 820, 820, 820, 819, 820, 820, 820, 820, 820, 820, 820, 820, 820, 819, 819, 819, 827, 827, 827, 827, 827, 819, 819, 819, 819, 819, 827, 827, 827, 827, 827, 819, 819, 831, 831, 831, 831, 831, 831, 831, 831, 831, 831, 831, 832, 832, 832, 832, 832, 832, 833, 833, 833, 833, 833, 833, 831, 831, 831, 821, 821, 821, 821, 821, 821, 821, 821, 821, 831, 831, 831, 831, 834, 834, 834, 834, 834, 834, 831, 821, 821, 821, 821, 821, 821, 821, 821, 821, 831, 831, 831, 831, 831, 831, 831, 835, 835, 835, 835, 835, 835, 835, 835, 835, 835, 835, 835, 835, 835, 835, 836, 836, 836, 835, 835, 835, 835, 835, 835, 835, 837, 837, 837, 837, 837] (∀ (τ1 x1 : Nat), ads [(810, δ)] [837, 837, 837] (∀ (τ2 x2 : Nat), ads [(810, δ)] [837, 837] (((consG (fol P0 b1 b2) false x y 1 [(τ2, fun _ => x2), (τ1, fun _ => x1), (τ, fun _ => 0)] [(810, δ)] τ2 838 825).code = (consG (fol P0 b1 b2) false x y 1 [(τ2, fun _ => x2), (τ1, fun _ => x1), (τ, fun _ => 0)] [(810, δ)] τ2 838 825).code) ∧ selfs (consG (fol P0 b1 b2) false x y 1 [(τ2, fun _ => x2), (τ1, fun _ => x1), (τ, fun _ => 0)] [(810, δ)] τ2 838 825).need ∧ ∀ (d : Nat) (_ : Nat) (_ : Nat → Nat), ads [(838, d), (810, δ)] [837, 831, 831, 831, 821, 821, 821, 821, 831, 831, 831, 838, 838, 838, 838, 838, 838, 838, 838] ((¬ ((Builtin.Int.intBits ((Int.gcd (x.natAbs : Int) (y.natAbs : Int) : Int)) : Nat) : Int) > 100000) ∧ ads [(838, d), (810, δ)] [838, 821, 821, 821, 821, 819, 820, 820, 820, 820, 820, 819, 821, 821, 821, 821, 821] (F ((Int.gcd (x.natAbs : Int) (y.natAbs : Int) : Int)) 839 [(838, d), (810, δ)] [])))))) := by
  cases b1 <;> kernel_rfl
noncomputable def c_gGcd5 (P : Params) (u : Nat → Nat) (x : Int) (tx : Nat) (y : Int) (ty sg τ' n i : Nat) : Con := cTold wGcd (nmI P u ++ nm5 P u 587 617 648 677 798 ++ [(798, key5 u)]) .any ((Int.gcd (x.natAbs : Int) (y.natAbs : Int) : Int)) (fun _ => []) x tx y ty sg τ' i
theorem c_gGcd5_valid {w : World} {P0 : Params} {b1 b2 : Bool} (hP : fol P0 b1 b2 = w.params) {u : Nat → Nat} {x y : Int} (hb : ¬ ((Builtin.Int.intBits (Int.gcd (x.natAbs : Int) (y.natAbs : Int) : Int) : Nat) : Int) > 100000) {tx ty sg τ' n i : Nat} {U A st js F cons} (rs) (τ : Nat) :
    (c_gGcd5 (fol P0 b1 b2) u x tx y ty sg τ' n i).Valid (SR w (fol P0 b1 b2) U A st 810 js F cons) rs τ := by
  unfold c_gGcd5
  unfold cTold
  split
  rotate_left
  · exact nocon_valid
  rename_i hi0
  obtain ⟨τs, hτ⟩ := tok_form (τ := τ') hi0
  rw [hτ]
  refine Con.valid_any (cons := consG (fol P0 b1 b2) false x y) (SR_base hP) rfl rfl (by show 369 ≤ 810; omega) (by kernel_rfl) (fun _ _ => rfl) (fun _ _ => rfl) (consG_valid hP) ?_
  intro Γ p δ τr hok hc
  obtain ⟨l, hΓ, hs0⟩ := okS_is hok
  obtain ⟨e1, e2, p1, l, rfl, hs1⟩ := shp1 hs0
  obtain ⟨a, p2, rfl⟩ := shp4 hs1
  rw [hc] at hΓ
  rw [hΓ]
  refine ⟨FintO (fun v m rs os => v = (Int.gcd (x.natAbs : Int) (y.natAbs : Int) : Int)), 2070, ⟨h_gGcd, [(τr, fun _ => 0)]⟩, ?_, ?_⟩
  · intro e m rs' τ' j os hF
    obtain ⟨x0, t, rfl, rfl⟩ := FintO_is hF
    exact ⟨fun _ => t, rfl⟩
  · refine cast (run_gGcd5).symm ?_
    exact ads_i (fun _ _ => ads_i (fun _ _ => ads_i (⟨rfl, selfs_all _, fun _ _ _ => ads_i (⟨hb, ads_i (rfl) _⟩) _⟩) _) _) _
end Mine
end
section
open PySem PySem.W PySem.W.X
namespace Mine
noncomputable def h_sP : List (Nat × H) := [(14, .at 370), (13, .at 370), (6, .at 370), (2, .op 3)]
noncomputable def h_sN : List (Nat × H) := [(25, .at 370), (24, .at 370), (17, .at 370), (13, .op 4), (11, .at 370), (7, .op 1)]
noncomputable def h_sZ : List (Nat × H) := [(20, .at 370), (19, .at 370), (12, .at 370), (8, .op 4), (6, .at 370), (2, .op 2)]
set_option maxHeartbeats 0 in
theorem run_sP {w : World} {P0 : Params} {b1 b2 : Bool} {τ : Nat} {p : Pos} {e1 : List Stmt} {e2 : Env} {p1 p2 : Pos} {a : Args} {δ tx : Nat} {x : Int} {F : Int → Nat → List (Nat × Nat) → Prop} :
    sim (SR w (fol P0 b1 b2) [] id 370 370 [] (Fint F) noc) 20 ⟨h_sP, []⟩ [(370, δ)] τ (puts .nil []) 370 690 ⟨.call (.ref 363) ⟨[.int x tx], []⟩, none, none, [(.func e1 e2, p1), (.builtin id_caller a, p2)], none⟩ p .base (den (.call (.ref 363) ⟨[.int x tx], []⟩)) =
    (ad [(370, δ)] 370 = ad [(370, δ)] 370 ∧ ad [(370, δ)] 370 = ad [(370, δ)] 370 ∧ ad [(370, δ)] 370 = ad [(370, δ)] 370 ∧ (x > 0) ∧ F 1 371 [(370, δ)]) := by
  cases b1 <;> kernel_rfl
set_option maxHeartbeats 0 in
theorem run_sN {w : World} {P0 : Params} {b1 b2 : Bool} {τ : Nat} {p : Pos} {e1 : List Stmt} {e2 : Env} {p1 p2 : Pos} {a : Args} {δ tx : Nat} {x : Int} {F : Int → Nat → List (Nat × Nat) → Prop} :
    sim (SR w (fol P0 b1 b2) [] id 370 370 [] (Fint F) noc) 31 ⟨h_sN, []⟩ [(370, δ)] τ (puts .nil []) 370 690 ⟨.call (.ref 363) ⟨[.int x tx], []⟩, none, none, [(.func e1 e2, p1), (.builtin id_caller a, p2)], none⟩ p .base (den (.call (.ref 363) ⟨[.int x tx], []⟩)) =
    (ad [(370, δ)] 370 = ad [(370, δ)] 370 ∧ ad [(370, δ)] 370 = ad [(370, δ)] 370 ∧ ad [(370, δ)] 370 = ad [(370, δ)] 370 ∧ (¬ x > 0) ∧ ad [(370, δ)] 370 = ad [(370, δ)] 370 ∧ (x < 0) ∧ F (-1) 371 [(370, δ)]) := by
  cases b1 <;> kernel_rfl
set_option maxHeartbeats 0 in
theorem run_sZ {w : World} {P0 : Params} {b1 b2 : Bool} {τ : Nat} {p : Pos} {e1 : List Stmt} {e2 : Env} {p1 p2 : Pos} {a : Args} {δ tx : Nat} {x : Int} {F : Int → Nat → List (Nat × Nat) → Prop} :
    sim (SR w (fol P0 b1 b2) [] id 370 370 [] (Fint F) noc) 26 ⟨h_sZ, []⟩ [(370, δ)] τ (puts .nil []) 370 690 ⟨.call (.ref 363) ⟨[.int x tx], []⟩, none, none, [(.func e1 e2, p1), (.builtin id_caller a, p2)], none⟩ p .base (den (.call (.ref 363) ⟨[.int x tx], []⟩)) =
    (ad [(370, δ)] 370 = ad [(370, δ)] 370 ∧ ad [(370, δ)] 370 = ad [(370, δ)] 370 ∧ ad [(370, δ)] 370 = ad [(370, δ)] 370 ∧ (¬ x > 0) ∧ ad [(370, δ)] 370 = ad [(370, δ)] 370 ∧ (¬ x < 0) ∧ F 0 371 [(370, δ)]) := by
  cases b1 <;> kernel_rfl

noncomputable def sd (x : Int) : Int := if x > 0 then 1 else if x < 0 then -1 else 0
noncomputable def cSd (x : Int) (tx n : Nat) : Con := match Nat.ble 370 n with
  | true => { code := .call (.ref 363) ⟨[.int x tx], []⟩, ok := okS [1, 4], need := [], hp := .lit n (Nat.add n 1), tk := none, res := fun _ x' => .ok (.ret (.int (sd x) (x' 0))), post := fun _ _ => [] }
  | false => nocon
theorem cSd_valid {w : World} {P0 : Params} {b1 b2 : Bool} (hP : fol P0 b1 b2 = w.params) {x : Int} {tx : Nat} {U A st hi js F cons} (rs) (τ n : Nat) :
    (cSd x tx n).Valid (SR w (fol P0 b1 b2) U A st hi js F cons) rs τ := by
  unfold cSd
  split
  · rename_i hn
    have hn := Nat.le_of_ble_eq_true hn
    refine Con.valid_leaf (k := 1) (hi := 370) (cons := noc) (SR_base hP) rfl rfl hn (by show 369 ≤ 370; omega) rfl (fun _ _ => rfl) (fun _ _ => rfl) (fun _ _ _ _ _ _ _ => nocon_valid) ?_
    intro Γ p δ τr hok hc
    obtain ⟨l, hΓ, hs⟩ := okS_is hok
    obtain ⟨e1, e2, p1, l, rfl, hs⟩ := shp1 hs
    obtain ⟨a, p2, rfl⟩ := shp4 hs
    rw [hc] at hΓ
    rw [hΓ]
    have leaf : ∀ v : Int, ∀ e m rs' τ' j os, Fint (fun x m rs => x = v ∧ m = 370 + 1 ∧ rs = [(370, δ)]) e m rs' τ' j os → ∃ x : Nat → Nat, e = .res (.ok (.ret (.int v (x 0)))) ∧ m = 370 + 1 ∧ rs' = [(370, δ)] := by
      intro v e m rs' τ' j os h
      obtain ⟨x, t, rfl, rfl, h2, h3⟩ := Fint_is h
      exact ⟨fun _ => t, rfl, h2, h3⟩
    by_cases h1 : x > 0
    · rw [show sd x = 1 from if_pos h1]
      exact ⟨_, 20, ⟨h_sP, []⟩, leaf _, cast (run_sP).symm ⟨rfl, rfl, rfl, h1, rfl, rfl, rfl⟩⟩
    · by_cases h2 : x < 0
      · rw [show sd x = -1 by unfold sd; rw [if_neg h1, if_pos h2]]
        exact ⟨_, 31, ⟨h_sN, []⟩, leaf _, cast (run_sN).symm ⟨rfl, rfl, rfl, h1, rfl, h2, rfl, rfl, rfl⟩⟩
      · rw [show sd x = 0 by unfold sd; rw [if_neg h1, if_neg h2]]
        exact ⟨_, 26, ⟨h_sZ, []⟩, leaf _, cast (run_sZ).symm ⟨rfl, rfl, rfl, h1, rfl, h2, rfl, rfl, rfl⟩⟩
  · exact nocon_valid
end Mine
end
section
open PySem PySem.W PySem.W.X
namespace Mine
noncomputable def nth (l : List (Nat × (Nat → Nat))) (k : Nat) : Nat × (Nat → Nat) := match k with
  | 0 => match l with
    | [] => (0, fun _ => 0)
    | x :: _ => x
  | k + 1 => match l with
    | [] => (0, fun _ => 0)
    | _ :: l => nth l k
noncomputable def u0 (τ0 : Nat) : Nat → Nat := fun t => Nat.add τ0 (Nat.sub t 690)
noncomputable def cq (C : Con) (X : Prop) : Prop := (C.code = C.code) ∧ selfs C.need ∧ X
noncomputable def Fbool (F : Bool → Prop) : End → Nat → List (Nat × Nat) → Nat → Nat → List (Option Obj) → Prop := fun e _ _ _ _ _ => match e with
  | .res r => match r with
    | .ok fl => match fl with
      | .ret v => match v with
        | .bool x => F x
        | _ => False
      | _ => False
    | .error _ => False
  | .turn .. => False
theorem Fbool_is {F : Bool → Prop} {e m rs τ j os} (h : Fbool F e m rs τ j os) : ∃ x, e = .res (.ok (.ret (.bool x))) ∧ F x := by
  unfold Fbool at h
  split at h
  · split at h
    · split at h
      · split at h
        · exact ⟨_, rfl, h⟩
        · cases h
      · cases h
    · cases h
  · cases h
end Mine
end
section
open PySem PySem.W PySem.W.X
set_option linter.unusedVariables false
namespace Mine
noncomputable def h_law_w0N : List (Nat × H) := [(577, .con 0), (562, .con 1), (547, .con 2), (530, .con 3), (514, .op 19), (510, .op 17), (496, .op 10), (489, .op 10), (482, .op 10), (469, .con 4), (448, .con 5), (427, .con 6), (406, .con 7), (391, .op 18), (379, .op 12), (373, .op 18), (361, .op 12), (353, .op 15), (345, .op 15), (341, .op 8), (335, .op 11), (328, .con 8), (320, .con 9), (316, .op 12), (308, .op 15), (300, .op 15), (296, .op 8), (290, .op 11), (283, .con 10), (275, .con 11), (271, .op 12), (263, .op 4), (250, .op 4), (233, .con 12), (222, .op 12), (213, .op 18), (188, .con 13), (175, .op 12), (163, .con 14), (157, .op 12), (144, .con 15), (129, .op 2), (117, .con 16), (112, .op 12), (100, .con 17), (95, .op 12), (82, .con 18), (76, .op 12), (64, .con 19), (58, .op 12), (47, .op 18), (37, .op 18), (34, .con 20), (28, .op 18), (25, .op 9), (13, .con 21), (5, .op 15), (1, .op 9)]
noncomputable def consL_w0N (P0 : Params) (b1 b2 : Bool) (vs : List Value) (A S T : Int) : ConsTy := fun k ts _ t n i => match k with
  | 0 => (cSy (fol P0 b1 b2) t)
  | 1 => (cWh vs 0 A 0 [] [] t n i)
  | 2 => (cWh vs 1 S 0 [] [] t n i)
  | 3 => (cWh vs 2 T 0 [] [] t n i)
  | 4 => (c_nDtz0 (fol P0 b1 b2) (u0 (nth ts 3).1) A ((nth ts 2).2 0) S ((nth ts 1).2 0) 1 t n i)
  | 5 => (c_nRem0 (fol P0 b1 b2) (updS 2417 (u0 (nth ts 4).1) (nth ts 0).2) A ((nth ts 3).2 0) S ((nth ts 2).2 0) 1 t n i)
  | 6 => (c_nDiv0 (fol P0 b1 b2) (updS 2581 (updS 2417 (u0 (nth ts 5).1) (nth ts 1).2) (nth ts 0).2) A ((nth ts 4).2 0) S ((nth ts 3).2 0) 1 t n i)
  | 7 => (c_nMod0 (fol P0 b1 b2) (updS 2750 (updS 2581 (updS 2417 (u0 (nth ts 6).1) (nth ts 2).2) (nth ts 1).2) (nth ts 0).2) A ((nth ts 5).2 0) S ((nth ts 4).2 0) 1 t n i)
  | 8 => (cSd (A - S * (dtzV A S)) ((nth ts 4).2 0) n)
  | 9 => (cSd A ((nth ts 9).2 0) n)
  | 10 => (cSd (A.fmod S) ((nth ts 6).2 0) n)
  | 11 => (cSd S ((nth ts 12).2 0) n)
  | 12 => (c_fDtz4 (fol P0 b1 b2) (updS 2911 (updS 2750 (updS 2581 (updS 2417 (u0 (nth ts 15).1) (nth ts 11).2) (nth ts 10).2) (nth ts 9).2) (nth ts 8).2) (-A) (Nat.add (nth ts 0).1 2407) S ((nth ts 13).2 0) 2 t n i)
  | 13 => (c_fDiv0 (fol P0 b1 b2) (updS 2911 (updS 2750 (updS 2581 (updS 2417 (u0 (nth ts 16).1) (nth ts 12).2) (nth ts 11).2) (nth ts 10).2) (nth ts 9).2) (A + S * T) (Nat.add (nth ts 0).1 2410) S ((nth ts 14).2 0) 1 t n i)
  | 14 => (c_fMod0 (fol P0 b1 b2) (updS 2911 (updS 2750 (updS 2581 (updS 2417 (u0 (nth ts 17).1) (nth ts 13).2) (nth ts 12).2) (nth ts 11).2) (nth ts 10).2) (A + S * T) (Nat.add (nth ts 1).1 2410) S ((nth ts 15).2 0) 1 t n i)
  | 15 => (c_nGcd4 (fol P0 b1 b2) (updS 2911 (updS 2750 (updS 2581 (updS 2417 (u0 (nth ts 18).1) (nth ts 14).2) (nth ts 13).2) (nth ts 12).2) (nth ts 11).2) A ((nth ts 17).2 0) S ((nth ts 16).2 0) 1 t n i)
  | 16 => (c_gMod4 (fol P0 b1 b2) (updS 3535 (updS 2911 (updS 2750 (updS 2581 (updS 2417 (u0 (nth ts 19).1) (nth ts 15).2) (nth ts 14).2) (nth ts 13).2) (nth ts 12).2) (nth ts 0).2) A ((nth ts 18).2 0) ((Int.gcd ((A).natAbs : Int) ((S).natAbs : Int) : Nat) : Int) ((nth ts 0).2 0) 1 t n i)
  | 17 => (c_gMod4 (fol P0 b1 b2) (updS 3535 (updS 2911 (updS 2750 (updS 2581 (updS 2417 (u0 (nth ts 20).1) (nth ts 16).2) (nth ts 15).2) (nth ts 14).2) (nth ts 13).2) (nth ts 1).2) S ((nth ts 18).2 0) ((Int.gcd ((A).natAbs : Int) ((S).natAbs : Int) : Nat) : Int) ((nth ts 1).2 0) 1 t n i)
  | 18 => (c_gGcd4 (fol P0 b1 b2) (updS 3535 (updS 2911 (updS 2750 (updS 2581 (updS 2417 (u0 (nth ts 21).1) (nth ts 17).2) (nth ts 16).2) (nth ts 15).2) (nth ts 14).2) (nth ts 2).2) S ((nth ts 19).2 0) (A.fmod S) ((nth ts 14).2 0) 1 t n i)
  | 19 => (c_gGcd4 (fol P0 b1 b2) (updS 3535 (updS 2911 (updS 2750 (updS 2581 (updS 2417 (u0 (nth ts 22).1) (nth ts 18).2) (nth ts 17).2) (nth ts 16).2) (nth ts 15).2) (nth ts 3).2) S ((nth ts 20).2 0) A ((nth ts 21).2 0) 1 t n i)
  | 20 => (c_gGcd4 (fol P0 b1 b2) (updS 3535 (updS 2911 (updS 2750 (updS 2581 (updS 2417 (u0 (nth ts 23).1) (nth ts 19).2) (nth ts 18).2) (nth ts 17).2) (nth ts 16).2) (nth ts 4).2) (A * 6) (Nat.add (nth ts 0).1 2426) (S * -6) (Nat.add (nth ts 0).1 2429) 6 t n i)
  | 21 => (c_gGcd4 (fol P0 b1 b2) (updS 3535 (updS 2911 (updS 2750 (updS 2581 (updS 2417 (u0 (nth ts 24).1) (nth ts 20).2) (nth ts 19).2) (nth ts 18).2) (nth ts 17).2) (nth ts 5).2) A ((nth ts 23).2 0) 0 (Nat.add (nth ts 0).1 2433) 2 t n i)
  | _ => nocon
set_option maxHeartbeats 0 in
theorem run_law_w0N {w : World} {P0 : Params} {b1 b2 : Bool} {τ : Nat} {p p1 : Pos} {ag : Args} {vs : List Value} {A S T : Int} {F : Bool → Prop} :
    sim (SR w (fol P0 b1 b2) [] id 370 810 [] (Fbool F) (consL_w0N P0 b1 b2 vs A S T)) 597 ⟨h_law_w0N, [(τ, fun _ => 0)]⟩ [] τ (puts .nil [(369, oList vs)]) 370 690 ⟨.call (.ref 368) ⟨[.ref 369], []⟩, none, none, [(.builtin id_caller ag, p1)], none⟩ p .base (den (.call (.ref 368) ⟨[.ref 369], []⟩)) =
    (cq (cSy (fol P0 b1 b2) τ) (cq (cWh vs 0 A 0 [] [] τ 579 2378) (∀ (τ1 : Nat) (x1 : Nat → Nat), cq (cWh vs 1 S 0 [] [] τ1 580 2379) (∀ (τ2 : Nat) (x2 : Nat → Nat), cq (cWh vs 2 T 0 [] [] τ2 581 2381) (∀ (τ3 : Nat) (x3 : Nat → Nat), ((((⟨vs⟩ : Array Value).size : Nat) : Int) < 2 ^ 63) ∧ ((3 : Int) ≠ 0) ∧ (¬ ((((⟨vs⟩ : Array Value).size : Nat) : Int).fmod 3) = 1) ∧ (¬ ((((⟨vs⟩ : Array Value).size : Nat) : Int).fmod 3) = 2) ∧ (¬ S = 0) ∧ cq (c_nDtz0 (fol P0 b1 b2) (u0 τ) A (x1 0) S (x2 0) 1 τ3 582 2391) (∀ (τ4 : Nat) (x4 : Nat → Nat), cq (c_nRem0 (fol P0 b1 b2) (updS 2417 (u0 τ) x4) A (x1 0) S (x2 0) 1 τ4 612 2393) (∀ (τ5 : Nat) (x5 : Nat → Nat), cq (c_nDiv0 (fol P0 b1 b2) (updS 2581 (updS 2417 (u0 τ) x4) x5) A (x1 0) S (x2 0) 1 τ5 643 2395) (∀ (τ6 : Nat) (x6 : Nat → Nat), cq (c_nMod0 (fol P0 b1 b2) (updS 2750 (updS 2581 (updS 2417 (u0 τ) x4) x5) x6) A (x1 0) S (x2 0) 1 τ6 672 2397) (∀ (τ7 : Nat) (x7 : Nat → Nat), (Builtin.Int.intTooBig (Builtin.Int.intBits (dtzV A S) + Builtin.Int.intBits S) = false) ∧ (¬ (dtzV A S) * S + (A - S * (dtzV A S)) ≠ A) ∧ (Builtin.Int.intTooBig (Builtin.Int.intBits (A.fdiv S) + Builtin.Int.intBits S) = false) ∧ (¬ (A.fdiv S) * S + (A.fmod S) ≠ A) ∧ ∀ (τ8 y8 : Nat), ∀ (τ9 y9 : Nat), (¬ (((A - S * (dtzV A S))).natAbs : Int) ≥ ((S).natAbs : Int)) ∧ ((A - S * (dtzV A S)) ≠ 0) ∧ cq (cSd (A - S * (dtzV A S)) (x5 0) 701) (∀ (τ10 : Nat) (x10 : Nat → Nat), cq (cSd A (x1 0) 702) (∀ (τ11 : Nat) (x11 : Nat → Nat), (¬ sd (A - S * (dtzV A S)) ≠ sd A) ∧ ∀ (τ12 y12 : Nat), ∀ (τ13 y13 : Nat), (¬ (((A.fmod S)).natAbs : Int) ≥ ((S).natAbs : Int)) ∧ ((A.fmod S) ≠ 0) ∧ cq (cSd (A.fmod S) (x7 0) 703) (∀ (τ14 : Nat) (x14 : Nat → Nat), cq (cSd S (x2 0) 704) (∀ (τ15 : Nat) (x15 : Nat → Nat), (¬ sd (A.fmod S) ≠ sd S) ∧ (¬ (A.fdiv S) > (dtzV A S)) ∧ (¬ (dtzV A S) - (A.fdiv S) > 1) ∧ cq (c_fDtz4 (fol P0 b1 b2) (updS 2911 (updS 2750 (updS 2581 (updS 2417 (u0 τ) x4) x5) x6) x7) (-A) (Nat.add τ15 2407) S (x2 0) 2 τ15 705 2408) (∀ (τ16 : Nat) (x16 : Nat → Nat), (¬ dtzV (-A) S ≠ -(dtzV A S)) ∧ (Builtin.Int.intTooBig (Builtin.Int.intBits S + Builtin.Int.intBits T) = false) ∧ cq (c_fDiv0 (fol P0 b1 b2) (updS 2911 (updS 2750 (updS 2581 (updS 2417 (u0 τ) x4) x5) x6) x7) (A + S * T) (Nat.add τ16 2410) S (x2 0) 1 τ16 735 2413) (∀ (τ17 : Nat) (x17 : Nat → Nat), (¬ (A + S * T).fdiv S ≠ (A.fdiv S) + T) ∧ cq (c_fMod0 (fol P0 b1 b2) (updS 2911 (updS 2750 (updS 2581 (updS 2417 (u0 τ) x4) x5) x6) x7) (A + S * T) (Nat.add τ16 2410) S (x2 0) 1 τ17 764 2415) (∀ (τ18 : Nat) (x18 : Nat → Nat), (¬ (A + S * T).fmod S ≠ (A.fmod S)) ∧ cq (c_nGcd4 (fol P0 b1 b2) (updS 2911 (updS 2750 (updS 2581 (updS 2417 (u0 τ) x4) x5) x6) x7) A (x1 0) S (x2 0) 1 τ18 793 2416) (∀ (d19 τ19 : Nat) (x19 : Nat → Nat), (¬ ((Int.gcd ((A).natAbs : Int) ((S).natAbs : Int) : Nat) : Int) < 1) ∧ cq (c_gMod4 (fol P0 b1 b2) (updS 3535 (updS 2911 (updS 2750 (updS 2581 (updS 2417 (u0 τ) x4) x5) x6) x7) x19) A (x1 0) ((Int.gcd ((A).natAbs : Int) ((S).natAbs : Int) : Nat) : Int) (x19 0) 1 τ19 821 2419) (∀ (d20 τ20 : Nat) (x20 : Nat → Nat), (¬ A.fmod ((Int.gcd ((A).natAbs : Int) ((S).natAbs : Int) : Nat) : Int) ≠ 0) ∧ cq (c_gMod4 (fol P0 b1 b2) (updS 3535 (updS 2911 (updS 2750 (updS 2581 (updS 2417 (u0 τ) x4) x5) x6) x7) x19) S (x2 0) ((Int.gcd ((A).natAbs : Int) ((S).natAbs : Int) : Nat) : Int) (x19 0) 1 τ20 821 2421) (∀ (d21 τ21 : Nat) (x21 : Nat → Nat), (¬ S.fmod ((Int.gcd ((A).natAbs : Int) ((S).natAbs : Int) : Nat) : Int) ≠ 0) ∧ cq (c_gGcd4 (fol P0 b1 b2) (updS 3535 (updS 2911 (updS 2750 (updS 2581 (updS 2417 (u0 τ) x4) x5) x6) x7) x19) S (x2 0) (A.fmod S) (x7 0) 1 τ21 821 2423) (∀ (d22 τ22 : Nat) (x22 : Nat → Nat), (¬ ((Int.gcd ((S).natAbs : Int) (((A.fmod S)).natAbs : Int) : Nat) : Int) ≠ ((Int.gcd ((A).natAbs : Int) ((S).natAbs : Int) : Nat) : Int)) ∧ cq (c_gGcd4 (fol P0 b1 b2) (updS 3535 (updS 2911 (updS 2750 (updS 2581 (updS 2417 (u0 τ) x4) x5) x6) x7) x19) S (x2 0) A (x1 0) 1 τ22 821 2424) (∀ (d23 τ23 : Nat) (x23 : Nat → Nat), (¬ ((Int.gcd ((S).natAbs : Int) ((A).natAbs : Int) : Nat) : Int) ≠ ((Int.gcd ((A).natAbs : Int) ((S).natAbs : Int) : Nat) : Int)) ∧ (Builtin.Int.intTooBig (Builtin.Int.intBits A + Builtin.Int.intBits 6) = false) ∧ (Builtin.Int.intTooBig (Builtin.Int.intBits S + Builtin.Int.intBits (-6)) = false) ∧ cq (c_gGcd4 (fol P0 b1 b2) (updS 3535 (updS 2911 (updS 2750 (updS 2581 (updS 2417 (u0 τ) x4) x5) x6) x7) x19) (A * 6) (Nat.add τ23 2426) (S * -6) (Nat.add τ23 2429) 6 τ23 821 2430) (∀ (d24 τ24 : Nat) (x24 : Nat → Nat), (Builtin.Int.intTooBig (Builtin.Int.intBits ((Int.gcd ((A).natAbs : Int) ((S).natAbs : Int) : Nat) : Int) + Builtin.Int.intBits 6) = false) ∧ (((Int.gcd (((A * 6)).natAbs : Int) (((S * -6)).natAbs : Int) : Nat) : Int) = ((Int.gcd ((A).natAbs : Int) ((S).natAbs : Int) : Nat) : Int) * 6) ∧ cq (c_gGcd4 (fol P0 b1 b2) (updS 3535 (updS 2911 (updS 2750 (updS 2581 (updS 2417 (u0 τ) x4) x5) x6) x7) x19) A (x1 0) 0 (Nat.add τ24 2433) 2 τ24 821 2434) (∀ (d25 τ25 : Nat) (x25 : Nat → Nat), ∀ (τ26 y26 : Nat), (((Int.gcd ((A).natAbs : Int) (((0 : Int)).natAbs : Int) : Nat) : Int) = ((A).natAbs : Int)) ∧ F true))))))))))))))))))))))) := by
  cases b1 <;> kernel_rfl
noncomputable def h_law_w0Z : List (Nat × H) := [(539, .con 0), (524, .con 1), (509, .con 2), (492, .con 3), (476, .op 19), (472, .op 17), (458, .op 10), (451, .op 10), (444, .op 10), (431, .con 4), (410, .con 5), (389, .con 6), (368, .con 7), (353, .op 18), (341, .op 12), (335, .op 18), (323, .op 12), (315, .op 15), (307, .op 15), (303, .op 8), (297, .op 12), (289, .op 15), (281, .op 15), (277, .op 8), (271, .op 12), (263, .op 4), (250, .op 4), (233, .con 8), (222, .op 12), (213, .op 18), (188, .con 9), (175, .op 12), (163, .con 10), (157, .op 12), (144, .con 11), (129, .op 2), (117, .con 12), (112, .op 12), (100, .con 13), (95, .op 12), (82, .con 14), (76, .op 12), (64, .con 15), (58, .op 12), (47, .op 18), (37, .op 18), (34, .con 16), (28, .op 18), (25, .op 9), (13, .con 17), (5, .op 15), (1, .op 9)]
noncomputable def consL_w0Z (P0 : Params) (b1 b2 : Bool) (vs : List Value) (A S T : Int) : ConsTy := fun k ts _ t n i => match k with
  | 0 => (cSy (fol P0 b1 b2) t)
  | 1 => (cWh vs 0 A 0 [] [] t n i)
  | 2 => (cWh vs 1 S 0 [] [] t n i)
  | 3 => (cWh vs 2 T 0 [] [] t n i)
  | 4 => (c_nDtz0 (fol P0 b1 b2) (u0 (nth ts 3).1) A ((nth ts 2).2 0) S ((nth ts 1).2 0) 1 t n i)
  | 5 => (c_nRem0 (fol P0 b1 b2) (updS 2417 (u0 (nth ts 4).1) (nth ts 0).2) A ((nth ts 3).2 0) S ((nth ts 2).2 0) 1 t n i)
  | 6 => (c_nDiv0 (fol P0 b1 b2) (updS 2581 (updS 2417 (u0 (nth ts 5).1) (nth ts 1).2) (nth ts 0).2) A ((nth ts 4).2 0) S ((nth ts 3).2 0) 1 t n i)
  | 7 => (c_nMod0 (fol P0 b1 b2) (updS 2750 (updS 2581 (updS 2417 (u0 (nth ts 6).1) (nth ts 2).2) (nth ts 1).2) (nth ts 0).2) A ((nth ts 5).2 0) S ((nth ts 4).2 0) 1 t n i)
  | 8 => (c_fDtz0 (fol P0 b1 b2) (updS 2911 (updS 2750 (updS 2581 (updS 2417 (u0 (nth ts 11).1) (nth ts 7).2) (nth ts 6).2) (nth ts 5).2) (nth ts 4).2) (-A) (Nat.add (nth ts 0).1 2407) S ((nth ts 9).2 0) 2 t n i)
  | 9 => (c_fDiv0 (fol P0 b1 b2) (updS 2911 (updS 2750 (updS 2581 (updS 2417 (u0 (nth ts 12).1) (nth ts 8).2) (nth ts 7).2) (nth ts 6).2) (nth ts 5).2) (A + S * T) (Nat.add (nth ts 0).1 2410) S ((nth ts 10).2 0) 1 t n i)
  | 10 => (c_fMod0 (fol P0 b1 b2) (updS 2911 (updS 2750 (updS 2581 (updS 2417 (u0 (nth ts 13).1) (nth ts 9).2) (nth ts 8).2) (nth ts 7).2) (nth ts 6).2) (A + S * T) (Nat.add (nth ts 1).1 2410) S ((nth ts 11).2 0) 1 t n i)
  | 11 => (c_nGcd0 (fol P0 b1 b2) (updS 2911 (updS 2750 (updS 2581 (updS 2417 (u0 (nth ts 14).1) (nth ts 10).2) (nth ts 9).2) (nth ts 8).2) (nth ts 7).2) A ((nth ts 13).2 0) S ((nth ts 12).2 0) 1 t n i)
  | 12 => (c_gMod0 (fol P0 b1 b2) (updS 3535 (updS 2911 (updS 2750 (updS 2581 (updS 2417 (u0 (nth ts 15).1) (nth ts 11).2) (nth ts 10).2) (nth ts 9).2) (nth ts 8).2) (nth ts 0).2) A ((nth ts 14).2 0) ((Int.gcd ((A).natAbs : Int) ((S).natAbs : Int) : Nat) : Int) ((nth ts 0).2 0) 1 t n i)
  | 13 => (c_gMod0 (fol P0 b1 b2) (updS 3535 (updS 2911 (updS 2750 (updS 2581 (updS 2417 (u0 (nth ts 16).1) (nth ts 12).2) (nth ts 11).2) (nth ts 10).2) (nth ts 9).2) (nth ts 1).2) S ((nth ts 14).2 0) ((Int.gcd ((A).natAbs : Int) ((S).natAbs : Int) : Nat) : Int) ((nth ts 1).2 0) 1 t n i)
  | 14 => (c_gGcd0 (fol P0 b1 b2) (updS 3535 (updS 2911 (updS 2750 (updS 2581 (updS 2417 (u0 (nth ts 17).1) (nth ts 13).2) (nth ts 12).2) (nth ts 11).2) (nth ts 10).2) (nth ts 2).2) S ((nth ts 15).2 0) (A.fmod S) ((nth ts 10).2 0) 1 t n i)
  | 15 => (c_gGcd0 (fol P0 b1 b2) (updS 3535 (updS 2911 (updS 2750 (updS 2581 (updS 2417 (u0 (nth ts 18).1) (nth ts 14).2) (nth ts 13).2) (nth ts 12).2) (nth ts 11).2) (nth ts 3).2) S ((nth ts 16).2 0) A ((nth ts 17).2 0) 1 t n i)
  | 16 => (c_gGcd0 (fol P0 b1 b2) (updS 3535 (updS 2911 (updS 2750 (updS 2581 (updS 2417 (u0 (nth ts 19).1) (nth ts 15).2) (nth ts 14).2) (nth ts 13).2) (nth ts 12).2) (nth ts 4).2) (A * 6) (Nat.add (nth ts 0).1 2426) (S * -6) (Nat.add (nth ts 0).1 2429) 6 t n i)
  | 17 => (c_gGcd0 (fol P0 b1 b2) (updS 3535 (updS 2911 (updS 2750 (updS 2581 (updS 2417 (u0 (nth ts 20).1) (nth ts 16).2) (nth ts 15).2) (nth ts 14).2) (nth ts 13).2) (nth ts 5).2) A ((nth ts 19).2 0) 0 (Nat.add (nth ts 0).1 2433) 2 t n i)
  | _ => nocon
set_option maxHeartbeats 0 in
theorem run_law_w0Z {w : World} {P0 : Params} {b1 b2 : Bool} {τ : Nat} {p p1 : Pos} {ag : Args} {vs : List Value} {A S T : Int} {F : Bool → Prop} :
    sim (SR w (fol P0 b1 b2) [] id 370 810 [] (Fbool F) (consL_w0Z P0 b1 b2 vs A S T)) 559 ⟨h_law_w0Z, [(τ, fun _ => 0)]⟩ [] τ (puts .nil [(369, oList vs)]) 370 690 ⟨.call (.ref 368) ⟨[.ref 369], []⟩, none, none, [(.builtin id_caller ag, p1)], none⟩ p .base (den (.call (.ref 368) ⟨[.ref 369], []⟩)) =
    (cq (cSy (fol P0 b1 b2) τ) (cq (cWh vs 0 A 0 [] [] τ 579 2378) (∀ (τ1 : Nat) (x1 : Nat → Nat), cq (cWh vs 1 S 0 [] [] τ1 580 2379) (∀ (τ2 : Nat) (x2 : Nat → Nat), cq (cWh vs 2 T 0 [] [] τ2 581 2381) (∀ (τ3 : Nat) (x3 : Nat → Nat), ((((⟨vs⟩ : Array Value).size : Nat) : Int) < 2 ^ 63) ∧ ((3 : Int) ≠ 0) ∧ (¬ ((((⟨vs⟩ : Array Value).size : Nat) : Int).fmod 3) = 1) ∧ (¬ ((((⟨vs⟩ : Array Value).size : Nat) : Int).fmod 3) = 2) ∧ (¬ S = 0) ∧ cq (c_nDtz0 (fol P0 b1 b2) (u0 τ) A (x1 0) S (x2 0) 1 τ3 582 2391) (∀ (τ4 : Nat) (x4 : Nat → Nat), cq (c_nRem0 (fol P0 b1 b2) (updS 2417 (u0 τ) x4) A (x1 0) S (x2 0) 1 τ4 612 2393) (∀ (τ5 : Nat) (x5 : Nat → Nat), cq (c_nDiv0 (fol P0 b1 b2) (updS 2581 (updS 2417 (u0 τ) x4) x5) A (x1 0) S (x2 0) 1 τ5 643 2395) (∀ (τ6 : Nat) (x6 : Nat → Nat), cq (c_nMod0 (fol P0 b1 b2) (updS 2750 (updS 2581 (updS 2417 (u0 τ) x4) x5) x6) A (x1 0) S (x2 0) 1 τ6 672 2397) (∀ (τ7 : Nat) (x7 : Nat → Nat), (Builtin.Int.intTooBig (Builtin.Int.intBits (dtzV A S) + Builtin.Int.intBits S) = false) ∧ (¬ (dtzV A S) * S + (A - S * (dtzV A S)) ≠ A) ∧ (Builtin.Int.intTooBig (Builtin.Int.intBits (A.fdiv S) + Builtin.Int.intBits S) = false) ∧ (¬ (A.fdiv S) * S + (A.fmod S) ≠ A) ∧ ∀ (τ8 y8 : Nat), ∀ (τ9 y9 : Nat), (¬ (((A - S * (dtzV A S))).natAbs : Int) ≥ ((S).natAbs : Int)) ∧ (¬ (A - S * (dtzV A S)) ≠ 0) ∧ ∀ (τ10 y10 : Nat), ∀ (τ11 y11 : Nat), (¬ (((A.fmod S)).natAbs : Int) ≥ ((S).natAbs : Int)) ∧ (¬ (A.fmod S) ≠ 0) ∧ (¬ (A.fdiv S) > (dtzV A S)) ∧ (¬ (dtzV A S) - (A.fdiv S) > 1) ∧ cq (c_fDtz0 (fol P0 b1 b2) (updS 2911 (updS 2750 (updS 2581 (updS 2417 (u0 τ) x4) x5) x6) x7) (-A) (Nat.add τ11 2407) S (x2 0) 2 τ11 701 2408) (∀ (τ12 : Nat) (x12 : Nat → Nat), (¬ dtzV (-A) S ≠ -(dtzV A S)) ∧ (Builtin.Int.intTooBig (Builtin.Int.intBits S + Builtin.Int.intBits T) = false) ∧ cq (c_fDiv0 (fol P0 b1 b2) (updS 2911 (updS 2750 (updS 2581 (updS 2417 (u0 τ) x4) x5) x6) x7) (A + S * T) (Nat.add τ12 2410) S (x2 0) 1 τ12 731 2413) (∀ (τ13 : Nat) (x13 : Nat → Nat), (¬ (A + S * T).fdiv S ≠ (A.fdiv S) + T) ∧ cq (c_fMod0 (fol P0 b1 b2) (updS 2911 (updS 2750 (updS 2581 (updS 2417 (u0 τ) x4) x5) x6) x7) (A + S * T) (Nat.add τ12 2410) S (x2 0) 1 τ13 760 2415) (∀ (τ14 : Nat) (x14 : Nat → Nat), (¬ (A + S * T).fmod S ≠ (A.fmod S)) ∧ cq (c_nGcd0 (fol P0 b1 b2) (updS 2911 (updS 2750 (updS 2581 (updS 2417 (u0 τ) x4) x5) x6) x7) A (x1 0) S (x2 0) 1 τ14 789 2416) (∀ (d15 τ15 : Nat) (x15 : Nat → Nat), (¬ ((Int.gcd ((A).natAbs : Int) ((S).natAbs : Int) : Nat) : Int) < 1) ∧ cq (c_gMod0 (fol P0 b1 b2) (updS 3535 (updS 2911 (updS 2750 (updS 2581 (updS 2417 (u0 τ) x4) x5) x6) x7) x15) A (x1 0) ((Int.gcd ((A).natAbs : Int) ((S).natAbs : Int) : Nat) : Int) (x15 0) 1 τ15 817 2419) (∀ (d16 τ16 : Nat) (x16 : Nat → Nat), (¬ A.fmod ((Int.gcd ((A).natAbs : Int) ((S).natAbs : Int) : Nat) : Int) ≠ 0) ∧ cq (c_gMod0 (fol P0 b1 b2) (updS 3535 (updS 2911 (updS 2750 (updS 2581 (updS 2417 (u0 τ) x4) x5) x6) x7) x15) S (x2 0) ((Int.gcd ((A).natAbs : Int) ((S).natAbs : Int) : Nat) : Int) (x15 0) 1 τ16 817 2421) (∀ (d17 τ17 : Nat) (x17 : Nat → Nat), (¬ S.fmod ((Int.gcd ((A).natAbs : Int) ((S).natAbs : Int) : Nat) : Int) ≠ 0) ∧ cq (c_gGcd0 (fol P0 b1 b2) (updS 3535 (updS 2911 (updS 2750 (updS 2581 (updS 2417 (u0 τ) x4) x5) x6) x7) x15) S (x2 0) (A.fmod S) (x7 0) 1 τ17 817 2423) (∀ (d18 τ18 : Nat) (x18 : Nat → Nat), (¬ ((Int.gcd ((S).natAbs : Int) (((A.fmod S)).natAbs : Int) : Nat) : Int) ≠ ((Int.gcd ((A).natAbs : Int) ((S).natAbs : Int) : Nat) : Int)) ∧ cq (c_gGcd0 (fol P0 b1 b2) (updS 3535 (updS 2911 (updS 2750 (updS 2581 (updS 2417 (u0 τ) x4) x5) x6) x7) x15) S (x2 0) A (x1 0) 1 τ18 817 2424) (∀ (d19 τ19 : Nat) (x19 : Nat → Nat), (¬ ((Int.gcd ((S).natAbs : Int) ((A).natAbs : Int) : Nat) : Int) ≠ ((Int.gcd ((A).natAbs : Int) ((S).natAbs : Int) : Nat) : Int)) ∧ (Builtin.Int.intTooBig (Builtin.Int.intBits A + Builtin.Int.intBits 6) = false) ∧ (Builtin.Int.intTooBig (Builtin.Int.intBits S + Builtin.Int.intBits (-6)) = false) ∧ cq (c_gGcd0 (fol P0 b1 b2) (updS 3535 (updS 2911 (updS 2750 (updS 2581 (updS 2417 (u0 τ) x4) x5) x6) x7) x15) (A * 6) (Nat.add τ19 2426) (S * -6) (Nat.add τ19 2429) 6 τ19 817 2430) (∀ (d20 τ20 : Nat) (x20 : Nat → Nat), (Builtin.Int.intTooBig (Builtin.Int.intBits ((Int.gcd ((A).natAbs : Int) ((S).natAbs : Int) : Nat) : Int) + Builtin.Int.intBits 6) = false) ∧ (((Int.gcd (((A * 6)).natAbs : Int) (((S * -6)).natAbs : Int) : Nat) : Int) = ((Int.gcd ((A).natAbs : Int) ((S).natAbs : Int) : Nat) : Int) * 6) ∧ cq (c_gGcd0 (fol P0 b1 b2) (updS 3535 (updS 2911 (updS 2750 (updS 2581 (updS 2417 (u0 τ) x4) x5) x6) x7) x15) A (x1 0) 0 (Nat.add τ20 2433) 2 τ20 817 2434) (∀ (d21 τ21 : Nat) (x21 : Nat → Nat), ∀ (τ22 y22 : Nat), (((Int.gcd ((A).natAbs : Int) (((0 : Int)).natAbs : Int) : Nat) : Int) = ((A).natAbs : Int)) ∧ F true))))))))))))))))))) := by
  cases b1 <;> kernel_rfl
noncomputable def h_law_w1Z : List (Nat × H) := [(544, .con 0), (529, .con 1), (514, .con 2), (497, .con 3), (481, .op 19), (477, .op 17), (463, .op 9), (456, .op 18), (444, .op 10), (431, .con 4), (410, .con 5), (389, .con 6), (368, .con 7), (353, .op 18), (341, .op 12), (335, .op 18), (323, .op 12), (315, .op 15), (307, .op 15), (303, .op 8), (297, .op 12), (289, .op 15), (281, .op 15), (277, .op 8), (271, .op 12), (263, .op 4), (250, .op 4), (233, .con 8), (222, .op 12), (213, .op 18), (188, .con 9), (175, .op 12), (163, .con 10), (157, .op 12), (144, .con 11), (129, .op 2), (117, .con 12), (112, .op 12), (100, .con 13), (95, .op 12), (82, .con 14), (76, .op 12), (64, .con 15), (58, .op 12), (47, .op 18), (37, .op 18), (34, .con 16), (28, .op 18), (25, .op 9), (13, .con 17), (5, .op 15), (1, .op 9)]
noncomputable def consL_w1Z (P0 : Params) (b1 b2 : Bool) (vs : List Value) (A S T : Int) : ConsTy := fun k ts _ t n i => match k with
  | 0 => (cSy (fol P0 b1 b2) t)
  | 1 => (cWh vs 0 A 0 [] [] t n i)
  | 2 => (cWh vs 1 S 0 [] [] t n i)
  | 3 => (cWh vs 2 T 0 [] [] t n i)
  | 4 => (c_nDtz0 (fol P0 b1 b2) (u0 (nth ts 3).1) (S * T) (Nat.add (nth ts 0).1 2388) S ((nth ts 1).2 0) 1 t n i)
  | 5 => (c_nRem0 (fol P0 b1 b2) (updS 2417 (u0 (nth ts 4).1) (nth ts 0).2) (S * T) (Nat.add (nth ts 1).1 2388) S ((nth ts 2).2 0) 1 t n i)
  | 6 => (c_nDiv0 (fol P0 b1 b2) (updS 2581 (updS 2417 (u0 (nth ts 5).1) (nth ts 1).2) (nth ts 0).2) (S * T) (Nat.add (nth ts 2).1 2388) S ((nth ts 3).2 0) 1 t n i)
  | 7 => (c_nMod0 (fol P0 b1 b2) (updS 2750 (updS 2581 (updS 2417 (u0 (nth ts 6).1) (nth ts 2).2) (nth ts 1).2) (nth ts 0).2) (S * T) (Nat.add (nth ts 3).1 2388) S ((nth ts 4).2 0) 1 t n i)
  | 8 => (c_fDtz0 (fol P0 b1 b2) (updS 2911 (updS 2750 (updS 2581 (updS 2417 (u0 (nth ts 11).1) (nth ts 7).2) (nth ts 6).2) (nth ts 5).2) (nth ts 4).2) (-(S * T)) (Nat.add (nth ts 0).1 2407) S ((nth ts 9).2 0) 2 t n i)
  | 9 => (c_fDiv0 (fol P0 b1 b2) (updS 2911 (updS 2750 (updS 2581 (updS 2417 (u0 (nth ts 12).1) (nth ts 8).2) (nth ts 7).2) (nth ts 6).2) (nth ts 5).2) ((S * T) + S * T) (Nat.add (nth ts 0).1 2410) S ((nth ts 10).2 0) 1 t n i)
  | 10 => (c_fMod0 (fol P0 b1 b2) (updS 2911 (updS 2750 (updS 2581 (updS 2417 (u0 (nth ts 13).1) (nth ts 9).2) (nth ts 8).2) (nth ts 7).2) (nth ts 6).2) ((S * T) + S * T) (Nat.add (nth ts 1).1 2410) S ((nth ts 11).2 0) 1 t n i)
  | 11 => (c_nGcd0 (fol P0 b1 b2) (updS 2911 (updS 2750 (updS 2581 (updS 2417 (u0 (nth ts 14).1) (nth ts 10).2) (nth ts 9).2) (nth ts 8).2) (nth ts 7).2) (S * T) (Nat.add (nth ts 11).1 2388) S ((nth ts 12).2 0) 1 t n i)
  | 12 => (c_gMod0 (fol P0 b1 b2) (updS 3535 (updS 2911 (updS 2750 (updS 2581 (updS 2417 (u0 (nth ts 15).1) (nth ts 11).2) (nth ts 10).2) (nth ts 9).2) (nth ts 8).2) (nth ts 0).2) (S * T) (Nat.add (nth ts 12).1 2388) ((Int.gcd (((S * T)).natAbs : Int) ((S).natAbs : Int) : Nat) : Int) ((nth ts 0).2 0) 1 t n i)
  | 13 => (c_gMod0 (fol P0 b1 b2) (updS 3535 (updS 2911 (updS 2750 (updS 2581 (updS 2417 (u0 (nth ts 16).1) (nth ts 12).2) (nth ts 11).2) (nth ts 10).2) (nth ts 9).2) (nth ts 1).2) S ((nth ts 14).2 0) ((Int.gcd (((S * T)).natAbs : Int) ((S).natAbs : Int) : Nat) : Int) ((nth ts 1).2 0) 1 t n i)
  | 14 => (c_gGcd0 (fol P0 b1 b2) (updS 3535 (updS 2911 (updS 2750 (updS 2581 (updS 2417 (u0 (nth ts 17).1) (nth ts 13).2) (nth ts 12).2) (nth ts 11).2) (nth ts 10).2) (nth ts 2).2) S ((nth ts 15).2 0) ((S * T).fmod S) ((nth ts 10).2 0) 1 t n i)
  | 15 => (c_gGcd0 (fol P0 b1 b2) (updS 3535 (updS 2911 (updS 2750 (updS 2581 (updS 2417 (u0 (nth ts 18).1) (nth ts 14).2) (nth ts 13).2) (nth ts 12).2) (nth ts 11).2) (nth ts 3).2) S ((nth ts 16).2 0) (S * T) (Nat.add (nth ts 15).1 2388) 1 t n i)
  | 16 => (c_gGcd0 (fol P0 b1 b2) (updS 3535 (updS 2911 (updS 2750 (updS 2581 (updS 2417 (u0 (nth ts 19).1) (nth ts 15).2) (nth ts 14).2) (nth ts 13).2) (nth ts 12).2) (nth ts 4).2) ((S * T) * 6) (Nat.add (nth ts 0).1 2426) (S * -6) (Nat.add (nth ts 0).1 2429) 6 t n i)
  | 17 => (c_gGcd0 (fol P0 b1 b2) (updS 3535 (updS 2911 (updS 2750 (updS 2581 (updS 2417 (u0 (nth ts 20).1) (nth ts 16).2) (nth ts 15).2) (nth ts 14).2) (nth ts 13).2) (nth ts 5).2) (S * T) (Nat.add (nth ts 17).1 2388) 0 (Nat.add (nth ts 0).1 2433) 2 t n i)
  | _ => nocon
set_option maxHeartbeats 0 in
theorem run_law_w1Z {w : World} {P0 : Params} {b1 b2 : Bool} {τ : Nat} {p p1 : Pos} {ag : Args} {vs : List Value} {A S T : Int} {F : Bool → Prop} :
    sim (SR w (fol P0 b1 b2) [] id 370 810 [] (Fbool F) (consL_w1Z P0 b1 b2 vs A S T)) 564 ⟨h_law_w1Z, [(τ, fun _ => 0)]⟩ [] τ (puts .nil [(369, oList vs)]) 370 690 ⟨.call (.ref 368) ⟨[.ref 369], []⟩, none, none, [(.builtin id_caller ag, p1)], none⟩ p .base (den (.call (.ref 368) ⟨[.ref 369], []⟩)) =
    (cq (cSy (fol P0 b1 b2) τ) (cq (cWh vs 0 A 0 [] [] τ 579 2378) (∀ (τ1 : Nat) (x1 : Nat → Nat), cq (cWh vs 1 S 0 [] [] τ1 580 2379) (∀ (τ2 : Nat) (x2 : Nat → Nat), cq (cWh vs 2 T 0 [] [] τ2 581 2381) (∀ (τ3 : Nat) (x3 : Nat → Nat), ((((⟨vs⟩ : Array Value).size : Nat) : Int) < 2 ^ 63) ∧ ((3 : Int) ≠ 0) ∧ (((((⟨vs⟩ : Array Value).size : Nat) : Int).fmod 3) = 1) ∧ (Builtin.Int.intTooBig (Builtin.Int.intBits S + Builtin.Int.intBits T) = false) ∧ (¬ S = 0) ∧ cq (c_nDtz0 (fol P0 b1 b2) (u0 τ) (S * T) (Nat.add τ3 2388) S (x2 0) 1 τ3 582 2391) (∀ (τ4 : Nat) (x4 : Nat → Nat), cq (c_nRem0 (fol P0 b1 b2) (updS 2417 (u0 τ) x4) (S * T) (Nat.add τ3 2388) S (x2 0) 1 τ4 612 2393) (∀ (τ5 : Nat) (x5 : Nat → Nat), cq (c_nDiv0 (fol P0 b1 b2) (updS 2581 (updS 2417 (u0 τ) x4) x5) (S * T) (Nat.add τ3 2388) S (x2 0) 1 τ5 643 2395) (∀ (τ6 : Nat) (x6 : Nat → Nat), cq (c_nMod0 (fol P0 b1 b2) (updS 2750 (updS 2581 (updS 2417 (u0 τ) x4) x5) x6) (S * T) (Nat.add τ3 2388) S (x2 0) 1 τ6 672 2397) (∀ (τ7 : Nat) (x7 : Nat → Nat), (Builtin.Int.intTooBig (Builtin.Int.intBits (dtzV (S * T) S) + Builtin.Int.intBits S) = false) ∧ (¬ (dtzV (S * T) S) * S + ((S * T) - S * (dtzV (S * T) S)) ≠ (S * T)) ∧ (Builtin.Int.intTooBig (Builtin.Int.intBits ((S * T).fdiv S) + Builtin.Int.intBits S) = false) ∧ (¬ ((S * T).fdiv S) * S + ((S * T).fmod S) ≠ (S * T)) ∧ ∀ (τ8 y8 : Nat), ∀ (τ9 y9 : Nat), (¬ ((((S * T) - S * (dtzV (S * T) S))).natAbs : Int) ≥ ((S).natAbs : Int)) ∧ (¬ ((S * T) - S * (dtzV (S * T) S)) ≠ 0) ∧ ∀ (τ10 y10 : Nat), ∀ (τ11 y11 : Nat), (¬ ((((S * T).fmod S)).natAbs : Int) ≥ ((S).natAbs : Int)) ∧ (¬ ((S * T).fmod S) ≠ 0) ∧ (¬ ((S * T).fdiv S) > (dtzV (S * T) S)) ∧ (¬ (dtzV (S * T) S) - ((S * T).fdiv S) > 1) ∧ cq (c_fDtz0 (fol P0 b1 b2) (updS 2911 (updS 2750 (updS 2581 (updS 2417 (u0 τ) x4) x5) x6) x7) (-(S * T)) (Nat.add τ11 2407) S (x2 0) 2 τ11 701 2408) (∀ (τ12 : Nat) (x12 : Nat → Nat), (¬ dtzV (-(S * T)) S ≠ -(dtzV (S * T) S)) ∧ (Builtin.Int.intTooBig (Builtin.Int.intBits S + Builtin.Int.intBits T) = false) ∧ cq (c_fDiv0 (fol P0 b1 b2) (updS 2911 (updS 2750 (updS 2581 (updS 2417 (u0 τ) x4) x5) x6) x7) ((S * T) + S * T) (Nat.add τ12 2410) S (x2 0) 1 τ12 731 2413) (∀ (τ13 : Nat) (x13 : Nat → Nat), (¬ ((S * T) + S * T).fdiv S ≠ ((S * T).fdiv S) + T) ∧ cq (c_fMod0 (fol P0 b1 b2) (updS 2911 (updS 2750 (updS 2581 (updS 2417 (u0 τ) x4) x5) x6) x7) ((S * T) + S * T) (Nat.add τ12 2410) S (x2 0) 1 τ13 760 2415) (∀ (τ14 : Nat) (x14 : Nat → Nat), (¬ ((S * T) + S * T).fmod S ≠ ((S * T).fmod S)) ∧ cq (c_nGcd0 (fol P0 b1 b2) (updS 2911 (updS 2750 (updS 2581 (updS 2417 (u0 τ) x4) x5) x6) x7) (S * T) (Nat.add τ3 2388) S (x2 0) 1 τ14 789 2416) (∀ (d15 τ15 : Nat) (x15 : Nat → Nat), (¬ ((Int.gcd (((S * T)).natAbs : Int) ((S).natAbs : Int) : Nat) : Int) < 1) ∧ cq (c_gMod0 (fol P0 b1 b2) (updS 3535 (updS 2911 (updS 2750 (updS 2581 (updS 2417 (u0 τ) x4) x5) x6) x7) x15) (S * T) (Nat.add τ3 2388) ((Int.gcd (((S * T)).natAbs : Int) ((S).natAbs : Int) : Nat) : Int) (x15 0) 1 τ15 817 2419) (∀ (d16 τ16 : Nat) (x16 : Nat → Nat), (¬ (S * T).fmod ((Int.gcd (((S * T)).natAbs : Int) ((S).natAbs : Int) : Nat) : Int) ≠ 0) ∧ cq (c_gMod0 (fol P0 b1 b2) (updS 3535 (updS 2911 (updS 2750 (updS 2581 (updS 2417 (u0 τ) x4) x5) x6) x7) x15) S (x2 0) ((Int.gcd (((S * T)).natAbs : Int) ((S).natAbs : Int) : Nat) : Int) (x15 0) 1 τ16 817 2421) (∀ (d17 τ17 : Nat) (x17 : Nat → Nat), (¬ S.fmod ((Int.gcd (((S * T)).natAbs : Int) ((S).natAbs : Int) : Nat) : Int) ≠ 0) ∧ cq (c_gGcd0 (fol P0 b1 b2) (updS 3535 (updS 2911 (updS 2750 (updS 2581 (updS 2417 (u0 τ) x4) x5) x6) x7) x15) S (x2 0) ((S * T).fmod S) (x7 0) 1 τ17 817 2423) (∀ (d18 τ18 : Nat) (x18 : Nat → Nat), (¬ ((Int.gcd ((S).natAbs : Int) ((((S * T).fmod S)).natAbs : Int) : Nat) : Int) ≠ ((Int.gcd (((S * T)).natAbs : Int) ((S).natAbs : Int) : Nat) : Int)) ∧ cq (c_gGcd0 (fol P0 b1 b2) (updS 3535 (updS 2911 (updS 2750 (updS 2581 (updS 2417 (u0 τ) x4) x5) x6) x7) x15) S (x2 0) (S * T) (Nat.add τ3 2388) 1 τ18 817 2424) (∀ (d19 τ19 : Nat) (x19 : Nat → Nat), (¬ ((Int.gcd ((S).natAbs : Int) (((S * T)).natAbs : Int) : Nat) : Int) ≠ ((Int.gcd (((S * T)).natAbs : Int) ((S).natAbs : Int) : Nat) : Int)) ∧ (Builtin.Int.intTooBig (Builtin.Int.intBits (S * T) + Builtin.Int.intBits 6) = false) ∧ (Builtin.Int.intTooBig (Builtin.Int.intBits S + Builtin.Int.intBits (-6)) = false) ∧ cq (c_gGcd0 (fol P0 b1 b2) (updS 3535 (updS 2911 (updS 2750 (updS 2581 (updS 2417 (u0 τ) x4) x5) x6) x7) x15) ((S * T) * 6) (Nat.add τ19 2426) (S * -6) (Nat.add τ19 2429) 6 τ19 817 2430) (∀ (d20 τ20 : Nat) (x20 : Nat → Nat), (Builtin.Int.intTooBig (Builtin.Int.intBits ((Int.gcd (((S * T)).natAbs : Int) ((S).natAbs : Int) : Nat) : Int) + Builtin.Int.intBits 6) = false) ∧ (((Int.gcd ((((S * T) * 6)).natAbs : Int) (((S * -6)).natAbs : Int) : Nat) : Int) = ((Int.gcd (((S * T)).natAbs : Int) ((S).natAbs : Int) : Nat) : Int) * 6) ∧ cq (c_gGcd0 (fol P0 b1 b2) (updS 3535 (updS 2911 (updS 2750 (updS 2581 (updS 2417 (u0 τ) x4) x5) x6) x7) x15) (S * T) (Nat.add τ3 2388) 0 (Nat.add τ20 2433) 2 τ20 817 2434) (∀ (d21 τ21 : Nat) (x21 : Nat → Nat), ∀ (τ22 y22 : Nat), (((Int.gcd (((S * T)).natAbs : Int) (((0 : Int)).natAbs : Int) : Nat) : Int) = (((S * T)).natAbs : Int)) ∧ F true))))))))))))))))))) := by
  cases b1 <;> kernel_rfl
noncomputable def h_law_w2N : List (Nat × H) := [(602, .con 0), (587, .con 1), (572, .con 2), (555, .con 3), (539, .op 19), (535, .op 17), (521, .op 10), (514, .op 9), (507, .op 18), (500, .con 4), (482, .op 10), (469, .con 5), (448, .con 6), (427, .con 7), (406, .con 8), (391, .op 18), (379, .op 12), (373, .op 18), (361, .op 12), (353, .op 15), (345, .op 15), (341, .op 8), (335, .op 11), (328, .con 9), (320, .con 10), (316, .op 12), (308, .op 15), (300, .op 15), (296, .op 8), (290, .op 11), (283, .con 11), (275, .con 12), (271, .op 12), (263, .op 4), (250, .op 4), (233, .con 13), (222, .op 12), (213, .op 18), (188, .con 14), (175, .op 12), (163, .con 15), (157, .op 12), (144, .con 16), (129, .op 2), (117, .con 17), (112, .op 12), (100, .con 18), (95, .op 12), (82, .con 19), (76, .op 12), (64, .con 20), (58, .op 12), (47, .op 18), (37, .op 18), (34, .con 21), (28, .op 18), (25, .op 9), (13, .con 22), (5, .op 15), (1, .op 9)]
noncomputable def consL_w2N (P0 : Params) (b1 b2 : Bool) (vs : List Value) (A S T : Int) : ConsTy := fun k ts _ t n i => match k with
  | 0 => (cSy (fol P0 b1 b2) t)
  | 1 => (cWh vs 0 A 0 [] [] t n i)
  | 2 => (cWh vs 1 S 0 [] [] t n i)
  | 3 => (cWh vs 2 T 0 [] [] t n i)
  | 4 => (cSd T ((nth ts 0).2 0) n)
  | 5 => (c_nDtz1 (fol P0 b1 b2) (u0 (nth ts 4).1) (S * T + sd T) (Nat.add (nth ts 0).1 2390) S ((nth ts 2).2 0) 1 t n i)
  | 6 => (c_nRem1 (fol P0 b1 b2) (updS 2417 (u0 (nth ts 5).1) (nth ts 0).2) (S * T + sd T) (Nat.add (nth ts 1).1 2390) S ((nth ts 3).2 0) 1 t n i)
  | 7 => (c_nDiv1 (fol P0 b1 b2) (updS 2581 (updS 2417 (u0 (nth ts 6).1) (nth ts 1).2) (nth ts 0).2) (S * T + sd T) (Nat.add (nth ts 2).1 2390) S ((nth ts 4).2 0) 1 t n i)
  | 8 => (c_nMod1 (fol P0 b1 b2) (updS 2750 (updS 2581 (updS 2417 (u0 (nth ts 7).1) (nth ts 2).2) (nth ts 1).2) (nth ts 0).2) (S * T + sd T) (Nat.add (nth ts 3).1 2390) S ((nth ts 5).2 0) 1 t n i)
  | 9 => (cSd ((S * T + sd T) - S * (dtzV (S * T + sd T) S)) ((nth ts 4).2 0) n)
  | 10 => (cSd (S * T + sd T) (Nat.add (nth ts 7).1 2390) n)
  | 11 => (cSd ((S * T + sd T).fmod S) ((nth ts 6).2 0) n)
  | 12 => (cSd S ((nth ts 13).2 0) n)
  | 13 => (c_fDtz5 (fol P0 b1 b2) (updS 2911 (updS 2750 (updS 2581 (updS 2417 (u0 (nth ts 16).1) (nth ts 11).2) (nth ts 10).2) (nth ts 9).2) (nth ts 8).2) (-(S * T + sd T)) (Nat.add (nth ts 0).1 2409) S ((nth ts 14).2 0) 2 t n i)
  | 14 => (c_fDiv1 (fol P0 b1 b2) (updS 2911 (updS 2750 (updS 2581 (updS 2417 (u0 (nth ts 17).1) (nth ts 12).2) (nth ts 11).2) (nth ts 10).2) (nth ts 9).2) ((S * T + sd T) + S * T) (Nat.add (nth ts 0).1 2412) S ((nth ts 15).2 0) 1 t n i)
  | 15 => (c_fMod1 (fol P0 b1 b2) (updS 2911 (updS 2750 (updS 2581 (updS 2417 (u0 (nth ts 18).1) (nth ts 13).2) (nth ts 12).2) (nth ts 11).2) (nth ts 10).2) ((S * T + sd T) + S * T) (Nat.add (nth ts 1).1 2412) S ((nth ts 16).2 0) 1 t n i)
  | 16 => (c_nGcd5 (fol P0 b1 b2) (updS 2911 (updS 2750 (updS 2581 (updS 2417 (u0 (nth ts 19).1) (nth ts 14).2) (nth ts 13).2) (nth ts 12).2) (nth ts 11).2) (S * T + sd T) (Nat.add (nth ts 15).1 2390) S ((nth ts 17).2 0) 1 t n i)
  | 17 => (c_gMod5 (fol P0 b1 b2) (updS 3535 (updS 2911 (updS 2750 (updS 2581 (updS 2417 (u0 (nth ts 20).1) (nth ts 15).2) (nth ts 14).2) (nth ts 13).2) (nth ts 12).2) (nth ts 0).2) (S * T + sd T) (Nat.add (nth ts 16).1 2390) ((Int.gcd (((S * T + sd T)).natAbs : Int) ((S).natAbs : Int) : Nat) : Int) ((nth ts 0).2 0) 1 t n i)
  | 18 => (c_gMod5 (fol P0 b1 b2) (updS 3535 (updS 2911 (updS 2750 (updS 2581 (updS 2417 (u0 (nth ts 21).1) (nth ts 16).2) (nth ts 15).2) (nth ts 14).2) (nth ts 13).2) (nth ts 1).2) S ((nth ts 19).2 0) ((Int.gcd (((S * T + sd T)).natAbs : Int) ((S).natAbs : Int) : Nat) : Int) ((nth ts 1).2 0) 1 t n i)
  | 19 => (c_gGcd5 (fol P0 b1 b2) (updS 3535 (updS 2911 (updS 2750 (updS 2581 (updS 2417 (u0 (nth ts 22).1) (nth ts 17).2) (nth ts 16).2) (nth ts 15).2) (nth ts 14).2) (nth ts 2).2) S ((nth ts 20).2 0) ((S * T + sd T).fmod S) ((nth ts 14).2 0) 1 t n i)
  | 20 => (c_gGcd5 (fol P0 b1 b2) (updS 3535 (updS 2911 (updS 2750 (updS 2581 (updS 2417 (u0 (nth ts 23).1) (nth ts 18).2) (nth ts 17).2) (nth ts 16).2) (nth ts 15).2) (nth ts 3).2) S ((nth ts 21).2 0) (S * T + sd T) (Nat.add (nth ts 19).1 2390) 1 t n i)
  | 21 => (c_gGcd5 (fol P0 b1 b2) (updS 3535 (updS 2911 (updS 2750 (updS 2581 (updS 2417 (u0 (nth ts 24).1) (nth ts 19).2) (nth ts 18).2) (nth ts 17).2) (nth ts 16).2) (nth ts 4).2) ((S * T + sd T) * 6) (Nat.add (nth ts 0).1 2428) (S * -6) (Nat.add (nth ts 0).1 2431) 6 t n i)
  | 22 => (c_gGcd5 (fol P0 b1 b2) (updS 3535 (updS 2911 (updS 2750 (updS 2581 (updS 2417 (u0 (nth ts 25).1) (nth ts 20).2) (nth ts 19).2) (nth ts 18).2) (nth ts 17).2) (nth ts 5).2) (S * T + sd T) (Nat.add (nth ts 21).1 2390) 0 (Nat.add (nth ts 0).1 2435) 2 t n i)
  | _ => nocon
set_option maxHeartbeats 0 in
theorem run_law_w2N {w : World} {P0 : Params} {b1 b2 : Bool} {τ : Nat} {p p1 : Pos} {ag : Args} {vs : List Value} {A S T : Int} {F : Bool → Prop} :
    sim (SR w (fol P0 b1 b2) [] id 370 810 [] (Fbool F) (consL_w2N P0 b1 b2 vs A S T)) 622 ⟨h_law_w2N, [(τ, fun _ => 0)]⟩ [] τ (puts .nil [(369, oList vs)]) 370 690 ⟨.call (.ref 368) ⟨[.ref 369], []⟩, none, none, [(.builtin id_caller ag, p1)], none⟩ p .base (den (.call (.ref 368) ⟨[.ref 369], []⟩)) =
    (cq (cSy (fol P0 b1 b2) τ) (cq (cWh vs 0 A 0 [] [] τ 579 2378) (∀ (τ1 : Nat) (x1 : Nat → Nat), cq (cWh vs 1 S 0 [] [] τ1 580 2379) (∀ (τ2 : Nat) (x2 : Nat → Nat), cq (cWh vs 2 T 0 [] [] τ2 581 2381) (∀ (τ3 : Nat) (x3 : Nat → Nat), ((((⟨vs⟩ : Array Value).size : Nat) : Int) < 2 ^ 63) ∧ ((3 : Int) ≠ 0) ∧ (¬ ((((⟨vs⟩ : Array Value).size : Nat) : Int).fmod 3) = 1) ∧ (((((⟨vs⟩ : Array Value).size : Nat) : Int).fmod 3) = 2) ∧ (Builtin.Int.intTooBig (Builtin.Int.intBits S + Builtin.Int.intBits T) = false) ∧ cq (cSd T (x3 0) 582) (∀ (τ4 : Nat) (x4 : Nat → Nat), (¬ S = 0) ∧ cq (c_nDtz1 (fol P0 b1 b2) (u0 τ) (S * T + sd T) (Nat.add τ4 2390) S (x2 0) 1 τ4 583 2393) (∀ (τ5 : Nat) (x5 : Nat → Nat), cq (c_nRem1 (fol P0 b1 b2) (updS 2417 (u0 τ) x5) (S * T + sd T) (Nat.add τ4 2390) S (x2 0) 1 τ5 613 2395) (∀ (τ6 : Nat) (x6 : Nat → Nat), cq (c_nDiv1 (fol P0 b1 b2) (updS 2581 (updS 2417 (u0 τ) x5) x6) (S * T + sd T) (Nat.add τ4 2390) S (x2 0) 1 τ6 644 2397) (∀ (τ7 : Nat) (x7 : Nat → Nat), cq (c_nMod1 (fol P0 b1 b2) (updS 2750 (updS 2581 (updS 2417 (u0 τ) x5) x6) x7) (S * T + sd T) (Nat.add τ4 2390) S (x2 0) 1 τ7 673 2399) (∀ (τ8 : Nat) (x8 : Nat → Nat), (Builtin.Int.intTooBig (Builtin.Int.intBits (dtzV (S * T + sd T) S) + Builtin.Int.intBits S) = false) ∧ (¬ (dtzV (S * T + sd T) S) * S + ((S * T + sd T) - S * (dtzV (S * T + sd T) S)) ≠ (S * T + sd T)) ∧ (Builtin.Int.intTooBig (Builtin.Int.intBits ((S * T + sd T).fdiv S) + Builtin.Int.intBits S) = false) ∧ (¬ ((S * T + sd T).fdiv S) * S + ((S * T + sd T).fmod S) ≠ (S * T + sd T)) ∧ ∀ (τ9 y9 : Nat), ∀ (τ10 y10 : Nat), (¬ ((((S * T + sd T) - S * (dtzV (S * T + sd T) S))).natAbs : Int) ≥ ((S).natAbs : Int)) ∧ (((S * T + sd T) - S * (dtzV (S * T + sd T) S)) ≠ 0) ∧ cq (cSd ((S * T + sd T) - S * (dtzV (S * T + sd T) S)) (x6 0) 702) (∀ (τ11 : Nat) (x11 : Nat → Nat), cq (cSd (S * T + sd T) (Nat.add τ4 2390) 703) (∀ (τ12 : Nat) (x12 : Nat → Nat), (¬ sd ((S * T + sd T) - S * (dtzV (S * T + sd T) S)) ≠ sd (S * T + sd T)) ∧ ∀ (τ13 y13 : Nat), ∀ (τ14 y14 : Nat), (¬ ((((S * T + sd T).fmod S)).natAbs : Int) ≥ ((S).natAbs : Int)) ∧ (((S * T + sd T).fmod S) ≠ 0) ∧ cq (cSd ((S * T + sd T).fmod S) (x8 0) 704) (∀ (τ15 : Nat) (x15 : Nat → Nat), cq (cSd S (x2 0) 705) (∀ (τ16 : Nat) (x16 : Nat → Nat), (¬ sd ((S * T + sd T).fmod S) ≠ sd S) ∧ (¬ ((S * T + sd T).fdiv S) > (dtzV (S * T + sd T) S)) ∧ (¬ (dtzV (S * T + sd T) S) - ((S * T + sd T).fdiv S) > 1) ∧ cq (c_fDtz5 (fol P0 b1 b2) (updS 2911 (updS 2750 (updS 2581 (updS 2417 (u0 τ) x5) x6) x7) x8) (-(S * T + sd T)) (Nat.add τ16 2409) S (x2 0) 2 τ16 706 2410) (∀ (τ17 : Nat) (x17 : Nat → Nat), (¬ dtzV (-(S * T + sd T)) S ≠ -(dtzV (S * T + sd T) S)) ∧ (Builtin.Int.intTooBig (Builtin.Int.intBits S + Builtin.Int.intBits T) = false) ∧ cq (c_fDiv1 (fol P0 b1 b2) (updS 2911 (updS 2750 (updS 2581 (updS 2417 (u0 τ) x5) x6) x7) x8) ((S * T + sd T) + S * T) (Nat.add τ17 2412) S (x2 0) 1 τ17 736 2415) (∀ (τ18 : Nat) (x18 : Nat → Nat), (¬ ((S * T + sd T) + S * T).fdiv S ≠ ((S * T + sd T).fdiv S) + T) ∧ cq (c_fMod1 (fol P0 b1 b2) (updS 2911 (updS 2750 (updS 2581 (updS 2417 (u0 τ) x5) x6) x7) x8) ((S * T + sd T) + S * T) (Nat.add τ17 2412) S (x2 0) 1 τ18 765 2417) (∀ (τ19 : Nat) (x19 : Nat → Nat), (¬ ((S * T + sd T) + S * T).fmod S ≠ ((S * T + sd T).fmod S)) ∧ cq (c_nGcd5 (fol P0 b1 b2) (updS 2911 (updS 2750 (updS 2581 (updS 2417 (u0 τ) x5) x6) x7) x8) (S * T + sd T) (Nat.add τ4 2390) S (x2 0) 1 τ19 794 2418) (∀ (d20 τ20 : Nat) (x20 : Nat → Nat), (¬ ((Int.gcd (((S * T + sd T)).natAbs : Int) ((S).natAbs : Int) : Nat) : Int) < 1) ∧ cq (c_gMod5 (fol P0 b1 b2) (updS 3535 (updS 2911 (updS 2750 (updS 2581 (updS 2417 (u0 τ) x5) x6) x7) x8) x20) (S * T + sd T) (Nat.add τ4 2390) ((Int.gcd (((S * T + sd T)).natAbs : Int) ((S).natAbs : Int) : Nat) : Int) (x20 0) 1 τ20 822 2421) (∀ (d21 τ21 : Nat) (x21 : Nat → Nat), (¬ (S * T + sd T).fmod ((Int.gcd (((S * T + sd T)).natAbs : Int) ((S).natAbs : Int) : Nat) : Int) ≠ 0) ∧ cq (c_gMod5 (fol P0 b1 b2) (updS 3535 (updS 2911 (updS 2750 (updS 2581 (updS 2417 (u0 τ) x5) x6) x7) x8) x20) S (x2 0) ((Int.gcd (((S * T + sd T)).natAbs : Int) ((S).natAbs : Int) : Nat) : Int) (x20 0) 1 τ21 822 2423) (∀ (d22 τ22 : Nat) (x22 : Nat → Nat), (¬ S.fmod ((Int.gcd (((S * T + sd T)).natAbs : Int) ((S).natAbs : Int) : Nat) : Int) ≠ 0) ∧ cq (c_gGcd5 (fol P0 b1 b2) (updS 3535 (updS 2911 (updS 2750 (updS 2581 (updS 2417 (u0 τ) x5) x6) x7) x8) x20) S (x2 0) ((S * T + sd T).fmod S) (x8 0) 1 τ22 822 2425) (∀ (d23 τ23 : Nat) (x23 : Nat → Nat), (¬ ((Int.gcd ((S).natAbs : Int) ((((S * T + sd T).fmod S)).natAbs : Int) : Nat) : Int) ≠ ((Int.gcd (((S * T + sd T)).natAbs : Int) ((S).natAbs : Int) : Nat) : Int)) ∧ cq (c_gGcd5 (fol P0 b1 b2) (updS 3535 (updS 2911 (updS 2750 (updS 2581 (updS 2417 (u0 τ) x5) x6) x7) x8) x20) S (x2 0) (S * T + sd T) (Nat.add τ4 2390) 1 τ23 822 2426) (∀ (d24 τ24 : Nat) (x24 : Nat → Nat), (¬ ((Int.gcd ((S).natAbs : Int) (((S * T + sd T)).natAbs : Int) : Nat) : Int) ≠ ((Int.gcd (((S * T + sd T)).natAbs : Int) ((S).natAbs : Int) : Nat) : Int)) ∧ (Builtin.Int.intTooBig (Builtin.Int.intBits (S * T + sd T) + Builtin.Int.intBits 6) = false) ∧ (Builtin.Int.intTooBig (Builtin.Int.intBits S + Builtin.Int.intBits (-6)) = false) ∧ cq (c_gGcd5 (fol P0 b1 b2) (updS 3535 (updS 2911 (updS 2750 (updS 2581 (updS 2417 (u0 τ) x5) x6) x7) x8) x20) ((S * T + sd T) * 6) (Nat.add τ24 2428) (S * -6) (Nat.add τ24 2431) 6 τ24 822 2432) (∀ (d25 τ25 : Nat) (x25 : Nat → Nat), (Builtin.Int.intTooBig (Builtin.Int.intBits ((Int.gcd (((S * T + sd T)).natAbs : Int) ((S).natAbs : Int) : Nat) : Int) + Builtin.Int.intBits 6) = false) ∧ (((Int.gcd ((((S * T + sd T) * 6)).natAbs : Int) (((S * -6)).natAbs : Int) : Nat) : Int) = ((Int.gcd (((S * T + sd T)).natAbs : Int) ((S).natAbs : Int) : Nat) : Int) * 6) ∧ cq (c_gGcd5 (fol P0 b1 b2) (updS 3535 (updS 2911 (updS 2750 (updS 2581 (updS 2417 (u0 τ) x5) x6) x7) x8) x20) (S * T + sd T) (Nat.add τ4 2390) 0 (Nat.add τ25 2435) 2 τ25 822 2436) (∀ (d26 τ26 : Nat) (x26 : Nat → Nat), ∀ (τ27 y27 : Nat), (((Int.gcd (((S * T + sd T)).natAbs : Int) (((0 : Int)).natAbs : Int) : Nat) : Int) = (((S * T + sd T)).natAbs : Int)) ∧ F true)))))))))))))))))))))))) := by
  cases b1 <;> kernel_rfl
noncomputable def h_law_w2Z : List (Nat × H) := [(564, .con 0), (549, .con 1), (534, .con 2), (517, .con 3), (501, .op 19), (497, .op 17), (483, .op 10), (476, .op 9), (469, .op 18), (462, .con 4), (444, .op 10), (431, .con 5), (410, .con 6), (389, .con 7), (368, .con 8), (353, .op 18), (341, .op 12), (335, .op 18), (323, .op 12), (315, .op 15), (307, .op 15), (303, .op 8), (297, .op 12), (289, .op 15), (281, .op 15), (277, .op 8), (271, .op 12), (263, .op 4), (250, .op 4), (233, .con 9), (222, .op 12), (213, .op 18), (188, .con 10), (175, .op 12), (163, .con 11), (157, .op 12), (144, .con 12), (129, .op 2), (117, .con 13), (112, .op 12), (100, .con 14), (95, .op 12), (82, .con 15), (76, .op 12), (64, .con 16), (58, .op 12), (47, .op 18), (37, .op 18), (34, .con 17), (28, .op 18), (25, .op 9), (13, .con 18), (5, .op 15), (1, .op 9)]
noncomputable def consL_w2Z (P0 : Params) (b1 b2 : Bool) (vs : List Value) (A S T : Int) : ConsTy := fun k ts _ t n i => match k with
  | 0 => (cSy (fol P0 b1 b2) t)
  | 1 => (cWh vs 0 A 0 [] [] t n i)
  | 2 => (cWh vs 1 S 0 [] [] t n i)
  | 3 => (cWh vs 2 T 0 [] [] t n i)
  | 4 => (cSd T ((nth ts 0).2 0) n)
  | 5 => (c_nDtz1 (fol P0 b1 b2) (u0 (nth ts 4).1) (S * T + sd T) (Nat.add (nth ts 0).1 2390) S ((nth ts 2).2 0) 1 t n i)
  | 6 => (c_nRem1 (fol P0 b1 b2) (updS 2417 (u0 (nth ts 5).1) (nth ts 0).2) (S * T + sd T) (Nat.add (nth ts 1).1 2390) S ((nth ts 3).2 0) 1 t n i)
  | 7 => (c_nDiv1 (fol P0 b1 b2) (updS 2581 (updS 2417 (u0 (nth ts 6).1) (nth ts 1).2) (nth ts 0).2) (S * T + sd T) (Nat.add (nth ts 2).1 2390) S ((nth ts 4).2 0) 1 t n i)
  | 8 => (c_nMod1 (fol P0 b1 b2) (updS 2750 (updS 2581 (updS 2417 (u0 (nth ts 7).1) (nth ts 2).2) (nth ts 1).2) (nth ts 0).2) (S * T + sd T) (Nat.add (nth ts 3).1 2390) S ((nth ts 5).2 0) 1 t n i)
  | 9 => (c_fDtz1 (fol P0 b1 b2) (updS 2911 (updS 2750 (updS 2581 (updS 2417 (u0 (nth ts 12).1) (nth ts 7).2) (nth ts 6).2) (nth ts 5).2) (nth ts 4).2) (-(S * T + sd T)) (Nat.add (nth ts 0).1 2409) S ((nth ts 10).2 0) 2 t n i)
  | 10 => (c_fDiv1 (fol P0 b1 b2) (updS 2911 (updS 2750 (updS 2581 (updS 2417 (u0 (nth ts 13).1) (nth ts 8).2) (nth ts 7).2) (nth ts 6).2) (nth ts 5).2) ((S * T + sd T) + S * T) (Nat.add (nth ts 0).1 2412) S ((nth ts 11).2 0) 1 t n i)
  | 11 => (c_fMod1 (fol P0 b1 b2) (updS 2911 (updS 2750 (updS 2581 (updS 2417 (u0 (nth ts 14).1) (nth ts 9).2) (nth ts 8).2) (nth ts 7).2) (nth ts 6).2) ((S * T + sd T) + S * T) (Nat.add (nth ts 1).1 2412) S ((nth ts 12).2 0) 1 t n i)
  | 12 => (c_nGcd1 (fol P0 b1 b2) (updS 2911 (updS 2750 (updS 2581 (updS 2417 (u0 (nth ts 15).1) (nth ts 10).2) (nth ts 9).2) (nth ts 8).2) (nth ts 7).2) (S * T + sd T) (Nat.add (nth ts 11).1 2390) S ((nth ts 13).2 0) 1 t n i)
  | 13 => (c_gMod1 (fol P0 b1 b2) (updS 3535 (updS 2911 (updS 2750 (updS 2581 (updS 2417 (u0 (nth ts 16).1) (nth ts 11).2) (nth ts 10).2) (nth ts 9).2) (nth ts 8).2) (nth ts 0).2) (S * T + sd T) (Nat.add (nth ts 12).1 2390) ((Int.gcd (((S * T + sd T)).natAbs : Int) ((S).natAbs : Int) : Nat) : Int) ((nth ts 0).2 0) 1 t n i)
  | 14 => (c_gMod1 (fol P0 b1 b2) (updS 3535 (updS 2911 (updS 2750 (updS 2581 (updS 2417 (u0 (nth ts 17).1) (nth ts 12).2) (nth ts 11).2) (nth ts 10).2) (nth ts 9).2) (nth ts 1).2) S ((nth ts 15).2 0) ((Int.gcd (((S * T + sd T)).natAbs : Int) ((S).natAbs : Int) : Nat) : Int) ((nth ts 1).2 0) 1 t n i)
  | 15 => (c_gGcd1 (fol P0 b1 b2) (updS 3535 (updS 2911 (updS 2750 (updS 2581 (updS 2417 (u0 (nth ts 18).1) (nth ts 13).2) (nth ts 12).2) (nth ts 11).2) (nth ts 10).2) (nth ts 2).2) S ((nth ts 16).2 0) ((S * T + sd T).fmod S) ((nth ts 10).2 0) 1 t n i)
  | 16 => (c_gGcd1 (fol P0 b1 b2) (updS 3535 (updS 2911 (updS 2750 (updS 2581 (updS 2417 (u0 (nth ts 19).1) (nth ts 14).2) (nth ts 13).2) (nth ts 12).2) (nth ts 11).2) (nth ts 3).2) S ((nth ts 17).2 0) (S * T + sd T) (Nat.add (nth ts 15).1 2390) 1 t n i)
  | 17 => (c_gGcd1 (fol P0 b1 b2) (updS 3535 (updS 2911 (updS 2750 (updS 2581 (updS 2417 (u0 (nth ts 20).1) (nth ts 15).2) (nth ts 14).2) (nth ts 13).2) (nth ts 12).2) (nth ts 4).2) ((S * T + sd T) * 6) (Nat.add (nth ts 0).1 2428) (S * -6) (Nat.add (nth ts 0).1 2431) 6 t n i)
  | 18 => (c_gGcd1 (fol P0 b1 b2) (updS 3535 (updS 2911 (updS 2750 (updS 2581 (updS 2417 (u0 (nth ts 21).1) (nth ts 16).2) (nth ts 15).2) (nth ts 14).2) (nth ts 13).2) (nth ts 5).2) (S * T + sd T) (Nat.add (nth ts 17).1 2390) 0 (Nat.add (nth ts 0).1 2435) 2 t n i)
  | _ => nocon
set_option maxHeartbeats 0 in
theorem run_law_w2Z {w : World} {P0 : Params} {b1 b2 : Bool} {τ : Nat} {p p1 : Pos} {ag : Args} {vs : List Value} {A S T : Int} {F : Bool → Prop} :
    sim (SR w (fol P0 b1 b2) [] id 370 810 [] (Fbool F) (consL_w2Z P0 b1 b2 vs A S T)) 584 ⟨h_law_w2Z, [(τ, fun _ => 0)]⟩ [] τ (puts .nil [(369, oList vs)]) 370 690 ⟨.call (.ref 368) ⟨[.ref 369], []⟩, none, none, [(.builtin id_caller ag, p1)], none⟩ p .base (den (.call (.ref 368) ⟨[.ref 369], []⟩)) =
    (cq (cSy (fol P0 b1 b2) τ) (cq (cWh vs 0 A 0 [] [] τ 579 2378) (∀ (τ1 : Nat) (x1 : Nat → Nat), cq (cWh vs 1 S 0 [] [] τ1 580 2379) (∀ (τ2 : Nat) (x2 : Nat → Nat), cq (cWh vs 2 T 0 [] [] τ2 581 2381) (∀ (τ3 : Nat) (x3 : Nat → Nat), ((((⟨vs⟩ : Array Value).size : Nat) : Int) < 2 ^ 63) ∧ ((3 : Int) ≠ 0) ∧ (¬ ((((⟨vs⟩ : Array Value).size : Nat) : Int).fmod 3) = 1) ∧ (((((⟨vs⟩ : Array Value).size : Nat) : Int).fmod 3) = 2) ∧ (Builtin.Int.intTooBig (Builtin.Int.intBits S + Builtin.Int.intBits T) = false) ∧ cq (cSd T (x3 0) 582) (∀ (τ4 : Nat) (x4 : Nat → Nat), (¬ S = 0) ∧ cq (c_nDtz1 (fol P0 b1 b2) (u0 τ) (S * T + sd T) (Nat.add τ4 2390) S (x2 0) 1 τ4 583 2393) (∀ (τ5 : Nat) (x5 : Nat → Nat), cq (c_nRem1 (fol P0 b1 b2) (updS 2417 (u0 τ) x5) (S * T + sd T) (Nat.add τ4 2390) S (x2 0) 1 τ5 613 2395) (∀ (τ6 : Nat) (x6 : Nat → Nat), cq (c_nDiv1 (fol P0 b1 b2) (updS 2581 (updS 2417 (u0 τ) x5) x6) (S * T + sd T) (Nat.add τ4 2390) S (x2 0) 1 τ6 644 2397) (∀ (τ7 : Nat) (x7 : Nat → Nat), cq (c_nMod1 (fol P0 b1 b2) (updS 2750 (updS 2581 (updS 2417 (u0 τ) x5) x6) x7) (S * T + sd T) (Nat.add τ4 2390) S (x2 0) 1 τ7 673 2399) (∀ (τ8 : Nat) (x8 : Nat → Nat), (Builtin.Int.intTooBig (Builtin.Int.intBits (dtzV (S * T + sd T) S) + Builtin.Int.intBits S) = false) ∧ (¬ (dtzV (S * T + sd T) S) * S + ((S * T + sd T) - S * (dtzV (S * T + sd T) S)) ≠ (S * T + sd T)) ∧ (Builtin.Int.intTooBig (Builtin.Int.intBits ((S * T + sd T).fdiv S) + Builtin.Int.intBits S) = false) ∧ (¬ ((S * T + sd T).fdiv S) * S + ((S * T + sd T).fmod S) ≠ (S * T + sd T)) ∧ ∀ (τ9 y9 : Nat), ∀ (τ10 y10 : Nat), (¬ ((((S * T + sd T) - S * (dtzV (S * T + sd T) S))).natAbs : Int) ≥ ((S).natAbs : Int)) ∧ (¬ ((S * T + sd T) - S * (dtzV (S * T + sd T) S)) ≠ 0) ∧ ∀ (τ11 y11 : Nat), ∀ (τ12 y12 : Nat), (¬ ((((S * T + sd T).fmod S)).natAbs : Int) ≥ ((S).natAbs : Int)) ∧ (¬ ((S * T + sd T).fmod S) ≠ 0) ∧ (¬ ((S * T + sd T).fdiv S) > (dtzV (S * T + sd T) S)) ∧ (¬ (dtzV (S * T + sd T) S) - ((S * T + sd T).fdiv S) > 1) ∧ cq (c_fDtz1 (fol P0 b1 b2) (updS 2911 (updS 2750 (updS 2581 (updS 2417 (u0 τ) x5) x6) x7) x8) (-(S * T + sd T)) (Nat.add τ12 2409) S (x2 0) 2 τ12 702 2410) (∀ (τ13 : Nat) (x13 : Nat → Nat), (¬ dtzV (-(S * T + sd T)) S ≠ -(dtzV (S * T + sd T) S)) ∧ (Builtin.Int.intTooBig (Builtin.Int.intBits S + Builtin.Int.intBits T) = false) ∧ cq (c_fDiv1 (fol P0 b1 b2) (updS 2911 (updS 2750 (updS 2581 (updS 2417 (u0 τ) x5) x6) x7) x8) ((S * T + sd T) + S * T) (Nat.add τ13 2412) S (x2 0) 1 τ13 732 2415) (∀ (τ14 : Nat) (x14 : Nat → Nat), (¬ ((S * T + sd T) + S * T).fdiv S ≠ ((S * T + sd T).fdiv S) + T) ∧ cq (c_fMod1 (fol P0 b1 b2) (updS 2911 (updS 2750 (updS 2581 (updS 2417 (u0 τ) x5) x6) x7) x8) ((S * T + sd T) + S * T) (Nat.add τ13 2412) S (x2 0) 1 τ14 761 2417) (∀ (τ15 : Nat) (x15 : Nat → Nat), (¬ ((S * T + sd T) + S * T).fmod S ≠ ((S * T + sd T).fmod S)) ∧ cq (c_nGcd1 (fol P0 b1 b2) (updS 2911 (updS 2750 (updS 2581 (updS 2417 (u0 τ) x5) x6) x7) x8) (S * T + sd T) (Nat.add τ4 2390) S (x2 0) 1 τ15 790 2418) (∀ (d16 τ16 : Nat) (x16 : Nat → Nat), (¬ ((Int.gcd (((S * T + sd T)).natAbs : Int) ((S).natAbs : Int) : Nat) : Int) < 1) ∧ cq (c_gMod1 (fol P0 b1 b2) (updS 3535 (updS 2911 (updS 2750 (updS 2581 (updS 2417 (u0 τ) x5) x6) x7) x8) x16) (S * T + sd T) (Nat.add τ4 2390) ((Int.gcd (((S * T + sd T)).natAbs : Int) ((S).natAbs : Int) : Nat) : Int) (x16 0) 1 τ16 818 2421) (∀ (d17 τ17 : Nat) (x17 : Nat → Nat), (¬ (S * T + sd T).fmod ((Int.gcd (((S * T + sd T)).natAbs : Int) ((S).natAbs : Int) : Nat) : Int) ≠ 0) ∧ cq (c_gMod1 (fol P0 b1 b2) (updS 3535 (updS 2911 (updS 2750 (updS 2581 (updS 2417 (u0 τ) x5) x6) x7) x8) x16) S (x2 0) ((Int.gcd (((S * T + sd T)).natAbs : Int) ((S).natAbs : Int) : Nat) : Int) (x16 0) 1 τ17 818 2423) (∀ (d18 τ18 : Nat) (x18 : Nat → Nat), (¬ S.fmod ((Int.gcd (((S * T + sd T)).natAbs : Int) ((S).natAbs : Int) : Nat) : Int) ≠ 0) ∧ cq (c_gGcd1 (fol P0 b1 b2) (updS 3535 (updS 2911 (updS 2750 (updS 2581 (updS 2417 (u0 τ) x5) x6) x7) x8) x16) S (x2 0) ((S * T + sd T).fmod S) (x8 0) 1 τ18 818 2425) (∀ (d19 τ19 : Nat) (x19 : Nat → Nat), (¬ ((Int.gcd ((S).natAbs : Int) ((((S * T + sd T).fmod S)).natAbs : Int) : Nat) : Int) ≠ ((Int.gcd (((S * T + sd T)).natAbs : Int) ((S).natAbs : Int) : Nat) : Int)) ∧ cq (c_gGcd1 (fol P0 b1 b2) (updS 3535 (updS 2911 (updS 2750 (updS 2581 (updS 2417 (u0 τ) x5) x6) x7) x8) x16) S (x2 0) (S * T + sd T) (Nat.add τ4 2390) 1 τ19 818 2426) (∀ (d20 τ20 : Nat) (x20 : Nat → Nat), (¬ ((Int.gcd ((S).natAbs : Int) (((S * T + sd T)).natAbs : Int) : Nat) : Int) ≠ ((Int.gcd (((S * T + sd T)).natAbs : Int) ((S).natAbs : Int) : Nat) : Int)) ∧ (Builtin.Int.intTooBig (Builtin.Int.intBits (S * T + sd T) + Builtin.Int.intBits 6) = false) ∧ (Builtin.Int.intTooBig (Builtin.Int.intBits S + Builtin.Int.intBits (-6)) = false) ∧ cq (c_gGcd1 (fol P0 b1 b2) (updS 3535 (updS 2911 (updS 2750 (updS 2581 (updS 2417 (u0 τ) x5) x6) x7) x8) x16) ((S * T + sd T) * 6) (Nat.add τ20 2428) (S * -6) (Nat.add τ20 2431) 6 τ20 818 2432) (∀ (d21 τ21 : Nat) (x21 : Nat → Nat), (Builtin.Int.intTooBig (Builtin.Int.intBits ((Int.gcd (((S * T + sd T)).natAbs : Int) ((S).natAbs : Int) : Nat) : Int) + Builtin.Int.intBits 6) = false) ∧ (((Int.gcd ((((S * T + sd T) * 6)).natAbs : Int) (((S * -6)).natAbs : Int) : Nat) : Int) = ((Int.gcd (((S * T + sd T)).natAbs : Int) ((S).natAbs : Int) : Nat) : Int) * 6) ∧ cq (c_gGcd1 (fol P0 b1 b2) (updS 3535 (updS 2911 (updS 2750 (updS 2581 (updS 2417 (u0 τ) x5) x6) x7) x8) x16) (S * T + sd T) (Nat.add τ4 2390) 0 (Nat.add τ21 2435) 2 τ21 818 2436) (∀ (d22 τ22 : Nat) (x22 : Nat → Nat), ∀ (τ23 y23 : Nat), (((Int.gcd (((S * T + sd T)).natAbs : Int) (((0 : Int)).natAbs : Int) : Nat) : Int) = (((S * T + sd T)).natAbs : Int)) ∧ F true)))))))))))))))))))) := by
  cases b1 <;> kernel_rfl
end Mine
end
section
open PySem PySem.W PySem.W.X
set_option linter.unusedVariables false
namespace Mine
noncomputable def h_law_z0t : List (Nat × H) := [(13286, .con 0), (13271, .con 1), (13256, .con 2), (13239, .con 3), (13223, .op 19), (13219, .op 17), (13205, .op 10), (13198, .op 10), (13191, .op 9), (13045, .op 0), (12558, .op 0), (12177, .op 0), (10269, .opAt 1 623), (10021, .op 0), (9810, .op 0), (9677, .op 20), (9113, .op 0), (7201, .opAt 1 680), (6953, .op 0), (6742, .op 0), (6609, .op 20), (6047, .op 0), (4127, .opAt 1 737), (3879, .op 0), (3668, .op 0), (3535, .op 20), (2973, .op 0), (1057, .opAt 1 794), (809, .op 0), (598, .op 0), (465, .op 20), (35, .op 20), (26, .op 20), (17, .op 20), (8, .op 20)]
noncomputable def consL_z0t (P0 : Params) (b1 b2 : Bool) (vs : List Value) (A S T : Int) : ConsTy := fun k ts _ t n i => match k with
  | 0 => (cSy (fol P0 b1 b2) t)
  | 1 => (cWh vs 0 A 0 [] [] t n i)
  | 2 => (cWh vs 1 S 0 [] [] t n i)
  | 3 => (cWh vs 2 T 0 [] [] t n i)
  | _ => nocon
set_option maxHeartbeats 0 in
theorem run_law_z0t {w : World} {P0 : Params} {b1 : Bool} {τ : Nat} {p p1 : Pos} {ag : Args} {vs : List Value} {A S T : Int} {F : Bool → Prop} :
    sim (SR w (fol P0 b1 true) [] id 370 1000 [] (Fbool F) (consL_z0t P0 b1 true vs A S T)) 13306 ⟨h_law_z0t, [(τ, fun _ => 0)]⟩ [] τ (puts .nil [(369, oList vs)]) 370 690 ⟨.call (.ref 368) ⟨[.ref 369], []⟩, none, none, [(.builtin id_caller ag, p1)], none⟩ p .base (den (.call (.ref 368) ⟨[.ref 369], []⟩)) =
    (cq (cSy (fol P0 b1 true) τ) (cq (cWh vs 0 A 0 [] [] τ 579 2378) (∀ (τ1 : Nat) (x1 : Nat → Nat), cq (cWh vs 1 S 0 [] [] τ1 580 2379) (∀ (τ2 : Nat) (x2 : Nat → Nat), cq (cWh vs 2 T 0 [] [] τ2 581 2381) (∀ (τ3 : Nat) (x3 : Nat → Nat), ((((⟨vs⟩ : Array Value).size : Nat) : Int) < 2 ^ 63) ∧ ((3 : Int) ≠ 0) ∧ (¬ ((((⟨vs⟩ : Array Value).size : Nat) : Int).fmod 3) = 1) ∧ (¬ ((((⟨vs⟩ : Array Value).size : Nat) : Int).fmod 3) = 2) ∧ (S = 0) ∧ (ad [] 623 = ad [] 623) ∧ (ad [] 680 = ad [] 680) ∧ (ad [] 737 = ad [] 737) ∧ (ad [] 794 = ad [] 794) ∧ F true))))) := by
  cases b1 <;> kernel_rfl
noncomputable def h_law_z0f : List (Nat × H) := [(13296, .con 0), (13281, .con 1), (13266, .con 2), (13249, .con 3), (13233, .op 19), (13229, .op 17), (13215, .op 10), (13208, .op 10), (13201, .op 9), (13055, .op 0), (12568, .op 0), (12177, .op 0), (10269, .opAt 1 623), (10021, .op 0), (9810, .op 0), (9677, .op 20), (9113, .op 0), (7201, .opAt 1 680), (6953, .op 0), (6742, .op 0), (6609, .op 20), (6047, .op 0), (4127, .opAt 1 737), (3879, .op 0), (3668, .op 0), (3535, .op 20), (2973, .op 0), (1057, .opAt 1 794), (809, .op 0), (598, .op 0), (465, .op 20), (35, .op 20), (26, .op 20), (17, .op 20), (8, .op 20)]
noncomputable def consL_z0f (P0 : Params) (b1 b2 : Bool) (vs : List Value) (A S T : Int) : ConsTy := fun k ts _ t n i => match k with
  | 0 => (cSy (fol P0 b1 b2) t)
  | 1 => (cWh vs 0 A 0 [] [] t n i)
  | 2 => (cWh vs 1 S 0 [] [] t n i)
  | 3 => (cWh vs 2 T 0 [] [] t n i)
  | _ => nocon
set_option maxHeartbeats 0 in
theorem run_law_z0f {w : World} {P0 : Params} {b1 : Bool} {τ : Nat} {p p1 : Pos} {ag : Args} {vs : List Value} {A S T : Int} {F : Bool → Prop} :
    sim (SR w (fol P0 b1 false) [] id 370 1000 [] (Fbool F) (consL_z0f P0 b1 false vs A S T)) 13316 ⟨h_law_z0f, [(τ, fun _ => 0)]⟩ [] τ (puts .nil [(369, oList vs)]) 370 690 ⟨.call (.ref 368) ⟨[.ref 369], []⟩, none, none, [(.builtin id_caller ag, p1)], none⟩ p .base (den (.call (.ref 368) ⟨[.ref 369], []⟩)) =
    (cq (cSy (fol P0 b1 false) τ) (cq (cWh vs 0 A 0 [] [] τ 579 2378) (∀ (τ1 : Nat) (x1 : Nat → Nat), cq (cWh vs 1 S 0 [] [] τ1 580 2379) (∀ (τ2 : Nat) (x2 : Nat → Nat), cq (cWh vs 2 T 0 [] [] τ2 581 2381) (∀ (τ3 : Nat) (x3 : Nat → Nat), ((((⟨vs⟩ : Array Value).size : Nat) : Int) < 2 ^ 63) ∧ ((3 : Int) ≠ 0) ∧ (¬ ((((⟨vs⟩ : Array Value).size : Nat) : Int).fmod 3) = 1) ∧ (¬ ((((⟨vs⟩ : Array Value).size : Nat) : Int).fmod 3) = 2) ∧ (S = 0) ∧ (ad [] 623 = ad [] 623) ∧ (ad [] 680 = ad [] 680) ∧ (ad [] 737 = ad [] 737) ∧ (ad [] 794 = ad [] 794) ∧ F true))))) := by
  cases b1 <;> kernel_rfl
noncomputable def h_law_z1t : List (Nat × H) := [(13291, .con 0), (13276, .con 1), (13261, .con 2), (13244, .con 3), (13228, .op 19), (13224, .op 17), (13210, .op 9), (13203, .op 18), (13191, .op 9), (13045, .op 0), (12558, .op 0), (12177, .op 0), (10269, .opAt 1 623), (10021, .op 0), (9810, .op 0), (9677, .op 20), (9113, .op 0), (7201, .opAt 1 680), (6953, .op 0), (6742, .op 0), (6609, .op 20), (6047, .op 0), (4127, .opAt 1 737), (3879, .op 0), (3668, .op 0), (3535, .op 20), (2973, .op 0), (1057, .opAt 1 794), (809, .op 0), (598, .op 0), (465, .op 20), (35, .op 20), (26, .op 20), (17, .op 20), (8, .op 20)]
noncomputable def consL_z1t (P0 : Params) (b1 b2 : Bool) (vs : List Value) (A S T : Int) : ConsTy := fun k ts _ t n i => match k with
  | 0 => (cSy (fol P0 b1 b2) t)
  | 1 => (cWh vs 0 A 0 [] [] t n i)
  | 2 => (cWh vs 1 S 0 [] [] t n i)
  | 3 => (cWh vs 2 T 0 [] [] t n i)
  | _ => nocon
set_option maxHeartbeats 0 in
theorem run_law_z1t {w : World} {P0 : Params} {b1 : Bool} {τ : Nat} {p p1 : Pos} {ag : Args} {vs : List Value} {A S T : Int} {F : Bool → Prop} :
    sim (SR w (fol P0 b1 true) [] id 370 1000 [] (Fbool F) (consL_z1t P0 b1 true vs A S T)) 13311 ⟨h_law_z1t, [(τ, fun _ => 0)]⟩ [] τ (puts .nil [(369, oList vs)]) 370 690 ⟨.call (.ref 368) ⟨[.ref 369], []⟩, none, none, [(.builtin id_caller ag, p1)], none⟩ p .base (den (.call (.ref 368) ⟨[.ref 369], []⟩)) =
    (cq (cSy (fol P0 b1 true) τ) (cq (cWh vs 0 A 0 [] [] τ 579 2378) (∀ (τ1 : Nat) (x1 : Nat → Nat), cq (cWh vs 1 S 0 [] [] τ1 580 2379) (∀ (τ2 : Nat) (x2 : Nat → Nat), cq (cWh vs 2 T 0 [] [] τ2 581 2381) (∀ (τ3 : Nat) (x3 : Nat → Nat), ((((⟨vs⟩ : Array Value).size : Nat) : Int) < 2 ^ 63) ∧ ((3 : Int) ≠ 0) ∧ (((((⟨vs⟩ : Array Value).size : Nat) : Int).fmod 3) = 1) ∧ (Builtin.Int.intTooBig (Builtin.Int.intBits S + Builtin.Int.intBits T) = false) ∧ (S = 0) ∧ (ad [] 623 = ad [] 623) ∧ (ad [] 680 = ad [] 680) ∧ (ad [] 737 = ad [] 737) ∧ (ad [] 794 = ad [] 794) ∧ F true))))) := by
  cases b1 <;> kernel_rfl
noncomputable def h_law_z1f : List (Nat × H) := [(13301, .con 0), (13286, .con 1), (13271, .con 2), (13254, .con 3), (13238, .op 19), (13234, .op 17), (13220, .op 9), (13213, .op 18), (13201, .op 9), (13055, .op 0), (12568, .op 0), (12177, .op 0), (10269, .opAt 1 623), (10021, .op 0), (9810, .op 0), (9677, .op 20), (9113, .op 0), (7201, .opAt 1 680), (6953, .op 0), (6742, .op 0), (6609, .op 20), (6047, .op 0), (4127, .opAt 1 737), (3879, .op 0), (3668, .op 0), (3535, .op 20), (2973, .op 0), (1057, .opAt 1 794), (809, .op 0), (598, .op 0), (465, .op 20), (35, .op 20), (26, .op 20), (17, .op 20), (8, .op 20)]
noncomputable def consL_z1f (P0 : Params) (b1 b2 : Bool) (vs : List Value) (A S T : Int) : ConsTy := fun k ts _ t n i => match k with
  | 0 => (cSy (fol P0 b1 b2) t)
  | 1 => (cWh vs 0 A 0 [] [] t n i)
  | 2 => (cWh vs 1 S 0 [] [] t n i)
  | 3 => (cWh vs 2 T 0 [] [] t n i)
  | _ => nocon
set_option maxHeartbeats 0 in
theorem run_law_z1f {w : World} {P0 : Params} {b1 : Bool} {τ : Nat} {p p1 : Pos} {ag : Args} {vs : List Value} {A S T : Int} {F : Bool → Prop} :
    sim (SR w (fol P0 b1 false) [] id 370 1000 [] (Fbool F) (consL_z1f P0 b1 false vs A S T)) 13321 ⟨h_law_z1f, [(τ, fun _ => 0)]⟩ [] τ (puts .nil [(369, oList vs)]) 370 690 ⟨.call (.ref 368) ⟨[.ref 369], []⟩, none, none, [(.builtin id_caller ag, p1)], none⟩ p .base (den (.call (.ref 368) ⟨[.ref 369], []⟩)) =
    (cq (cSy (fol P0 b1 false) τ) (cq (cWh vs 0 A 0 [] [] τ 579 2378) (∀ (τ1 : Nat) (x1 : Nat → Nat), cq (cWh vs 1 S 0 [] [] τ1 580 2379) (∀ (τ2 : Nat) (x2 : Nat → Nat), cq (cWh vs 2 T 0 [] [] τ2 581 2381) (∀ (τ3 : Nat) (x3 : Nat → Nat), ((((⟨vs⟩ : Array Value).size : Nat) : Int) < 2 ^ 63) ∧ ((3 : Int) ≠ 0) ∧ (((((⟨vs⟩ : Array Value).size : Nat) : Int).fmod 3) = 1) ∧ (Builtin.Int.intTooBig (Builtin.Int.intBits S + Builtin.Int.intBits T) = false) ∧ (S = 0) ∧ (ad [] 623 = ad [] 623) ∧ (ad [] 680 = ad [] 680) ∧ (ad [] 737 = ad [] 737) ∧ (ad [] 794 = ad [] 794) ∧ F true))))) := by
  cases b1 <;> kernel_rfl
noncomputable def h_law_z2t : List (Nat × H) := [(13311, .con 0), (13296, .con 1), (13281, .con 2), (13264, .con 3), (13248, .op 19), (13244, .op 17), (13230, .op 10), (13223, .op 9), (13216, .op 18), (13209, .con 4), (13191, .op 9), (13045, .op 0), (12558, .op 0), (12177, .op 0), (10269, .opAt 1 624), (10021, .op 0), (9810, .op 0), (9677, .op 20), (9113, .op 0), (7201, .opAt 1 681), (6953, .op 0), (6742, .op 0), (6609, .op 20), (6047, .op 0), (4127, .opAt 1 738), (3879, .op 0), (3668, .op 0), (3535, .op 20), (2973, .op 0), (1057, .opAt 1 795), (809, .op 0), (598, .op 0), (465, .op 20), (35, .op 20), (26, .op 20), (17, .op 20), (8, .op 20)]
noncomputable def consL_z2t (P0 : Params) (b1 b2 : Bool) (vs : List Value) (A S T : Int) : ConsTy := fun k ts _ t n i => match k with
  | 0 => (cSy (fol P0 b1 b2) t)
  | 1 => (cWh vs 0 A 0 [] [] t n i)
  | 2 => (cWh vs 1 S 0 [] [] t n i)
  | 3 => (cWh vs 2 T 0 [] [] t n i)
  | 4 => (cSd T ((nth ts 0).2 0) n)
  | _ => nocon
set_option maxHeartbeats 0 in
theorem run_law_z2t {w : World} {P0 : Params} {b1 : Bool} {τ : Nat} {p p1 : Pos} {ag : Args} {vs : List Value} {A S T : Int} {F : Bool → Prop} :
    sim (SR w (fol P0 b1 true) [] id 370 1000 [] (Fbool F) (consL_z2t P0 b1 true vs A S T)) 13331 ⟨h_law_z2t, [(τ, fun _ => 0)]⟩ [] τ (puts .nil [(369, oList vs)]) 370 690 ⟨.call (.ref 368) ⟨[.ref 369], []⟩, none, none, [(.builtin id_caller ag, p1)], none⟩ p .base (den (.call (.ref 368) ⟨[.ref 369], []⟩)) =
    (cq (cSy (fol P0 b1 true) τ) (cq (cWh vs 0 A 0 [] [] τ 579 2378) (∀ (τ1 : Nat) (x1 : Nat → Nat), cq (cWh vs 1 S 0 [] [] τ1 580 2379) (∀ (τ2 : Nat) (x2 : Nat → Nat), cq (cWh vs 2 T 0 [] [] τ2 581 2381) (∀ (τ3 : Nat) (x3 : Nat → Nat), ((((⟨vs⟩ : Array Value).size : Nat) : Int) < 2 ^ 63) ∧ ((3 : Int) ≠ 0) ∧ (¬ ((((⟨vs⟩ : Array Value).size : Nat) : Int).fmod 3) = 1) ∧ (((((⟨vs⟩ : Array Value).size : Nat) : Int).fmod 3) = 2) ∧ (Builtin.Int.intTooBig (Builtin.Int.intBits S + Builtin.Int.intBits T) = false) ∧ cq (cSd T (x3 0) 582) (∀ (τ4 : Nat) (x4 : Nat → Nat), (S = 0) ∧ (ad [] 624 = ad [] 624) ∧ (ad [] 681 = ad [] 681) ∧ (ad [] 738 = ad [] 738) ∧ (ad [] 795 = ad [] 795) ∧ F true)))))) := by
  cases b1 <;> kernel_rfl
noncomputable def h_law_z2f : List (Nat × H) := [(13321, .con 0), (13306, .con 1), (13291, .con 2), (13274, .con 3), (13258, .op 19), (13254, .op 17), (13240, .op 10), (13233, .op 9), (13226, .op 18), (13219, .con 4), (13201, .op 9), (13055, .op 0), (12568, .op 0), (12177, .op 0), (10269, .opAt 1 624), (10021, .op 0), (9810, .op 0), (9677, .op 20), (9113, .op 0), (7201, .opAt 1 681), (6953, .op 0), (6742, .op 0), (6609, .op 20), (6047, .op 0), (4127, .opAt 1 738), (3879, .op 0), (3668, .op 0), (3535, .op 20), (2973, .op 0), (1057, .opAt 1 795), (809, .op 0), (598, .op 0), (465, .op 20), (35, .op 20), (26, .op 20), (17, .op 20), (8, .op 20)]
noncomputable def consL_z2f (P0 : Params) (b1 b2 : Bool) (vs : List Value) (A S T : Int) : ConsTy := fun k ts _ t n i => match k with
  | 0 => (cSy (fol P0 b1 b2) t)
  | 1 => (cWh vs 0 A 0 [] [] t n i)
  | 2 => (cWh vs 1 S 0 [] [] t n i)
  | 3 => (cWh vs 2 T 0 [] [] t n i)
  | 4 => (cSd T ((nth ts 0).2 0) n)
  | _ => nocon
set_option maxHeartbeats 0 in
theorem run_law_z2f {w : World} {P0 : Params} {b1 : Bool} {τ : Nat} {p p1 : Pos} {ag : Args} {vs : List Value} {A S T : Int} {F : Bool → Prop} :
    sim (SR w (fol P0 b1 false) [] id 370 1000 [] (Fbool F) (consL_z2f P0 b1 false vs A S T)) 13341 ⟨h_law_z2f, [(τ, fun _ => 0)]⟩ [] τ (puts .nil [(369, oList vs)]) 370 690 ⟨.call (.ref 368) ⟨[.ref 369], []⟩, none, none, [(.builtin id_caller ag, p1)], none⟩ p .base (den (.call (.ref 368) ⟨[.ref 369], []⟩)) =
    (cq (cSy (fol P0 b1 false) τ) (cq (cWh vs 0 A 0 [] [] τ 579 2378) (∀ (τ1 : Nat) (x1 : Nat → Nat), cq (cWh vs 1 S 0 [] [] τ1 580 2379) (∀ (τ2 : Nat) (x2 : Nat → Nat), cq (cWh vs 2 T 0 [] [] τ2 581 2381) (∀ (τ3 : Nat) (x3 : Nat → Nat), ((((⟨vs⟩ : Array Value).size : Nat) : Int) < 2 ^ 63) ∧ ((3 : Int) ≠ 0) ∧ (¬ ((((⟨vs⟩ : Array Value).size : Nat) : Int).fmod 3) = 1) ∧ (((((⟨vs⟩ : Array Value).size : Nat) : Int).fmod 3) = 2) ∧ (Builtin.Int.intTooBig (Builtin.Int.intBits S + Builtin.Int.intBits T) = false) ∧ cq (cSd T (x3 0) 582) (∀ (τ4 : Nat) (x4 : Nat → Nat), (S = 0) ∧ (ad [] 624 = ad [] 624) ∧ (ad [] 681 = ad [] 681) ∧ (ad [] 738 = ad [] 738) ∧ (ad [] 795 = ad [] 795) ∧ F true)))))) := by
  cases b1 <;> kernel_rfl
end Mine
end
section
open PySem PySem.W PySem.W.X
namespace Mine
open Builtin.Int (intBits intTooBig)

theorem dtzV_eq (x y : Int) : dtzV x y = x.tdiv y := by
  unfold dtzV
  have key : ∀ m n : Nat, (Int.ofNat m).fdiv (Int.ofNat n) = Int.ofNat m / Int.ofNat n := fun m n => Int.fdiv_eq_ediv_of_nonneg _ (Int.natCast_nonneg n)
  obtain ⟨m, rfl | rfl⟩ := x.eq_nat_or_neg <;> obtain ⟨n, rfl | rfl⟩ := y.eq_nat_or_neg
  · rw [if_pos (by simp; omega)]
    simp only [Int.natAbs_natCast]
    exact (key m n).trans (Int.tdiv_eq_ediv_of_nonneg (Int.natCast_nonneg m)).symm
  · simp only [Int.natAbs_natCast, Int.natAbs_neg, Int.tdiv_neg]
    rw [show ((m : Int)).fdiv (n : Int) = (m : Int).tdiv n from (key m n).trans (Int.tdiv_eq_ediv_of_nonneg (Int.natCast_nonneg m)).symm]
    split
    · rename_i h
      have : n = 0 := by
        have h1 : ¬ ((m : Int) < 0) := by omega
        rw [eq_false h1] at h
        have h2 : ¬ (-(n : Int) < 0) := by rw [← h]; exact id
        omega
      subst this
      simp
    · rfl
  · simp only [Int.natAbs_natCast, Int.natAbs_neg, Int.neg_tdiv]
    rw [show ((m : Int)).fdiv (n : Int) = (m : Int).tdiv n from (key m n).trans (Int.tdiv_eq_ediv_of_nonneg (Int.natCast_nonneg m)).symm]
    split
    · rename_i h
      have : m = 0 := by
        have h1 : ¬ ((n : Int) < 0) := by omega
        rw [eq_false h1] at h
        have h2 : ¬ (-(m : Int) < 0) := by rw [h]; exact id
        omega
      subst this
      simp
    · rfl
  · simp only [Int.natAbs_natCast, Int.natAbs_neg, Int.neg_tdiv, Int.tdiv_neg, Int.neg_neg]
    rw [show ((m : Int)).fdiv (n : Int) = (m : Int).tdiv n from (key m n).trans (Int.tdiv_eq_ediv_of_nonneg (Int.natCast_nonneg m)).symm]
    split
    · rfl
    · rename_i h
      by_cases hm : m = 0
      · subst hm; simp
      · by_cases hn : n = 0
        · subst hn; simp
        · exact absurd (propext ⟨fun _ => by omega, fun _ => by omega⟩) h

theorem rest_eq (a S : Int) : a - S * dtzV a S = a.tmod S := by rw [dtzV_eq, Int.tmod_def]
theorem big_ok {x y : Int} {m n : Nat} (hx : intBits x ≤ m) (hy : intBits y ≤ n) (h : m + n ≤ 134217728) : intTooBig (intBits x + intBits y) = false := by
  unfold intTooBig
  have : ¬ ((intBits x : Int) + (intBits y : Int) > bitsLine) := by
    have : bitsLine = 134217728 := by decide
    omega
  simpa using this
theorem pyl_ok {x y : Int} {m : Nat} (hx : intBits x ≤ m) (h : m ≤ 4500) : Builtin.divisionGoesByPylong x y = false := by
  have hd : (if x == 0 then 0 else x.natAbs.log2 / 30 + 1) ≤ 151 := by
    unfold intBits at hx
    by_cases h0 : x = 0
    · subst h0; simp
    · have : (x == 0) = false := beq_eq_false_iff_ne.mpr h0
      simp only [this] at hx ⊢
      simp at hx ⊢
      omega
  show (decide ((if y == 0 then 0 else y.natAbs.log2 / 30 + 1) > 300) && decide ((if x == 0 then 0 else x.natAbs.log2 / 30 + 1) > (if y == 0 then 0 else y.natAbs.log2 / 30 + 1) + 150)) = false
  generalize (if x == 0 then 0 else x.natAbs.log2 / 30 + 1) = dx at *
  generalize (if y == 0 then 0 else y.natAbs.log2 / 30 + 1) = dy at *
  by_cases q : dy > 300
  · rw [decide_eq_false (show ¬ dx > dy + 150 by omega), Bool.and_false]
  · rw [decide_eq_false q, Bool.false_and]
theorem bits_tdiv {a S : Int} {m : Nat} (h : intBits a ≤ m) : intBits (dtzV a S) ≤ m := by
  rw [dtzV_eq]; exact intBits_le_of_natAbs (Int.natAbs_tdiv_le_natAbs a S) h
theorem tmod_abs_lt (a : Int) {S : Int} (h : S ≠ 0) : (a.tmod S).natAbs < S.natAbs := by
  rw [Int.natAbs_tmod]; exact Nat.mod_lt _ (by omega)
theorem fmod_abs_lt (a : Int) {S : Int} (h : S ≠ 0) : (a.fmod S).natAbs < S.natAbs := by
  rcases Int.lt_or_gt_of_ne h with q | q
  · have h1 := Int.fmod_nonneg_of_pos (-a) (b := -S) (by omega)
    have h2 := Int.fmod_lt_of_pos (-a) (b := -S) (by omega)
    rw [Int.neg_fmod_neg] at h1 h2
    omega
  · have h1 := Int.fmod_nonneg_of_pos a (b := S) q
    have h2 := Int.fmod_lt_of_pos a (b := S) q
    omega
theorem bits_tmod {a S : Int} {m : Nat} (h : intBits a ≤ m) : intBits (a - S * dtzV a S) ≤ m := by
  rw [rest_eq]
  refine intBits_le_of_natAbs ?_ h
  rw [Int.natAbs_tmod]
  exact Nat.mod_le _ _
theorem bits_fm {a S : Int} {m : Nat} (hS : S ≠ 0) (h : intBits S ≤ m) : intBits (a.fmod S) ≤ m :=
  intBits_le_of_natAbs (Nat.le_of_lt (fmod_abs_lt a hS)) h
theorem sd_pos {x : Int} (h : 0 < x) : sd x = 1 := if_pos h
theorem sd_neg {x : Int} (h : x < 0) : sd x = -1 := by unfold sd; rw [if_neg (by omega), if_pos h]
theorem sd_tmod {a S : Int} (h : a.tmod S ≠ 0) : sd (a.tmod S) = sd a := by
  rcases Int.lt_trichotomy a 0 with q | q | q
  · have := Int.tmod_nonneg (a := -a) S (by omega)
    rw [Int.neg_tmod] at this
    rw [sd_neg q, sd_neg (by omega)]
  · subst q; simp at h
  · have := Int.tmod_nonneg (a := a) S (by omega)
    rw [sd_pos q, sd_pos (by omega)]
theorem sd_fmod {a S : Int} (hS : S ≠ 0) (h : a.fmod S ≠ 0) : sd (a.fmod S) = sd S := by
  rcases Int.lt_or_gt_of_ne hS with q | q
  · have h1 := Int.fmod_nonneg_of_pos (-a) (b := -S) (by omega)
    rw [Int.neg_fmod_neg] at h1
    rw [sd_neg q, sd_neg (by omega)]
  · have h1 := Int.fmod_nonneg_of_pos a (b := S) q
    rw [sd_pos q, sd_pos (by omega)]
theorem sd_bits (x : Int) : intBits (sd x) ≤ 1 := by
  unfold sd
  split
  · exact intBits_le_iff.mpr (by decide)
  · split <;> exact intBits_le_iff.mpr (by decide)
theorem low_le (a : Int) {S : Int} (hS : S ≠ 0) : a.fdiv S ≤ a.tdiv S ∧ a.tdiv S - a.fdiv S ≤ 1 := by
  have e1 := Int.fdiv_mul_add_fmod a S
  have e2 := Int.tdiv_mul_add_tmod a S
  have b2 := tmod_abs_lt a hS
  have e3 : (a.tdiv S - a.fdiv S) * S = a.fmod S - a.tmod S := by rw [Int.sub_mul]; omega
  generalize hdd : a.tdiv S - a.fdiv S = d at e3
  have hd : 0 ≤ d ∧ d ≤ 1 := by
    rcases Int.lt_or_gt_of_ne hS with q | q
    · have h1 := Int.fmod_nonneg_of_pos (-a) (b := -S) (by omega)
      have h2 := Int.fmod_lt_of_pos (-a) (b := -S) (by omega)
      rw [Int.neg_fmod_neg] at h1 h2
      constructor
      · refine Int.not_lt.mp fun hd => ?_
        have : -S ≤ d * S := by
          have := Int.mul_le_mul_of_nonpos_right (show d ≤ -1 by omega) (show S ≤ 0 by omega)
          omega
        omega
      · refine Int.not_lt.mp fun hd => ?_
        have : d * S ≤ 2 * S := Int.mul_le_mul_of_nonpos_right (show 2 ≤ d by omega) (show S ≤ 0 by omega)
        omega
    · have h1 := Int.fmod_nonneg_of_pos a (b := S) q
      have h2 := Int.fmod_lt_of_pos a (b := S) q
      constructor
      · refine Int.not_lt.mp fun hd => ?_
        have : d * S ≤ -1 * S := Int.mul_le_mul_of_nonneg_right (show d ≤ -1 by omega) (show 0 ≤ S by omega)
        omega
      · refine Int.not_lt.mp fun hd => ?_
        have : 2 * S ≤ d * S := Int.mul_le_mul_of_nonneg_right (show 2 ≤ d by omega) (show 0 ≤ S by omega)
        omega
  omega
noncomputable abbrev gcV (x y : Int) : Int := ((Int.gcd (x.natAbs : Int) (y.natAbs : Int) : Nat) : Int)
theorem gcV_eq (x y : Int) : gcV x y = (Int.gcd x y : Int) := rfl
section
variable {a S T : Int}
theorem k1 (a S : Int) : ¬ (dtzV a S) * S + (a - S * (dtzV a S)) ≠ a := fun h => h (by rw [Int.mul_comm]; omega)
theorem k2 (a S : Int) : ¬ (a.fdiv S) * S + (a.fmod S) ≠ a := fun h => h (Int.fdiv_mul_add_fmod a S)
theorem k3 (a : Int) (hS : S ≠ 0) : ¬ (((a - S * (dtzV a S))).natAbs : Int) ≥ ((S).natAbs : Int) := by
  have := tmod_abs_lt a hS
  rw [rest_eq]; omega
theorem k4 (h : (a - S * (dtzV a S)) ≠ 0) : ¬ sd (a - S * (dtzV a S)) ≠ sd a := fun q => q (by rw [rest_eq] at h ⊢; exact sd_tmod h)
theorem k5 (a : Int) (hS : S ≠ 0) : ¬ (((a.fmod S)).natAbs : Int) ≥ ((S).natAbs : Int) := by
  have := fmod_abs_lt a hS
  omega
theorem k6 (h : (a - S * (dtzV a S)) ≠ 0) : (a.fmod S) ≠ 0 := by
  rw [rest_eq] at h
  intro q
  exact h (Int.tmod_eq_zero_of_dvd (Int.dvd_of_fmod_eq_zero q))
theorem k6' (h : ¬ (a - S * (dtzV a S)) ≠ 0) : ¬ (a.fmod S) ≠ 0 := by
  rw [rest_eq] at h
  intro q
  exact q (Int.fmod_eq_zero_of_dvd (Int.dvd_of_tmod_eq_zero (Classical.not_not.mp h)))
theorem k7 (hS : S ≠ 0) (h : (a - S * (dtzV a S)) ≠ 0) : ¬ sd (a.fmod S) ≠ sd S := fun q => q (sd_fmod hS (k6 h))
theorem k8 (a : Int) (hS : S ≠ 0) : ¬ (a.fdiv S) > (dtzV a S) := by
  have := (low_le a hS).1
  rw [dtzV_eq]; omega
theorem k9 (a : Int) (hS : S ≠ 0) : ¬ (dtzV a S) - (a.fdiv S) > 1 := by
  have := (low_le a hS).2
  rw [dtzV_eq]; omega
theorem k10 (a S : Int) : ¬ dtzV (-a) S ≠ -(dtzV a S) := fun h => h (by rw [dtzV_eq, dtzV_eq, Int.neg_tdiv])
theorem k11 (a T : Int) (hS : S ≠ 0) : ¬ (a + S * T).fdiv S ≠ (a.fdiv S) + T := fun h => h (Int.add_mul_fdiv_left a T hS)
theorem k12 (a S T : Int) : ¬ (a + S * T).fmod S ≠ (a.fmod S) := fun h => h (Int.add_mul_fmod_self_left a S T)
theorem gc_pos (a : Int) (hS : S ≠ 0) : 0 < Int.gcd a S := Int.gcd_pos_of_ne_zero_right a hS
theorem k13 (a : Int) (hS : S ≠ 0) : ¬ gcV a S < 1 := by
  have := gc_pos a hS
  rw [gcV_eq]; omega
theorem gc_ne (a : Int) (hS : S ≠ 0) : gcV a S ≠ 0 := by
  have := gc_pos a hS
  rw [gcV_eq]; omega
theorem k14 (a S : Int) : ¬ a.fmod (gcV a S) ≠ 0 := fun h => h (Int.fmod_eq_zero_of_dvd (by rw [gcV_eq]; exact Int.gcd_dvd_left a S))
theorem k15 (a S : Int) : ¬ S.fmod (gcV a S) ≠ 0 := fun h => h (Int.fmod_eq_zero_of_dvd (by rw [gcV_eq]; exact Int.gcd_dvd_right a S))
theorem k16 (a S : Int) : ¬ gcV S (a.fmod S) ≠ gcV a S := fun h => h (by
  rw [gcV_eq, gcV_eq, Int.fmod_def, Int.gcd_sub_mul_left_right, Int.gcd_comm])
theorem k17 (a S : Int) : ¬ gcV S a ≠ gcV a S := fun h => h (by rw [gcV_eq, gcV_eq, Int.gcd_comm])
theorem k18 (a S : Int) : gcV (a * 6) (S * -6) = gcV a S * 6 := by
  rw [gcV_eq, gcV_eq, show S * -6 = -(S * 6) by omega, Int.gcd_neg, Int.gcd_mul_right]
  rfl
theorem k19 (a : Int) : gcV a 0 = (a.natAbs : Int) := by rw [gcV_eq, Int.gcd_zero_right]
theorem bits_gc {a S : Int} {m : Nat} (ha : intBits a ≤ m) (hS : intBits S ≤ m) : intBits (gcV a S) ≤ m := by
  rw [gcV_eq]
  by_cases h : S = 0
  · subst h
    rw [Int.gcd_zero_right]
    exact intBits_natAbs_le ha
  · refine intBits_le_of_natAbs ?_ hS
    have : (Int.gcd a S : Int) ≤ (S.natAbs : Int) := by
      have := Nat.le_of_dvd (by omega) (Int.gcd_dvd_natAbs_right a S)
      omega
    omega
theorem hb_of {v : Int} (h : intBits v ≤ 800) : ¬ ((intBits v : Nat) : Int) > 100000 := by omega
theorem pylA {x y : Int} (h : intBits x ≤ 800) : Builtin.divisionGoesByPylong (x.natAbs : Int) (y.natAbs : Int) = false := pyl_ok (intBits_natAbs_le h) (by omega)
theorem pylB {x y : Int} (h : intBits x ≤ 800) : Builtin.divisionGoesByPylong x y = false := pyl_ok h (by omega)
theorem big8 {x y : Int} (hx : intBits x ≤ 800) (hy : intBits y ≤ 800) : intTooBig (intBits x + intBits y) = false := big_ok hx hy (by omega)
end
theorem whole_bits (vs : List Value) (k : Nat) (hk : k ≤ 2) : intBits (wholeV vs k) ≤ 200 := by
  have hN : intBits 1000000000000000000000000000000000000000000000000000000000000 ≤ 200 := by decide +kernel
  have hk : intBits (k : Int) ≤ 200 := by
    refine intBits_le_iff.mpr ?_
    have h : (2 : Nat) < 2 ^ 200 := by decide +kernel
    exact Nat.lt_of_le_of_lt (by simpa using hk) h
  unfold wholeV
  split
  · split
    · exact intBits_le_of_natAbs (Nat.le_of_lt (fmod_abs_lt _ (by decide))) hN
    · refine intBits_neg_le (intBits_le_of_natAbs (Nat.le_of_lt (fmod_abs_lt _ (by decide))) hN)
  · exact hk
end Mine
end
section
open PySem PySem.W PySem.W.X
namespace Mine
/-- where the law begins -/
structure LawAt (P : Params) (vs : List Value) (s : Shared) : Prop where
  old : ∀ a o, a < 369 → (kt0 P).get a = some o → s.heap.get? a = some o
  list : s.heap.get? 369 = some (oList vs)
  size : s.heap.objs.size = 370
  toks : 690 ≤ s.toks
  gens : s.gens = #[]
/-- how it ends -/
noncomputable def LawEnd (s : Shared) (R : Result → Shared → Prop) : Prop := ∀ s' : Shared, (∀ b o, s.heap.get? b = some o → s'.heap.get? b = some o) → s'.gens = #[] → s'.os = s.os → R (.ok (.ret (.bool true))) s'
noncomputable abbrev lawC (ag : Args) (p1 : Pos) : PySem.Ctx := ⟨.call (.ref 368) ⟨[.ref 369], []⟩, none, none, [(.builtin id_caller ag, p1)], none⟩
theorem law_run {w : World} {P : Params} (hP : P = w.params) {vs : List Value} {s : Shared} (L : LawAt P vs s) {p p1 : Pos} {ag : Args} {R : Result → Shared → Prop} (HR : LawEnd s R) {hi : Nat} (hh : 369 ≤ hi) {cons : ConsTy}
    (hcons : ∀ k ts rs τ n i, (cons k ts rs τ n i).Valid (SR w P [] id 370 hi [] (Fbool (· = true)) cons) rs τ) {f : Nat} {hs : Hs}
    (H : sim (SR w P [] id 370 hi [] (Fbool (· = true)) cons) f hs [] (s.toks - 690) (puts .nil [(369, oList vs)]) 370 690 (lawC ag p1) p .base (den (.call (.ref 368) ⟨[.ref 369], []⟩))) : wpCode (model pw w) (lawC ag p1) R p s := by
  have B : (SR w P [] id 370 hi [] (Fbool (· = true)) cons).Base := SR_base hP
  have htk := L.toks
  have G : Ground (SR w P [] id 370 hi [] (Fbool (· = true)) cons) s.heap [] 370 := ⟨Mono.nil, fun _ _ => rfl, Nat.le_of_eq L.size, Nat.le_refl _, fun _ _ => rfl, fun _ _ => rfl⟩
  refine code_of_sim (S := SR w P [] id 370 hi [] (Fbool (· = true)) cons) (T := s.toks) (os₀ := s.os) ⟨hP, fun u hu => (nomatch hu), hh, by show 369 ≤ 370; omega, B.ops, B.ops2, hcons⟩
    (fun e m rs' τ' j mem s' D' G' ht' hT' hg' ho' hF => ?_) H (start_rep L.size L.old rfl (fun x hx => ?_)) G (by omega) (Nat.le_refl _) L.gens rfl
  · have hF : Fbool (· = true) e m rs' τ' j ([].map mem.get) := hF
    obtain ⟨x, rfl, rfl⟩ := Fbool_is (os := [].map mem.get) hF
    exact HR s' (fun b o e => D'.keep b o (fun u hu => (nomatch hu)) e) hg' ho'
  · cases List.mem_singleton.mp hx
    exact L.list
theorem law_w0N {w : World} {P0 : Params} {b1 b2 : Bool} (hP : fol P0 b1 b2 = w.params) {vs : List Value} (hvs : ∀ v ∈ vs, ∃ x t, v = .int x t) (hl : vs.length < 2 ^ 63) {A S T : Int} (eA : wholeV vs 0 = A) (eS : wholeV vs 1 = S) (eT : wholeV vs 2 = T)
    {s : Shared} (L : LawAt (fol P0 b1 b2) vs s) {p p1 : Pos} {ag : Args} {R : Result → Shared → Prop} (HR : LawEnd s R) (hw1 : ¬ (((⟨vs⟩ : Array Value).size : Nat) : Int).fmod 3 = 1) (hw2 : ¬ (((⟨vs⟩ : Array Value).size : Nat) : Int).fmod 3 = 2) (hS0 : ¬ S = 0) (hr : (A - S * (dtzV A S)) ≠ 0) : wpCode (model pw w) (lawC ag p1) R p s := by
  have hA2 : Builtin.Int.intBits A ≤ 200 := eA ▸ whole_bits vs 0 (by omega)
  have hS2 : Builtin.Int.intBits S ≤ 200 := eS ▸ whole_bits vs 1 (by omega)
  have hT2 : Builtin.Int.intBits T ≤ 200 := eT ▸ whole_bits vs 2 (by omega)
  have ha4 : Builtin.Int.intBits A ≤ 401 := Nat.le_trans hA2 (by omega)
  have hS : Builtin.Int.intBits S ≤ 800 := Nat.le_trans hS2 (by omega)
  have hT : Builtin.Int.intBits T ≤ 800 := Nat.le_trans hT2 (by omega)
  have ha : Builtin.Int.intBits A ≤ 800 := Nat.le_trans ha4 (by omega)
  have hna : Builtin.Int.intBits (-A) ≤ 800 := intBits_neg_le ha
  have hag : Builtin.Int.intBits (A + S * T) ≤ 800 := Nat.le_trans (intBits_add_le ha4 (intBits_mul_le hS2 hT2)) (by decide)
  have hm : Builtin.Int.intBits (A.fmod S) ≤ 800 := bits_fm hS0 hS
  have hc : Builtin.Int.intBits (gcV A S) ≤ 800 := bits_gc ha hS
  have hc0 : gcV A S ≠ 0 := gc_ne A hS0
  have h6 : Builtin.Int.intBits 6 ≤ 800 := by decide
  have hm6 : Builtin.Int.intBits (-6) ≤ 800 := by decide
  have h0 : Builtin.Int.intBits 0 ≤ 800 := by decide
  have ha6 : Builtin.Int.intBits (A * 6) ≤ 800 := Nat.le_trans (intBits_mul_le ha4 (n := 3) (by decide)) (by decide)
  have hS6 : Builtin.Int.intBits (S * -6) ≤ 800 := Nat.le_trans (intBits_mul_le hS2 (n := 3) (by decide)) (by decide)
  have hs63 : (((⟨vs⟩ : Array Value).size : Nat) : Int) < 2 ^ 63 := by
    show ((vs.length : Nat) : Int) < 2 ^ 63
    omega
  refine law_run hP L HR (hi := 810) (by omega) (cons := consL_w0N P0 b1 b2 vs A S T) ?_ (f := 597) (hs := ⟨h_law_w0N, [(s.toks - 690, fun _ => 0)]⟩) (cast (run_law_w0N).symm ?_)
  · intro k ts rs τ n i
    unfold consL_w0N
    split
    · exact cSy_valid hP _ _ _
    · rw [← eA]; exact cWh0_valid hP hvs hl 0 [] rs τ n i
    · rw [← eS]; exact cWh1_valid hP hvs hl 0 [] rs τ n i
    · rw [← eT]; exact cWh2_valid hP hvs hl 0 [] rs τ n i
    · exact c_nDtz0_valid hP hS0 (pylA ha) (hb_of (bits_tdiv ha)) _ _
    · exact c_nRem0_valid hP hS0 (pylA ha) (big8 hS (bits_tdiv ha)) (hb_of (bits_tmod ha)) _ _
    · exact c_nDiv0_valid hP hS0 (pylB ha) (hb_of (intBits_fdiv_le ha)) _ _
    · exact c_nMod0_valid hP hS0 (hb_of (bits_fm hS0 hS)) _ _
    · exact cSd_valid hP _ _ _
    · exact cSd_valid hP _ _ _
    · exact cSd_valid hP _ _ _
    · exact cSd_valid hP _ _ _
    · exact c_fDtz4_valid hP hS0 (pylA hna) (hb_of (bits_tdiv hna)) _ _
    · exact c_fDiv0_valid hP hS0 (pylB hag) (hb_of (intBits_fdiv_le hag)) _ _
    · exact c_fMod0_valid hP hS0 (hb_of (bits_fm hS0 hS)) _ _
    · exact c_nGcd4_valid hP (hb_of (bits_gc ha hS)) _ _
    · exact c_gMod4_valid hP hc0 (hb_of (bits_fm hc0 hc)) _ _
    · exact c_gMod4_valid hP hc0 (hb_of (bits_fm hc0 hc)) _ _
    · exact c_gGcd4_valid hP (hb_of (bits_gc hS hm)) _ _
    · exact c_gGcd4_valid hP (hb_of (bits_gc hS ha)) _ _
    · exact c_gGcd4_valid hP (hb_of (bits_gc ha6 hS6)) _ _
    · exact c_gGcd4_valid hP (hb_of (bits_gc ha h0)) _ _
    · exact nocon_valid
  · exact ⟨rfl, selfs_all _, ⟨rfl, selfs_all _, fun _ _ => ⟨rfl, selfs_all _, fun _ _ => ⟨rfl, selfs_all _, fun _ _ => ⟨hs63, ⟨(by decide), ⟨hw1, ⟨hw2, ⟨hS0, ⟨rfl, selfs_all _, fun _ _ => ⟨rfl, selfs_all _, fun _ _ => ⟨rfl, selfs_all _, fun _ _ => ⟨rfl, selfs_all _, fun _ _ => ⟨(big8 (bits_tdiv ha) hS), ⟨(k1 A S), ⟨(big8 (intBits_fdiv_le ha) hS), ⟨(k2 A S), fun _ _ => fun _ _ => ⟨(k3 A hS0), ⟨hr, ⟨rfl, selfs_all _, fun _ _ => ⟨rfl, selfs_all _, fun _ _ => ⟨(k4 hr), fun _ _ => fun _ _ => ⟨(k5 A hS0), ⟨(k6 hr), ⟨rfl, selfs_all _, fun _ _ => ⟨rfl, selfs_all _, fun _ _ => ⟨(k7 hS0 hr), ⟨(k8 A hS0), ⟨(k9 A hS0), ⟨rfl, selfs_all _, fun _ _ => ⟨(k10 A S), ⟨(big8 hS hT), ⟨rfl, selfs_all _, fun _ _ => ⟨(k11 A T hS0), ⟨rfl, selfs_all _, fun _ _ => ⟨(k12 A S T), ⟨rfl, selfs_all _, fun _ _ _ => ⟨(k13 A hS0), ⟨rfl, selfs_all _, fun _ _ _ => ⟨(k14 A S), ⟨rfl, selfs_all _, fun _ _ _ => ⟨(k15 A S), ⟨rfl, selfs_all _, fun _ _ _ => ⟨(k16 A S), ⟨rfl, selfs_all _, fun _ _ _ => ⟨(k17 A S), ⟨(big8 ha h6), ⟨(big8 hS hm6), ⟨rfl, selfs_all _, fun _ _ _ => ⟨(big8 hc h6), ⟨(k18 A S), ⟨rfl, selfs_all _, fun _ _ _ => fun _ _ => ⟨(k19 A), rfl⟩⟩⟩⟩⟩⟩⟩⟩⟩⟩⟩⟩⟩⟩⟩⟩⟩⟩⟩⟩⟩⟩⟩⟩⟩⟩⟩⟩⟩⟩⟩⟩⟩⟩⟩⟩⟩⟩⟩⟩⟩⟩⟩⟩⟩⟩⟩⟩⟩⟩⟩⟩⟩
theorem law_w0Z {w : World} {P0 : Params} {b1 b2 : Bool} (hP : fol P0 b1 b2 = w.params) {vs : List Value} (hvs : ∀ v ∈ vs, ∃ x t, v = .int x t) (hl : vs.length < 2 ^ 63) {A S T : Int} (eA : wholeV vs 0 = A) (eS : wholeV vs 1 = S) (eT : wholeV vs 2 = T)
    {s : Shared} (L : LawAt (fol P0 b1 b2) vs s) {p p1 : Pos} {ag : Args} {R : Result → Shared → Prop} (HR : LawEnd s R) (hw1 : ¬ (((⟨vs⟩ : Array Value).size : Nat) : Int).fmod 3 = 1) (hw2 : ¬ (((⟨vs⟩ : Array Value).size : Nat) : Int).fmod 3 = 2) (hS0 : ¬ S = 0) (hr : ¬ (A - S * (dtzV A S)) ≠ 0) : wpCode (model pw w) (lawC ag p1) R p s := by
  have hA2 : Builtin.Int.intBits A ≤ 200 := eA ▸ whole_bits vs 0 (by omega)
  have hS2 : Builtin.Int.intBits S ≤ 200 := eS ▸ whole_bits vs 1 (by omega)
  have hT2 : Builtin.Int.intBits T ≤ 200 := eT ▸ whole_bits vs 2 (by omega)
  have ha4 : Builtin.Int.intBits A ≤ 401 := Nat.le_trans hA2 (by omega)
  have hS : Builtin.Int.intBits S ≤ 800 := Nat.le_trans hS2 (by omega)
  have hT : Builtin.Int.intBits T ≤ 800 := Nat.le_trans hT2 (by omega)
  have ha : Builtin.Int.intBits A ≤ 800 := Nat.le_trans ha4 (by omega)
  have hna : Builtin.Int.intBits (-A) ≤ 800 := intBits_neg_le ha
  have hag : Builtin.Int.intBits (A + S * T) ≤ 800 := Nat.le_trans (intBits_add_le ha4 (intBits_mul_le hS2 hT2)) (by decide)
  have hm : Builtin.Int.intBits (A.fmod S) ≤ 800 := bits_fm hS0 hS
  have hc : Builtin.Int.intBits (gcV A S) ≤ 800 := bits_gc ha hS
  have hc0 : gcV A S ≠ 0 := gc_ne A hS0
  have h6 : Builtin.Int.intBits 6 ≤ 800 := by decide
  have hm6 : Builtin.Int.intBits (-6) ≤ 800 := by decide
  have h0 : Builtin.Int.intBits 0 ≤ 800 := by decide
  have ha6 : Builtin.Int.intBits (A * 6) ≤ 800 := Nat.le_trans (intBits_mul_le ha4 (n := 3) (by decide)) (by decide)
  have hS6 : Builtin.Int.intBits (S * -6) ≤ 800 := Nat.le_trans (intBits_mul_le hS2 (n := 3) (by decide)) (by decide)
  have hs63 : (((⟨vs⟩ : Array Value).size : Nat) : Int) < 2 ^ 63 := by
    show ((vs.length : Nat) : Int) < 2 ^ 63
    omega
  refine law_run hP L HR (hi := 810) (by omega) (cons := consL_w0Z P0 b1 b2 vs A S T) ?_ (f := 559) (hs := ⟨h_law_w0Z, [(s.toks - 690, fun _ => 0)]⟩) (cast (run_law_w0Z).symm ?_)
  · intro k ts rs τ n i
    unfold consL_w0Z
    split
    · exact cSy_valid hP _ _ _
    · rw [← eA]; exact cWh0_valid hP hvs hl 0 [] rs τ n i
    · rw [← eS]; exact cWh1_valid hP hvs hl 0 [] rs τ n i
    · rw [← eT]; exact cWh2_valid hP hvs hl 0 [] rs τ n i
    · exact c_nDtz0_valid hP hS0 (pylA ha) (hb_of (bits_tdiv ha)) _ _
    · exact c_nRem0_valid hP hS0 (pylA ha) (big8 hS (bits_tdiv ha)) (hb_of (bits_tmod ha)) _ _
    · exact c_nDiv0_valid hP hS0 (pylB ha) (hb_of (intBits_fdiv_le ha)) _ _
    · exact c_nMod0_valid hP hS0 (hb_of (bits_fm hS0 hS)) _ _
    · exact c_fDtz0_valid hP hS0 (pylA hna) (hb_of (bits_tdiv hna)) _ _
    · exact c_fDiv0_valid hP hS0 (pylB hag) (hb_of (intBits_fdiv_le hag)) _ _
    · exact c_fMod0_valid hP hS0 (hb_of (bits_fm hS0 hS)) _ _
    · exact c_nGcd0_valid hP (hb_of (bits_gc ha hS)) _ _
    · exact c_gMod0_valid hP hc0 (hb_of (bits_fm hc0 hc)) _ _
    · exact c_gMod0_valid hP hc0 (hb_of (bits_fm hc0 hc)) _ _
    · exact c_gGcd0_valid hP (hb_of (bits_gc hS hm)) _ _
    · exact c_gGcd0_valid hP (hb_of (bits_gc hS ha)) _ _
    · exact c_gGcd0_valid hP (hb_of (bits_gc ha6 hS6)) _ _
    · exact c_gGcd0_valid hP (hb_of (bits_gc ha h0)) _ _
    · exact nocon_valid
  · exact ⟨rfl, selfs_all _, ⟨rfl, selfs_all _, fun _ _ => ⟨rfl, selfs_all _, fun _ _ => ⟨rfl, selfs_all _, fun _ _ => ⟨hs63, ⟨(by decide), ⟨hw1, ⟨hw2, ⟨hS0, ⟨rfl, selfs_all _, fun _ _ => ⟨rfl, selfs_all _, fun _ _ => ⟨rfl, selfs_all _, fun _ _ => ⟨rfl, selfs_all _, fun _ _ => ⟨(big8 (bits_tdiv ha) hS), ⟨(k1 A S), ⟨(big8 (intBits_fdiv_le ha) hS), ⟨(k2 A S), fun _ _ => fun _ _ => ⟨(k3 A hS0), ⟨hr, fun _ _ => fun _ _ => ⟨(k5 A hS0), ⟨(k6' hr), ⟨(k8 A hS0), ⟨(k9 A hS0), ⟨rfl, selfs_all _, fun _ _ => ⟨(k10 A S), ⟨(big8 hS hT), ⟨rfl, selfs_all _, fun _ _ => ⟨(k11 A T hS0), ⟨rfl, selfs_all _, fun _ _ => ⟨(k12 A S T), ⟨rfl, selfs_all _, fun _ _ _ => ⟨(k13 A hS0), ⟨rfl, selfs_all _, fun _ _ _ => ⟨(k14 A S), ⟨rfl, selfs_all _, fun _ _ _ => ⟨(k15 A S), ⟨rfl, selfs_all _, fun _ _ _ => ⟨(k16 A S), ⟨rfl, selfs_all _, fun _ _ _ => ⟨(k17 A S), ⟨(big8 ha h6), ⟨(big8 hS hm6), ⟨rfl, selfs_all _, fun _ _ _ => ⟨(big8 hc h6), ⟨(k18 A S), ⟨rfl, selfs_all _, fun _ _ _ => fun _ _ => ⟨(k19 A), rfl⟩⟩⟩⟩⟩⟩⟩⟩⟩⟩⟩⟩⟩⟩⟩⟩⟩⟩⟩⟩⟩⟩⟩⟩⟩⟩⟩⟩⟩⟩⟩⟩⟩⟩⟩⟩⟩⟩⟩⟩⟩⟩⟩⟩⟩⟩⟩
theorem law_w1Z {w : World} {P0 : Params} {b1 b2 : Bool} (hP : fol P0 b1 b2 = w.params) {vs : List Value} (hvs : ∀ v ∈ vs, ∃ x t, v = .int x t) (hl : vs.length < 2 ^ 63) {A S T : Int} (eA : wholeV vs 0 = A) (eS : wholeV vs 1 = S) (eT : wholeV vs 2 = T)
    {s : Shared} (L : LawAt (fol P0 b1 b2) vs s) {p p1 : Pos} {ag : Args} {R : Result → Shared → Prop} (HR : LawEnd s R) (hw1 : (((⟨vs⟩ : Array Value).size : Nat) : Int).fmod 3 = 1) (hS0 : ¬ S = 0) (hr : ¬ ((S * T) - S * (dtzV (S * T) S)) ≠ 0) : wpCode (model pw w) (lawC ag p1) R p s := by
  have hA2 : Builtin.Int.intBits A ≤ 200 := eA ▸ whole_bits vs 0 (by omega)
  have hS2 : Builtin.Int.intBits S ≤ 200 := eS ▸ whole_bits vs 1 (by omega)
  have hT2 : Builtin.Int.intBits T ≤ 200 := eT ▸ whole_bits vs 2 (by omega)
  have ha4 : Builtin.Int.intBits (S * T) ≤ 401 := Nat.le_trans (intBits_mul_le hS2 hT2) (by omega)
  have hS : Builtin.Int.intBits S ≤ 800 := Nat.le_trans hS2 (by omega)
  have hT : Builtin.Int.intBits T ≤ 800 := Nat.le_trans hT2 (by omega)
  have ha : Builtin.Int.intBits (S * T) ≤ 800 := Nat.le_trans ha4 (by omega)
  have hna : Builtin.Int.intBits (-(S * T)) ≤ 800 := intBits_neg_le ha
  have hag : Builtin.Int.intBits ((S * T) + S * T) ≤ 800 := Nat.le_trans (intBits_add_le ha4 (intBits_mul_le hS2 hT2)) (by decide)
  have hm : Builtin.Int.intBits ((S * T).fmod S) ≤ 800 := bits_fm hS0 hS
  have hc : Builtin.Int.intBits (gcV (S * T) S) ≤ 800 := bits_gc ha hS
  have hc0 : gcV (S * T) S ≠ 0 := gc_ne (S * T) hS0
  have h6 : Builtin.Int.intBits 6 ≤ 800 := by decide
  have hm6 : Builtin.Int.intBits (-6) ≤ 800 := by decide
  have h0 : Builtin.Int.intBits 0 ≤ 800 := by decide
  have ha6 : Builtin.Int.intBits ((S * T) * 6) ≤ 800 := Nat.le_trans (intBits_mul_le ha4 (n := 3) (by decide)) (by decide)
  have hS6 : Builtin.Int.intBits (S * -6) ≤ 800 := Nat.le_trans (intBits_mul_le hS2 (n := 3) (by decide)) (by decide)
  have hs63 : (((⟨vs⟩ : Array Value).size : Nat) : Int) < 2 ^ 63 := by
    show ((vs.length : Nat) : Int) < 2 ^ 63
    omega
  refine law_run hP L HR (hi := 810) (by omega) (cons := consL_w1Z P0 b1 b2 vs A S T) ?_ (f := 564) (hs := ⟨h_law_w1Z, [(s.toks - 690, fun _ => 0)]⟩) (cast (run_law_w1Z).symm ?_)
  · intro k ts rs τ n i
    unfold consL_w1Z
    split
    · exact cSy_valid hP _ _ _
    · rw [← eA]; exact cWh0_valid hP hvs hl 0 [] rs τ n i
    · rw [← eS]; exact cWh1_valid hP hvs hl 0 [] rs τ n i
    · rw [← eT]; exact cWh2_valid hP hvs hl 0 [] rs τ n i
    · exact c_nDtz0_valid hP hS0 (pylA ha) (hb_of (bits_tdiv ha)) _ _
    · exact c_nRem0_valid hP hS0 (pylA ha) (big8 hS (bits_tdiv ha)) (hb_of (bits_tmod ha)) _ _
    · exact c_nDiv0_valid hP hS0 (pylB ha) (hb_of (intBits_fdiv_le ha)) _ _
    · exact c_nMod0_valid hP hS0 (hb_of (bits_fm hS0 hS)) _ _
    · exact c_fDtz0_valid hP hS0 (pylA hna) (hb_of (bits_tdiv hna)) _ _
    · exact c_fDiv0_valid hP hS0 (pylB hag) (hb_of (intBits_fdiv_le hag)) _ _
    · exact c_fMod0_valid hP hS0 (hb_of (bits_fm hS0 hS)) _ _
    · exact c_nGcd0_valid hP (hb_of (bits_gc ha hS)) _ _
    · exact c_gMod0_valid hP hc0 (hb_of (bits_fm hc0 hc)) _ _
    · exact c_gMod0_valid hP hc0 (hb_of (bits_fm hc0 hc)) _ _
    · exact c_gGcd0_valid hP (hb_of (bits_gc hS hm)) _ _
    · exact c_gGcd0_valid hP (hb_of (bits_gc hS ha)) _ _
    · exact c_gGcd0_valid hP (hb_of (bits_gc ha6 hS6)) _ _
    · exact c_gGcd0_valid hP (hb_of (bits_gc ha h0)) _ _
    · exact nocon_valid
  · exact ⟨rfl, selfs_all _, ⟨rfl, selfs_all _, fun _ _ => ⟨rfl, selfs_all _, fun _ _ => ⟨rfl, selfs_all _, fun _ _ => ⟨hs63, ⟨(by decide), ⟨hw1, ⟨(big8 hS hT), ⟨hS0, ⟨rfl, selfs_all _, fun _ _ => ⟨rfl, selfs_all _, fun _ _ => ⟨rfl, selfs_all _, fun _ _ => ⟨rfl, selfs_all _, fun _ _ => ⟨(big8 (bits_tdiv ha) hS), ⟨(k1 (S * T) S), ⟨(big8 (intBits_fdiv_le ha) hS), ⟨(k2 (S * T) S), fun _ _ => fun _ _ => ⟨(k3 (S * T) hS0), ⟨hr, fun _ _ => fun _ _ => ⟨(k5 (S * T) hS0), ⟨(k6' hr), ⟨(k8 (S * T) hS0), ⟨(k9 (S * T) hS0), ⟨rfl, selfs_all _, fun _ _ => ⟨(k10 (S * T) S), ⟨(big8 hS hT), ⟨rfl, selfs_all _, fun _ _ => ⟨(k11 (S * T) T hS0), ⟨rfl, selfs_all _, fun _ _ => ⟨(k12 (S * T) S T), ⟨rfl, selfs_all _, fun _ _ _ => ⟨(k13 (S * T) hS0), ⟨rfl, selfs_all _, fun _ _ _ => ⟨(k14 (S * T) S), ⟨rfl, selfs_all _, fun _ _ _ => ⟨(k15 (S * T) S), ⟨rfl, selfs_all _, fun _ _ _ => ⟨(k16 (S * T) S), ⟨rfl, selfs_all _, fun _ _ _ => ⟨(k17 (S * T) S), ⟨(big8 ha h6), ⟨(big8 hS hm6), ⟨rfl, selfs_all _, fun _ _ _ => ⟨(big8 hc h6), ⟨(k18 (S * T) S), ⟨rfl, selfs_all _, fun _ _ _ => fun _ _ => ⟨(k19 (S * T)), rfl⟩⟩⟩⟩⟩⟩⟩⟩⟩⟩⟩⟩⟩⟩⟩⟩⟩⟩⟩⟩⟩⟩⟩⟩⟩⟩⟩⟩⟩⟩⟩⟩⟩⟩⟩⟩⟩⟩⟩⟩⟩⟩⟩⟩⟩⟩⟩
theorem law_w2N {w : World} {P0 : Params} {b1 b2 : Bool} (hP : fol P0 b1 b2 = w.params) {vs : List Value} (hvs : ∀ v ∈ vs, ∃ x t, v = .int x t) (hl : vs.length < 2 ^ 63) {A S T : Int} (eA : wholeV vs 0 = A) (eS : wholeV vs 1 = S) (eT : wholeV vs 2 = T)
    {s : Shared} (L : LawAt (fol P0 b1 b2) vs s) {p p1 : Pos} {ag : Args} {R : Result → Shared → Prop} (HR : LawEnd s R) (hw1 : ¬ (((⟨vs⟩ : Array Value).size : Nat) : Int).fmod 3 = 1) (hw2 : (((⟨vs⟩ : Array Value).size : Nat) : Int).fmod 3 = 2) (hS0 : ¬ S = 0) (hr : ((S * T + sd T) - S * (dtzV (S * T + sd T) S)) ≠ 0) : wpCode (model pw w) (lawC ag p1) R p s := by
  have hA2 : Builtin.Int.intBits A ≤ 200 := eA ▸ whole_bits vs 0 (by omega)
  have hS2 : Builtin.Int.intBits S ≤ 200 := eS ▸ whole_bits vs 1 (by omega)
  have hT2 : Builtin.Int.intBits T ≤ 200 := eT ▸ whole_bits vs 2 (by omega)
  have ha4 : Builtin.Int.intBits (S * T + sd T) ≤ 401 := Nat.le_trans (intBits_add_le (intBits_mul_le hS2 hT2) (sd_bits T)) (by decide)
  have hS : Builtin.Int.intBits S ≤ 800 := Nat.le_trans hS2 (by omega)
  have hT : Builtin.Int.intBits T ≤ 800 := Nat.le_trans hT2 (by omega)
  have ha : Builtin.Int.intBits (S * T + sd T) ≤ 800 := Nat.le_trans ha4 (by omega)
  have hna : Builtin.Int.intBits (-(S * T + sd T)) ≤ 800 := intBits_neg_le ha
  have hag : Builtin.Int.intBits ((S * T + sd T) + S * T) ≤ 800 := Nat.le_trans (intBits_add_le ha4 (intBits_mul_le hS2 hT2)) (by decide)
  have hm : Builtin.Int.intBits ((S * T + sd T).fmod S) ≤ 800 := bits_fm hS0 hS
  have hc : Builtin.Int.intBits (gcV (S * T + sd T) S) ≤ 800 := bits_gc ha hS
  have hc0 : gcV (S * T + sd T) S ≠ 0 := gc_ne (S * T + sd T) hS0
  have h6 : Builtin.Int.intBits 6 ≤ 800 := by decide
  have hm6 : Builtin.Int.intBits (-6) ≤ 800 := by decide
  have h0 : Builtin.Int.intBits 0 ≤ 800 := by decide
  have ha6 : Builtin.Int.intBits ((S * T + sd T) * 6) ≤ 800 := Nat.le_trans (intBits_mul_le ha4 (n := 3) (by decide)) (by decide)
  have hS6 : Builtin.Int.intBits (S * -6) ≤ 800 := Nat.le_trans (intBits_mul_le hS2 (n := 3) (by decide)) (by decide)
  have hs63 : (((⟨vs⟩ : Array Value).size : Nat) : Int) < 2 ^ 63 := by
    show ((vs.length : Nat) : Int) < 2 ^ 63
    omega
  refine law_run hP L HR (hi := 810) (by omega) (cons := consL_w2N P0 b1 b2 vs A S T) ?_ (f := 622) (hs := ⟨h_law_w2N, [(s.toks - 690, fun _ => 0)]⟩) (cast (run_law_w2N).symm ?_)
  · intro k ts rs τ n i
    unfold consL_w2N
    split
    · exact cSy_valid hP _ _ _
    · rw [← eA]; exact cWh0_valid hP hvs hl 0 [] rs τ n i
    · rw [← eS]; exact cWh1_valid hP hvs hl 0 [] rs τ n i
    · rw [← eT]; exact cWh2_valid hP hvs hl 0 [] rs τ n i
    · exact cSd_valid hP _ _ _
    · exact c_nDtz1_valid hP hS0 (pylA ha) (hb_of (bits_tdiv ha)) _ _
    · exact c_nRem1_valid hP hS0 (pylA ha) (big8 hS (bits_tdiv ha)) (hb_of (bits_tmod ha)) _ _
    · exact c_nDiv1_valid hP hS0 (pylB ha) (hb_of (intBits_fdiv_le ha)) _ _
    · exact c_nMod1_valid hP hS0 (hb_of (bits_fm hS0 hS)) _ _
    · exact cSd_valid hP _ _ _
    · exact cSd_valid hP _ _ _
    · exact cSd_valid hP _ _ _
    · exact cSd_valid hP _ _ _
    · exact c_fDtz5_valid hP hS0 (pylA hna) (hb_of (bits_tdiv hna)) _ _
    · exact c_fDiv1_valid hP hS0 (pylB hag) (hb_of (intBits_fdiv_le hag)) _ _
    · exact c_fMod1_valid hP hS0 (hb_of (bits_fm hS0 hS)) _ _
    · exact c_nGcd5_valid hP (hb_of (bits_gc ha hS)) _ _
    · exact c_gMod5_valid hP hc0 (hb_of (bits_fm hc0 hc)) _ _
    · exact c_gMod5_valid hP hc0 (hb_of (bits_fm hc0 hc)) _ _
    · exact c_gGcd5_valid hP (hb_of (bits_gc hS hm)) _ _
    · exact c_gGcd5_valid hP (hb_of (bits_gc hS ha)) _ _
    · exact c_gGcd5_valid hP (hb_of (bits_gc ha6 hS6)) _ _
    · exact c_gGcd5_valid hP (hb_of (bits_gc ha h0)) _ _
    · exact nocon_valid
  · exact ⟨rfl, selfs_all _, ⟨rfl, selfs_all _, fun _ _ => ⟨rfl, selfs_all _, fun _ _ => ⟨rfl, selfs_all _, fun _ _ => ⟨hs63, ⟨(by decide), ⟨hw1, ⟨hw2, ⟨(big8 hS hT), ⟨rfl, selfs_all _, fun _ _ => ⟨hS0, ⟨rfl, selfs_all _, fun _ _ => ⟨rfl, selfs_all _, fun _ _ => ⟨rfl, selfs_all _, fun _ _ => ⟨rfl, selfs_all _, fun _ _ => ⟨(big8 (bits_tdiv ha) hS), ⟨(k1 (S * T + sd T) S), ⟨(big8 (intBits_fdiv_le ha) hS), ⟨(k2 (S * T + sd T) S), fun _ _ => fun _ _ => ⟨(k3 (S * T + sd T) hS0), ⟨hr, ⟨rfl, selfs_all _, fun _ _ => ⟨rfl, selfs_all _, fun _ _ => ⟨(k4 hr), fun _ _ => fun _ _ => ⟨(k5 (S * T + sd T) hS0), ⟨(k6 hr), ⟨rfl, selfs_all _, fun _ _ => ⟨rfl, selfs_all _, fun _ _ => ⟨(k7 hS0 hr), ⟨(k8 (S * T + sd T) hS0), ⟨(k9 (S * T + sd T) hS0), ⟨rfl, selfs_all _, fun _ _ => ⟨(k10 (S * T + sd T) S), ⟨(big8 hS hT), ⟨rfl, selfs_all _, fun _ _ => ⟨(k11 (S * T + sd T) T hS0), ⟨rfl, selfs_all _, fun _ _ => ⟨(k12 (S * T + sd T) S T), ⟨rfl, selfs_all _, fun _ _ _ => ⟨(k13 (S * T + sd T) hS0), ⟨rfl, selfs_all _, fun _ _ _ => ⟨(k14 (S * T + sd T) S), ⟨rfl, selfs_all _, fun _ _ _ => ⟨(k15 (S * T + sd T) S), ⟨rfl, selfs_all _, fun _ _ _ => ⟨(k16 (S * T + sd T) S), ⟨rfl, selfs_all _, fun _ _ _ => ⟨(k17 (S * T + sd T) S), ⟨(big8 ha h6), ⟨(big8 hS hm6), ⟨rfl, selfs_all _, fun _ _ _ => ⟨(big8 hc h6), ⟨(k18 (S * T + sd T) S), ⟨rfl, selfs_all _, fun _ _ _ => fun _ _ => ⟨(k19 (S * T + sd T)), rfl⟩⟩⟩⟩⟩⟩⟩⟩⟩⟩⟩⟩⟩⟩⟩⟩⟩⟩⟩⟩⟩⟩⟩⟩⟩⟩⟩⟩⟩⟩⟩⟩⟩⟩⟩⟩⟩⟩⟩⟩⟩⟩⟩⟩⟩⟩⟩⟩⟩⟩⟩⟩⟩⟩⟩
theorem law_w2Z {w : World} {P0 : Params} {b1 b2 : Bool} (hP : fol P0 b1 b2 = w.params) {vs : List Value} (hvs : ∀ v ∈ vs, ∃ x t, v = .int x t) (hl : vs.length < 2 ^ 63) {A S T : Int} (eA : wholeV vs 0 = A) (eS : wholeV vs 1 = S) (eT : wholeV vs 2 = T)
    {s : Shared} (L : LawAt (fol P0 b1 b2) vs s) {p p1 : Pos} {ag : Args} {R : Result → Shared → Prop} (HR : LawEnd s R) (hw1 : ¬ (((⟨vs⟩ : Array Value).size : Nat) : Int).fmod 3 = 1) (hw2 : (((⟨vs⟩ : Array Value).size : Nat) : Int).fmod 3 = 2) (hS0 : ¬ S = 0) (hr : ¬ ((S * T + sd T) - S * (dtzV (S * T + sd T) S)) ≠ 0) : wpCode (model pw w) (lawC ag p1) R p s := by
  have hA2 : Builtin.Int.intBits A ≤ 200 := eA ▸ whole_bits vs 0 (by omega)
  have hS2 : Builtin.Int.intBits S ≤ 200 := eS ▸ whole_bits vs 1 (by omega)
  have hT2 : Builtin.Int.intBits T ≤ 200 := eT ▸ whole_bits vs 2 (by omega)
  have ha4 : Builtin.Int.intBits (S * T + sd T) ≤ 401 := Nat.le_trans (intBits_add_le (intBits_mul_le hS2 hT2) (sd_bits T)) (by decide)
  have hS : Builtin.Int.intBits S ≤ 800 := Nat.le_trans hS2 (by omega)
  have hT : Builtin.Int.intBits T ≤ 800 := Nat.le_trans hT2 (by omega)
  have ha : Builtin.Int.intBits (S * T + sd T) ≤ 800 := Nat.le_trans ha4 (by omega)
  have hna : Builtin.Int.intBits (-(S * T + sd T)) ≤ 800 := intBits_neg_le ha
  have hag : Builtin.Int.intBits ((S * T + sd T) + S * T) ≤ 800 := Nat.le_trans (intBits_add_le ha4 (intBits_mul_le hS2 hT2)) (by decide)
  have hm : Builtin.Int.intBits ((S * T + sd T).fmod S) ≤ 800 := bits_fm hS0 hS
  have hc : Builtin.Int.intBits (gcV (S * T + sd T) S) ≤ 800 := bits_gc ha hS
  have hc0 : gcV (S * T + sd T) S ≠ 0 := gc_ne (S * T + sd T) hS0
  have h6 : Builtin.Int.intBits 6 ≤ 800 := by decide
  have hm6 : Builtin.Int.intBits (-6) ≤ 800 := by decide
  have h0 : Builtin.Int.intBits 0 ≤ 800 := by decide
  have ha6 : Builtin.Int.intBits ((S * T + sd T) * 6) ≤ 800 := Nat.le_trans (intBits_mul_le ha4 (n := 3) (by decide)) (by decide)
  have hS6 : Builtin.Int.intBits (S * -6) ≤ 800 := Nat.le_trans (intBits_mul_le hS2 (n := 3) (by decide)) (by decide)
  have hs63 : (((⟨vs⟩ : Array Value).size : Nat) : Int) < 2 ^ 63 := by
    show ((vs.length : Nat) : Int) < 2 ^ 63
    omega
  refine law_run hP L HR (hi := 810) (by omega) (cons := consL_w2Z P0 b1 b2 vs A S T) ?_ (f := 584) (hs := ⟨h_law_w2Z, [(s.toks - 690, fun _ => 0)]⟩) (cast (run_law_w2Z).symm ?_)
  · intro k ts rs τ n i
    unfold consL_w2Z
    split
    · exact cSy_valid hP _ _ _
    · rw [← eA]; exact cWh0_valid hP hvs hl 0 [] rs τ n i
    · rw [← eS]; exact cWh1_valid hP hvs hl 0 [] rs τ n i
    · rw [← eT]; exact cWh2_valid hP hvs hl 0 [] rs τ n i
    · exact cSd_valid hP _ _ _
    · exact c_nDtz1_valid hP hS0 (pylA ha) (hb_of (bits_tdiv ha)) _ _
    · exact c_nRem1_valid hP hS0 (pylA ha) (big8 hS (bits_tdiv ha)) (hb_of (bits_tmod ha)) _ _
    · exact c_nDiv1_valid hP hS0 (pylB ha) (hb_of (intBits_fdiv_le ha)) _ _
    · exact c_nMod1_valid hP hS0 (hb_of (bits_fm hS0 hS)) _ _
    · exact c_fDtz1_valid hP hS0 (pylA hna) (hb_of (bits_tdiv hna)) _ _
    · exact c_fDiv1_valid hP hS0 (pylB hag) (hb_of (intBits_fdiv_le hag)) _ _
    · exact c_fMod1_valid hP hS0 (hb_of (bits_fm hS0 hS)) _ _
    · exact c_nGcd1_valid hP (hb_of (bits_gc ha hS)) _ _
    · exact c_gMod1_valid hP hc0 (hb_of (bits_fm hc0 hc)) _ _
    · exact c_gMod1_valid hP hc0 (hb_of (bits_fm hc0 hc)) _ _
    · exact c_gGcd1_valid hP (hb_of (bits_gc hS hm)) _ _
    · exact c_gGcd1_valid hP (hb_of (bits_gc hS ha)) _ _
    · exact c_gGcd1_valid hP (hb_of (bits_gc ha6 hS6)) _ _
    · exact c_gGcd1_valid hP (hb_of (bits_gc ha h0)) _ _
    · exact nocon_valid
  · exact ⟨rfl, selfs_all _, ⟨rfl, selfs_all _, fun _ _ => ⟨rfl, selfs_all _, fun _ _ => ⟨rfl, selfs_all _, fun _ _ => ⟨hs63, ⟨(by decide), ⟨hw1, ⟨hw2, ⟨(big8 hS hT), ⟨rfl, selfs_all _, fun _ _ => ⟨hS0, ⟨rfl, selfs_all _, fun _ _ => ⟨rfl, selfs_all _, fun _ _ => ⟨rfl, selfs_all _, fun _ _ => ⟨rfl, selfs_all _, fun _ _ => ⟨(big8 (bits_tdiv ha) hS), ⟨(k1 (S * T + sd T) S), ⟨(big8 (intBits_fdiv_le ha) hS), ⟨(k2 (S * T + sd T) S), fun _ _ => fun _ _ => ⟨(k3 (S * T + sd T) hS0), ⟨hr, fun _ _ => fun _ _ => ⟨(k5 (S * T + sd T) hS0), ⟨(k6' hr), ⟨(k8 (S * T + sd T) hS0), ⟨(k9 (S * T + sd T) hS0), ⟨rfl, selfs_all _, fun _ _ => ⟨(k10 (S * T + sd T) S), ⟨(big8 hS hT), ⟨rfl, selfs_all _, fun _ _ => ⟨(k11 (S * T + sd T) T hS0), ⟨rfl, selfs_all _, fun _ _ => ⟨(k12 (S * T + sd T) S T), ⟨rfl, selfs_all _, fun _ _ _ => ⟨(k13 (S * T + sd T) hS0), ⟨rfl, selfs_all _, fun _ _ _ => ⟨(k14 (S * T + sd T) S), ⟨rfl, selfs_all _, fun _ _ _ => ⟨(k15 (S * T + sd T) S), ⟨rfl, selfs_all _, fun _ _ _ => ⟨(k16 (S * T + sd T) S), ⟨rfl, selfs_all _, fun _ _ _ => ⟨(k17 (S * T + sd T) S), ⟨(big8 ha h6), ⟨(big8 hS hm6), ⟨rfl, selfs_all _, fun _ _ _ => ⟨(big8 hc h6), ⟨(k18 (S * T + sd T) S), ⟨rfl, selfs_all _, fun _ _ _ => fun _ _ => ⟨(k19 (S * T + sd T)), rfl⟩⟩⟩⟩⟩⟩⟩⟩⟩⟩⟩⟩⟩⟩⟩⟩⟩⟩⟩⟩⟩⟩⟩⟩⟩⟩⟩⟩⟩⟩⟩⟩⟩⟩⟩⟩⟩⟩⟩⟩⟩⟩⟩⟩⟩⟩⟩⟩⟩
theorem law_z0t {w : World} {P0 : Params} {b1 : Bool} (hP : fol P0 b1 true = w.params) {vs : List Value} (hvs : ∀ v ∈ vs, ∃ x t, v = .int x t) (hl : vs.length < 2 ^ 63) {A S T : Int} (eA : wholeV vs 0 = A) (eS : wholeV vs 1 = S) (eT : wholeV vs 2 = T)
    {s : Shared} (L : LawAt (fol P0 b1 true) vs s) {p p1 : Pos} {ag : Args} {R : Result → Shared → Prop} (HR : LawEnd s R) (hw1 : ¬ (((⟨vs⟩ : Array Value).size : Nat) : Int).fmod 3 = 1) (hw2 : ¬ (((⟨vs⟩ : Array Value).size : Nat) : Int).fmod 3 = 2) (hS0 : S = 0) : wpCode (model pw w) (lawC ag p1) R p s := by
  have hS : Builtin.Int.intBits S ≤ 800 := Nat.le_trans (eS ▸ whole_bits vs 1 (by omega)) (by omega : 200 ≤ 800)
  have hT : Builtin.Int.intBits T ≤ 800 := Nat.le_trans (eT ▸ whole_bits vs 2 (by omega)) (by omega : 200 ≤ 800)
  have hs63 : (((⟨vs⟩ : Array Value).size : Nat) : Int) < 2 ^ 63 := by
    show ((vs.length : Nat) : Int) < 2 ^ 63
    omega
  refine law_run hP L HR (hi := 1000) (by omega) (cons := consL_z0t P0 b1 true vs A S T) ?_ (f := 13306) (hs := ⟨h_law_z0t, [(s.toks - 690, fun _ => 0)]⟩) (cast (run_law_z0t).symm ?_)
  · intro k ts rs τ n i
    unfold consL_z0t
    split
    · exact cSy_valid hP _ _ _
    · rw [← eA]; exact cWh0_valid hP hvs hl 0 [] rs τ n i
    · rw [← eS]; exact cWh1_valid hP hvs hl 0 [] rs τ n i
    · rw [← eT]; exact cWh2_valid hP hvs hl 0 [] rs τ n i
    · exact nocon_valid
  · exact ⟨rfl, selfs_all _, ⟨rfl, selfs_all _, fun _ _ => ⟨rfl, selfs_all _, fun _ _ => ⟨rfl, selfs_all _, fun _ _ => ⟨hs63, ⟨(by decide), ⟨hw1, ⟨hw2, ⟨hS0, ⟨rfl, ⟨rfl, ⟨rfl, ⟨rfl, rfl⟩⟩⟩⟩⟩⟩⟩⟩⟩⟩⟩⟩⟩
theorem law_z0f {w : World} {P0 : Params} {b1 : Bool} (hP : fol P0 b1 false = w.params) {vs : List Value} (hvs : ∀ v ∈ vs, ∃ x t, v = .int x t) (hl : vs.length < 2 ^ 63) {A S T : Int} (eA : wholeV vs 0 = A) (eS : wholeV vs 1 = S) (eT : wholeV vs 2 = T)
    {s : Shared} (L : LawAt (fol P0 b1 false) vs s) {p p1 : Pos} {ag : Args} {R : Result → Shared → Prop} (HR : LawEnd s R) (hw1 : ¬ (((⟨vs⟩ : Array Value).size : Nat) : Int).fmod 3 = 1) (hw2 : ¬ (((⟨vs⟩ : Array Value).size : Nat) : Int).fmod 3 = 2) (hS0 : S = 0) : wpCode (model pw w) (lawC ag p1) R p s := by
  have hS : Builtin.Int.intBits S ≤ 800 := Nat.le_trans (eS ▸ whole_bits vs 1 (by omega)) (by omega : 200 ≤ 800)
  have hT : Builtin.Int.intBits T ≤ 800 := Nat.le_trans (eT ▸ whole_bits vs 2 (by omega)) (by omega : 200 ≤ 800)
  have hs63 : (((⟨vs⟩ : Array Value).size : Nat) : Int) < 2 ^ 63 := by
    show ((vs.length : Nat) : Int) < 2 ^ 63
    omega
  refine law_run hP L HR (hi := 1000) (by omega) (cons := consL_z0f P0 b1 false vs A S T) ?_ (f := 13316) (hs := ⟨h_law_z0f, [(s.toks - 690, fun _ => 0)]⟩) (cast (run_law_z0f).symm ?_)
  · intro k ts rs τ n i
    unfold consL_z0f
    split
    · exact cSy_valid hP _ _ _
    · rw [← eA]; exact cWh0_valid hP hvs hl 0 [] rs τ n i
    · rw [← eS]; exact cWh1_valid hP hvs hl 0 [] rs τ n i
    · rw [← eT]; exact cWh2_valid hP hvs hl 0 [] rs τ n i
    · exact nocon_valid
  · exact ⟨rfl, selfs_all _, ⟨rfl, selfs_all _, fun _ _ => ⟨rfl, selfs_all _, fun _ _ => ⟨rfl, selfs_all _, fun _ _ => ⟨hs63, ⟨(by decide), ⟨hw1, ⟨hw2, ⟨hS0, ⟨rfl, ⟨rfl, ⟨rfl, ⟨rfl, rfl⟩⟩⟩⟩⟩⟩⟩⟩⟩⟩⟩⟩⟩
theorem law_z1t {w : World} {P0 : Params} {b1 : Bool} (hP : fol P0 b1 true = w.params) {vs : List Value} (hvs : ∀ v ∈ vs, ∃ x t, v = .int x t) (hl : vs.length < 2 ^ 63) {A S T : Int} (eA : wholeV vs 0 = A) (eS : wholeV vs 1 = S) (eT : wholeV vs 2 = T)
    {s : Shared} (L : LawAt (fol P0 b1 true) vs s) {p p1 : Pos} {ag : Args} {R : Result → Shared → Prop} (HR : LawEnd s R) (hw1 : (((⟨vs⟩ : Array Value).size : Nat) : Int).fmod 3 = 1) (hS0 : S = 0) : wpCode (model pw w) (lawC ag p1) R p s := by
  have hS : Builtin.Int.intBits S ≤ 800 := Nat.le_trans (eS ▸ whole_bits vs 1 (by omega)) (by omega : 200 ≤ 800)
  have hT : Builtin.Int.intBits T ≤ 800 := Nat.le_trans (eT ▸ whole_bits vs 2 (by omega)) (by omega : 200 ≤ 800)
  have hs63 : (((⟨vs⟩ : Array Value).size : Nat) : Int) < 2 ^ 63 := by
    show ((vs.length : Nat) : Int) < 2 ^ 63
    omega
  refine law_run hP L HR (hi := 1000) (by omega) (cons := consL_z1t P0 b1 true vs A S T) ?_ (f := 13311) (hs := ⟨h_law_z1t, [(s.toks - 690, fun _ => 0)]⟩) (cast (run_law_z1t).symm ?_)
  · intro k ts rs τ n i
    unfold consL_z1t
    split
    · exact cSy_valid hP _ _ _
    · rw [← eA]; exact cWh0_valid hP hvs hl 0 [] rs τ n i
    · rw [← eS]; exact cWh1_valid hP hvs hl 0 [] rs τ n i
    · rw [← eT]; exact cWh2_valid hP hvs hl 0 [] rs τ n i
    · exact nocon_valid
  · exact ⟨rfl, selfs_all _, ⟨rfl, selfs_all _, fun _ _ => ⟨rfl, selfs_all _, fun _ _ => ⟨rfl, selfs_all _, fun _ _ => ⟨hs63, ⟨(by decide), ⟨hw1, ⟨(big8 hS hT), ⟨hS0, ⟨rfl, ⟨rfl, ⟨rfl, ⟨rfl, rfl⟩⟩⟩⟩⟩⟩⟩⟩⟩⟩⟩⟩⟩
theorem law_z1f {w : World} {P0 : Params} {b1 : Bool} (hP : fol P0 b1 false = w.params) {vs : List Value} (hvs : ∀ v ∈ vs, ∃ x t, v = .int x t) (hl : vs.length < 2 ^ 63) {A S T : Int} (eA : wholeV vs 0 = A) (eS : wholeV vs 1 = S) (eT : wholeV vs 2 = T)
    {s : Shared} (L : LawAt (fol P0 b1 false) vs s) {p p1 : Pos} {ag : Args} {R : Result → Shared → Prop} (HR : LawEnd s R) (hw1 : (((⟨vs⟩ : Array Value).size : Nat) : Int).fmod 3 = 1) (hS0 : S = 0) : wpCode (model pw w) (lawC ag p1) R p s := by
  have hS : Builtin.Int.intBits S ≤ 800 := Nat.le_trans (eS ▸ whole_bits vs 1 (by omega)) (by omega : 200 ≤ 800)
  have hT : Builtin.Int.intBits T ≤ 800 := Nat.le_trans (eT ▸ whole_bits vs 2 (by omega)) (by omega : 200 ≤ 800)
  have hs63 : (((⟨vs⟩ : Array Value).size : Nat) : Int) < 2 ^ 63 := by
    show ((vs.length : Nat) : Int) < 2 ^ 63
    omega
  refine law_run hP L HR (hi := 1000) (by omega) (cons := consL_z1f P0 b1 false vs A S T) ?_ (f := 13321) (hs := ⟨h_law_z1f, [(s.toks - 690, fun _ => 0)]⟩) (cast (run_law_z1f).symm ?_)
  · intro k ts rs τ n i
    unfold consL_z1f
    split
    · exact cSy_valid hP _ _ _
    · rw [← eA]; exact cWh0_valid hP hvs hl 0 [] rs τ n i
    · rw [← eS]; exact cWh1_valid hP hvs hl 0 [] rs τ n i
    · rw [← eT]; exact cWh2_valid hP hvs hl 0 [] rs τ n i
    · exact nocon_valid
  · exact ⟨rfl, selfs_all _, ⟨rfl, selfs_all _, fun _ _ => ⟨rfl, selfs_all _, fun _ _ => ⟨rfl, selfs_all _, fun _ _ => ⟨hs63, ⟨(by decide), ⟨hw1, ⟨(big8 hS hT), ⟨hS0, ⟨rfl, ⟨rfl, ⟨rfl, ⟨rfl, rfl⟩⟩⟩⟩⟩⟩⟩⟩⟩⟩⟩⟩⟩
theorem law_z2t {w : World} {P0 : Params} {b1 : Bool} (hP : fol P0 b1 true = w.params) {vs : List Value} (hvs : ∀ v ∈ vs, ∃ x t, v = .int x t) (hl : vs.length < 2 ^ 63) {A S T : Int} (eA : wholeV vs 0 = A) (eS : wholeV vs 1 = S) (eT : wholeV vs 2 = T)
    {s : Shared} (L : LawAt (fol P0 b1 true) vs s) {p p1 : Pos} {ag : Args} {R : Result → Shared → Prop} (HR : LawEnd s R) (hw1 : ¬ (((⟨vs⟩ : Array Value).size : Nat) : Int).fmod 3 = 1) (hw2 : (((⟨vs⟩ : Array Value).size : Nat) : Int).fmod 3 = 2) (hS0 : S = 0) : wpCode (model pw w) (lawC ag p1) R p s := by
  have hS : Builtin.Int.intBits S ≤ 800 := Nat.le_trans (eS ▸ whole_bits vs 1 (by omega)) (by omega : 200 ≤ 800)
  have hT : Builtin.Int.intBits T ≤ 800 := Nat.le_trans (eT ▸ whole_bits vs 2 (by omega)) (by omega : 200 ≤ 800)
  have hs63 : (((⟨vs⟩ : Array Value).size : Nat) : Int) < 2 ^ 63 := by
    show ((vs.length : Nat) : Int) < 2 ^ 63
    omega
  refine law_run hP L HR (hi := 1000) (by omega) (cons := consL_z2t P0 b1 true vs A S T) ?_ (f := 13331) (hs := ⟨h_law_z2t, [(s.toks - 690, fun _ => 0)]⟩) (cast (run_law_z2t).symm ?_)
  · intro k ts rs τ n i
    unfold consL_z2t
    split
    · exact cSy_valid hP _ _ _
    · rw [← eA]; exact cWh0_valid hP hvs hl 0 [] rs τ n i
    · rw [← eS]; exact cWh1_valid hP hvs hl 0 [] rs τ n i
    · rw [← eT]; exact cWh2_valid hP hvs hl 0 [] rs τ n i
    · exact cSd_valid hP _ _ _
    · exact nocon_valid
  · exact ⟨rfl, selfs_all _, ⟨rfl, selfs_all _, fun _ _ => ⟨rfl, selfs_all _, fun _ _ => ⟨rfl, selfs_all _, fun _ _ => ⟨hs63, ⟨(by decide), ⟨hw1, ⟨hw2, ⟨(big8 hS hT), ⟨rfl, selfs_all _, fun _ _ => ⟨hS0, ⟨rfl, ⟨rfl, ⟨rfl, ⟨rfl, rfl⟩⟩⟩⟩⟩⟩⟩⟩⟩⟩⟩⟩⟩⟩⟩
theorem law_z2f {w : World} {P0 : Params} {b1 : Bool} (hP : fol P0 b1 false = w.params) {vs : List Value} (hvs : ∀ v ∈ vs, ∃ x t, v = .int x t) (hl : vs.length < 2 ^ 63) {A S T : Int} (eA : wholeV vs 0 = A) (eS : wholeV vs 1 = S) (eT : wholeV vs 2 = T)
    {s : Shared} (L : LawAt (fol P0 b1 false) vs s) {p p1 : Pos} {ag : Args} {R : Result → Shared → Prop} (HR : LawEnd s R) (hw1 : ¬ (((⟨vs⟩ : Array Value).size : Nat) : Int).fmod 3 = 1) (hw2 : (((⟨vs⟩ : Array Value).size : Nat) : Int).fmod 3 = 2) (hS0 : S = 0) : wpCode (model pw w) (lawC ag p1) R p s := by
  have hS : Builtin.Int.intBits S ≤ 800 := Nat.le_trans (eS ▸ whole_bits vs 1 (by omega)) (by omega : 200 ≤ 800)
  have hT : Builtin.Int.intBits T ≤ 800 := Nat.le_trans (eT ▸ whole_bits vs 2 (by omega)) (by omega : 200 ≤ 800)
  have hs63 : (((⟨vs⟩ : Array Value).size : Nat) : Int) < 2 ^ 63 := by
    show ((vs.length : Nat) : Int) < 2 ^ 63
    omega
  refine law_run hP L HR (hi := 1000) (by omega) (cons := consL_z2f P0 b1 false vs A S T) ?_ (f := 13341) (hs := ⟨h_law_z2f, [(s.toks - 690, fun _ => 0)]⟩) (cast (run_law_z2f).symm ?_)
  · intro k ts rs τ n i
    unfold consL_z2f
    split
    · exact cSy_valid hP _ _ _
    · rw [← eA]; exact cWh0_valid hP hvs hl 0 [] rs τ n i
    · rw [← eS]; exact cWh1_valid hP hvs hl 0 [] rs τ n i
    · rw [← eT]; exact cWh2_valid hP hvs hl 0 [] rs τ n i
    · exact cSd_valid hP _ _ _
    · exact nocon_valid
  · exact ⟨rfl, selfs_all _, ⟨rfl, selfs_all _, fun _ _ => ⟨rfl, selfs_all _, fun _ _ => ⟨rfl, selfs_all _, fun _ _ => ⟨hs63, ⟨(by decide), ⟨hw1, ⟨hw2, ⟨(big8 hS hT), ⟨rfl, selfs_all _, fun _ _ => ⟨hS0, ⟨rfl, ⟨rfl, ⟨rfl, ⟨rfl, rfl⟩⟩⟩⟩⟩⟩⟩⟩⟩⟩⟩⟩⟩⟩⟩
theorem law_all {w : World} {P0 : Params} {b1 b2 : Bool} (hP : fol P0 b1 b2 = w.params) {vs : List Value} (hvs : ∀ v ∈ vs, ∃ x t, v = .int x t) (hl : vs.length < 2 ^ 63)
    {s : Shared} (L : LawAt (fol P0 b1 b2) vs s) {p p1 : Pos} {ag : Args} {R : Result → Shared → Prop} (HR : LawEnd s R) : wpCode (model pw w) (lawC ag p1) R p s := by
  by_cases hS0 : wholeV vs 1 = 0
  · by_cases hw1 : (((⟨vs⟩ : Array Value).size : Nat) : Int).fmod 3 = 1
    · cases b2
      · exact law_z1f hP hvs hl rfl rfl rfl L HR hw1 hS0
      · exact law_z1t hP hvs hl rfl rfl rfl L HR hw1 hS0
    · by_cases hw2 : (((⟨vs⟩ : Array Value).size : Nat) : Int).fmod 3 = 2
      · cases b2
        · exact law_z2f hP hvs hl rfl rfl rfl L HR hw1 hw2 hS0
        · exact law_z2t hP hvs hl rfl rfl rfl L HR hw1 hw2 hS0
      · cases b2
        · exact law_z0f hP hvs hl rfl rfl rfl L HR hw1 hw2 hS0
        · exact law_z0t hP hvs hl rfl rfl rfl L HR hw1 hw2 hS0
  · by_cases hw1 : (((⟨vs⟩ : Array Value).size : Nat) : Int).fmod 3 = 1
    · exact law_w1Z hP hvs hl rfl rfl rfl L HR hw1 hS0 (fun h => h (by rw [rest_eq]; exact Int.mul_tmod_right _ _))
    · by_cases hw2 : (((⟨vs⟩ : Array Value).size : Nat) : Int).fmod 3 = 2
      · by_cases hr : ((wholeV vs 1 * wholeV vs 2 + sd (wholeV vs 2)) - wholeV vs 1 * (dtzV (wholeV vs 1 * wholeV vs 2 + sd (wholeV vs 2)) (wholeV vs 1))) ≠ 0
        · exact law_w2N hP hvs hl rfl rfl rfl L HR hw1 hw2 hS0 hr
        · exact law_w2Z hP hvs hl rfl rfl rfl L HR hw1 hw2 hS0 hr
      · by_cases hr : (wholeV vs 0 - wholeV vs 1 * (dtzV (wholeV vs 0) (wholeV vs 1))) ≠ 0
        · exact law_w0N hP hvs hl rfl rfl rfl L HR hw1 hw2 hS0 hr
        · exact law_w0Z hP hvs hl rfl rfl rfl L HR hw1 hw2 hS0 hr
end Mine
end
section
open PySem PySem.Spec PySem.Calls PyProof.Rows PySem.W PySem.W.X
namespace Mine
theorem reads_ints {h : Heap} : ∀ {ns : List Int} {vs : List Value} {as : List Addr}, ReadsAll h vs (ns.map PyData.int) as → (∀ v ∈ vs, ∃ x t, v = .int x t) ∧ vs.length = ns.length
  | [], _, _, H => by cases H; exact ⟨fun v hv => (nomatch hv), rfl⟩
  | n :: ns, _, _, H => by
    cases H with
    | cons h1 h2 =>
      obtain ⟨a, b⟩ := reads_ints h2
      refine ⟨fun v hv => ?_, congrArg (· + 1) b⟩
      rcases List.mem_cons.mp hv with rfl | hv
      · cases h1; exact ⟨_, _, rfl⟩
      · exact a v hv
noncomputable abbrev Γc (f : Value) (vs : List Value) (p : Pos) : PySem.Ctx := ⟨.call f ⟨vs, []⟩, none, none, [(.builtin "claim.caller" {}, p)], none⟩
theorem call_wp {M : Model} {f : Value} {vs : List Value} {Q E : Value → Pos → Shared → Prop} {p : Pos} {s : Shared}
    (H : ∀ R : Result → Shared → Prop, (∀ v s', Q v p s' → R (.ok (.ret v)) s') → wpCode M (Γc f vs p) R p s) : Sem.wp M Mine.g0 (PySem.call f vs) Q E p s := by
  show Sem.wp M Mine.g0 (Sem.call _ _ _ _ _) Q E p s
  rw [Sem.wp_call]
  exact H _ fun v s' h => h
theorem law_good {c : ClaimW} {cl : Str → Option Addr} {mean : ExcName → Option Value} {args : List WData} {s₁ s' : Shared} (hr : ∀ cls, c.raises args cls = false) (hp : c.post args (.bool true) args = true)
    (hk : ∀ b o, s₁.heap.get? b = some o → s'.heap.get? b = some o) (hg : s'.gens = #[]) (ho : s'.os = s₁.os) : GoodWG c cl mean args s₁ (.ok (.ret (.bool true))) s' :=
  GoodW.toG ⟨.inl ⟨_, _, [], rfl, hr, ReadsW.bool true, hp, fun _ => ⟨List.nodup_nil, fun _ hm => (nomatch hm)⟩⟩, hk, ho, hg⟩
theorem zh_gen {h h' : Heap} {K : Frag} {t : KT} (e : KT.of K = t) (k : ∀ b o, h.get? b = some o → h'.get? b = some o) (A : AllIn h K) : KT.Holds h' 1 0 t := by
  subst e
  exact KT.Holds.keeps k (holds_of A)
theorem as0_eq : ∀ P, as0 = (K0 P).map (·.1) := fun _ => rfl
theorem kt_of (P : Params) : KT.of (K0 P) = kt0 P := by kernel_rfl
set_option maxHeartbeats 0 in
theorem walkQ : Mine.Walk0 qv [] (XL qv []) (obsZ as0) (valZ K0 369 690) PySem.Challenge.rw_ok0018_01.row.toRowW (dfQ) [] := by
  intro w s₀ s₁ mg mb G y fa o pm cd doc dV kV ho hd hcd hD hmg hg args vals as L hpre hlay hrd hwl hlo p
  have F := z_facts (K := K0) (as := as0) as0_eq y
  have ZN := F.2.2.1
  have ZT := F.2.2.2
  have KX : (K0 w.params).In s₁.heap := InK.keeps w s₀.heap s₁.heap F.2.1 L.keeps
  have ZH := zh_gen (kt_of w.params) L.keeps F.1
  refine Ground.open G ?_
  intro T B D TE TW
  wrow_args hpre hlay hrd hwl hlo
  obtain ⟨hat, hsz⟩ := script_at L
  have htk := script_toks L ZT
  rw [ZN] at hat hsz
  subst hat
  x_fa T KX hmg
  all_lens
  have key : ∃ vs : List Value, s₁.heap.IsList 369 vs.toArray ∧ ∃ (ns : List Int) (as : List Addr), ReadsAll s₁.heap vs (ns.map PyData.int) as ∧ ns.length ≤ 63 := by
    apply Exists.intro
    apply And.intro
    assumption
    apply Exists.intro
    apply Exists.intro
    apply And.intro
    assumption
    omega
  obtain ⟨vs, hL, ns, as, ra, hlen⟩ := key
  have hobj := script_obj L hL
  have hra := reads_ints ra
  have h63 := hra.2
  refine call_wp fun R HR => ?_
  rw [Γc, id_caller_eq]
  refine law_all (P0 := w.params) (fol_self _) hra.1 (by omega) ⟨fun a o _ e => kt_at ZH (by rw [fol_self] at e; exact e), (by rw [oList, ← ty_list_eq]; exact hobj), hsz, htk, hg⟩ fun s' hk hg' ho' => HR _ _ (law_good (fun _ => rfl) (by first | wrow_post | kernel_rfl) hk hg' ho')
set_option maxHeartbeats 0 in
theorem top : PySem.Challenge.rw_ok0018_01.Holds := by
  w_on; o_law
  refine Mine.PySem.W.holds_openX (q := qv) (loose := []) (Xt := XtQ) (XP := XL qv []) (Yf := obsZ as0) (Ya := valZ K0 369 690) (N := 4386) (d := dfQ) (kwd := []) leftQ (fun s e => xl_of s (Bool.and_eq_true_iff.mp e).1) XL.keeps (by kernel_rfl) (by kernel_rfl) (by kernel_rfl) (fun s e => recFacts_of (Bool.and_eq_true_iff.mp e).2) (by rfl) (by first | assumption | decide +kernel) (by decide +kernel) ⟨rfl, rfl, rfl, rfl, rfl, by decide +kernel⟩ ?hw walkQ
  case hw => w_witness2
end Mine
end
theorem PySem.Challenge.cw_ok0018_01_holds : PySem.Challenge.rw_ok0018_01.Holds :=
  Mine.top
