import PyProof.Rows.All
import Wide.All
import OpenK.AllK
import Wide.FinOn
import PySem.Challenge.RW_nn0216_01
set_option Elab.async false
set_option compiler.extract_closed false
section
namespace Mine
open PySem PySem.W PySem.Calls PyProof.Rows
open Sem (wp)

/-- the codes that a look at the whole stack may find beside a bytearray -/
noncomputable def bIds : List String := Builtin.Bytes.decodersThatHold ++ ["bytearray.__contains__", "bytearray.__mod__", "bytearray.__rmod__", "_struct.pack_into.held", "bytearray.find.held"]
noncomputable def quietB : Code → Bool
  | .builtin id _ => !bIds.contains id
  | _ => true
noncomputable def BelowB (Γ : Ctx) : Prop := ∀ x ∈ Γ.below, quietB x.1 = true
noncomputable def wpR {α : Type} (M : Model) (A : Around) (t : Sem α) (Q : α → Shared → Prop) (E : Value → Shared → Prop) (s : Shared) : Prop :=
  ∀ Γ p, Γ.In A → quietB Γ.code = true → BelowB Γ → wp M Γ t (fun a _ s' => Q a s') (fun e _ s' => E e s') p s
noncomputable def codeR (M : Model) (A : Around) (c : Code) (R : Result → Shared → Prop) (s : Shared) : Prop :=
  ∀ Γ p, Γ.code = c → Γ.Below A → BelowB Γ → wpCode M Γ R p s

section
variable {α β : Type} {M : Model} {A : Around} {E : Value → Shared → Prop} {s : Shared}
theorem wpR_of {t : Sem α} {Q : α → Shared → Prop} (h : wpAny M A t Q E s) : wpR M A t Q E s := fun Γ p hΓ _ _ => h Γ p hΓ
theorem codeR_of {c : Code} {R : Result → Shared → Prop} (h : codeAny M A c R s) : codeR M A c R s := fun Γ p hc hΓ _ => h Γ p hc hΓ
theorem wpR_pure {a : α} {Q : α → Shared → Prop} (h : Q a s) : wpR M A (pure a) Q E s := fun _ _ _ _ _ => h
theorem wpR_mono {t : Sem α} {Q Q' : α → Shared → Prop} {E' : Value → Shared → Prop} (h : wpR M A t Q E s) (hQ : ∀ a s, Q a s → Q' a s) (hE : ∀ e s, E e s → E' e s) : wpR M A t Q' E' s :=
  fun Γ p hΓ h1 h2 => Sem.wp_mono M Γ t (fun a _ s => hQ a s) (fun e _ s => hE e s) p s (h Γ p hΓ h1 h2)
theorem wpR_bind {m : Sem α} {f : α → Sem β} {Q : β → Shared → Prop} (h : wpR M A m (fun a s' => wpR M A (f a) Q E s') E s) : wpR M A (m >>= f) Q E s := fun Γ p hΓ h1 h2 => by
  rw [Sem.wp_bind']
  exact Sem.wp_mono M Γ m (fun a p' s' h' => h' Γ p' hΓ h1 h2) (fun _ _ _ h' => h') p s (h Γ p hΓ h1 h2)
/-- a step that is the same in all contexts, and what follows -/
theorem wpR_then {m : Sem α} {f : α → Sem β} {Q : β → Shared → Prop} (h : wpAny M A m (fun a s' => wpR M A (f a) Q E s') E s) : wpR M A (m >>= f) Q E s := wpR_bind (wpR_of h)
theorem wpR_onRaise {m : Sem α} {k : Value → Sem Unit} {Q : α → Shared → Prop} (h : wpR M A m Q (fun e s' => wpAny M A (k e) (fun _ s'' => E e s'') E s') s) : wpR M A (m.onRaise k) Q E s := fun Γ p hΓ h1 h2 => by
  rw [Sem.wp_onRaise]
  exact Sem.wp_mono M Γ m (fun _ _ _ h' => h') (fun e p' s' h' => h' Γ p' hΓ) p s (h Γ p hΓ h1 h2)
theorem wpR_attempt {m : Sem α} {Q : Except Value α → Shared → Prop} (h : wpR M A m (fun a => Q (.ok a)) (fun e => Q (.error e)) s) : wpR M A m.attempt Q E s := fun Γ p hΓ h1 h2 => by rw [Sem.wp_attempt]; exact h Γ p hΓ h1 h2
theorem wpR_holding {vs : List Value} {m : Sem α} {Q : α → Shared → Prop} (h : wpR M A m Q E s) : wpR M A (holding vs m) Q E s := fun Γ p hΓ h1 h2 => by rw [Sem.wp_holding]; exact h Γ p hΓ h1 h2
theorem wpR_keep {vs : List Value} {m : Sem α} {Q : α → Shared → Prop} (h : wpR M A m Q E s) : wpR M A (m.keep vs) Q E s := fun Γ p hΓ h1 h2 => by rw [Sem.wp_keep]; exact h Γ p hΓ h1 h2
theorem BelowB.enter {Γ : Ctx} {c : Code} {h : Option Value} {p : Pos} (h1 : quietB Γ.code = true) (h2 : BelowB Γ) : BelowB (Γ.enter c h p) := fun x hx => by
  rcases List.mem_cons.mp hx with rfl | hx
  · exact h1
  · exact h2 x hx
theorem codeR_mono {c : Code} {R R' : Result → Shared → Prop} (h : codeR M A c R s) (hR : ∀ r s, R r s → R' r s) : codeR M A c R' s :=
  fun Γ p hc hΓ hb => wpCode_mono hR (h Γ p hc hΓ hb)
theorem wpR_run {c : Code} {h : Option Value} {Q : Flow → Shared → Prop} (hc : codeR M (A.mark h) c (fun r s' => match r with | .ok f => Q f s' | .error e => E e s') s) (hnb : h ≠ some byPass := by intro x; cases x) :
    wpR M A (run c h) Q E s := fun Γ p hΓ h1 h2 => by rw [Sem.wp_run]; exact hc _ p rfl (hΓ.enter c h p hnb) (BelowB.enter h1 h2)
theorem wpR_runValue {c : Code} {Q : Value → Shared → Prop} (hc : codeR M A c (fun r s' => match r with | .ok (.ret v) => Q v s' | .ok _ => False | .error e => E e s') s) : wpR M A (runValue c) Q E s :=
  fun Γ p hΓ h1 h2 => by rw [Sem.wp_runValue]; exact hc _ p rfl (hΓ.enter c none p (by intro x; cases x)) (BelowB.enter h1 h2)
theorem wpR_call {f : Value} {pos : List Value} {kw : List (Str × Value)} {Q : Value → Shared → Prop} (hc : codeR M A (.call f ⟨pos, kw⟩) (fun r s' => match r with | .ok (.ret v) => Q v s' | .ok _ => False | .error e => E e s') s) :
    wpR M A (call f pos kw) Q E s := wpR_runValue hc
theorem codeR_of_tree {c : Code} {R : Result → Shared → Prop} (hq : quietB c = true)
    (h : wpR M (A.under c) (M.den c) (fun fin s' => match fin with | .done f => R (.ok f) s' | .again c' => c'.quiet = true ∧ codeR M A c' R s') (fun e s' => R (.error e) s') s) : codeR M A c R s := fun Γ p hc hΓ hb => by
  rw [wpCode_iff_wp, hc]
  refine Sem.wp_mono M Γ _ (fun fin p' s' h' => ?_) (fun _ _ _ h' => h') p s (h Γ p (hc ▸ hΓ.in) (hc ▸ hq) hb)
  cases fin with
  | done f => exact h'
  | again c' => exact ⟨h'.1, h'.2 (Γ.goto c') p' rfl (hΓ.goto c') hb⟩
theorem codeR_loop {c : Code} {R : Result → Shared → Prop} (hb : quietB c = true) (hq : c.quiet = true) (I : Nat → Shared → Prop)
    (turn : ∀ n s, I n s → wpR M (A.under c) (M.den c)
      (fun fin s' => match fin with
        | .done f => R (.ok f) s'
        | .again c' => (c' = c ∧ ∃ m, m < n ∧ I m s') ∨ (c'.quiet = true ∧ codeR M A c' R s')) (fun e s' => R (.error e) s') s)
    (n : Nat) (h : I n s) : codeR M A c R s := by
  induction n using Nat.strongRecOn generalizing s with
  | ind n ih =>
    refine codeR_of_tree hb (wpR_mono (turn n s h) (fun fin s' hf => ?_) fun _ _ h' => h')
    cases fin with
    | done f => exact hf
    | again c' =>
      rcases hf with ⟨rfl, m, hm, hI⟩ | hf
      · exact ⟨hq, ih m hm hI⟩
      · exact hf
end

section
/-- the run of a claim's caller, from what holds in contexts without those codes -/
theorem thread_endsR {prog : Program} {w : World} {t : Sem Fin} {s : Shared} {R : Result → Shared → Prop} (hreg : s.asleep)
    (h : wpR (model prog w) callerA t (fun fin s' => ∃ f, fin = .done f ∧ (R (.ok f) s' ∧ leftWithCleanup s'.gens = false)) (fun e s' => R (.error e) s' ∧ leftWithCleanup s'.gens = false) s) :
    ∃ n r s' s'', runN (denote table) prog w n s ⟨t, .builtin "claim.caller" {}, default, []⟩ = .halted (outcomeOf r) s' ∧
      schedN (denote table) prog w n (.single s ⟨t, .builtin "claim.caller" {}, default, []⟩) = .halted (outcomeOf r) s' ∧ s'.forget = s''.forget ∧ R r s'' := by
  have h1 : wp (model prog w) ⟨.builtin "claim.caller" {}, none, none, [], none⟩ t (Sem.finPost (model prog w) ⟨.builtin "claim.caller" {}, none, none, [], none⟩ fun r s' => R r s' ∧ leftWithCleanup s'.gens = false)
      (fun e _ s' => R (.error e) s' ∧ leftWithCleanup s'.gens = false) default s := by
    refine Sem.wp_mono _ _ t (fun fin p' s' h' => ?_) (fun _ _ _ h' => h') default s (h _ default caller_in (by decide +kernel) fun x hx => nomatch hx)
    obtain ⟨f, rfl, hf⟩ := h'
    exact hf
  obtain ⟨n, r, s₁, s₂, hs, hn, hfo, hR⟩ := wp_halts_full (M := model prog w) (R := R) hreg h1
  exact ⟨n, r, s₂, s₁, hn, hs, hfo, hR⟩

theorem callFromR {c : ClaimW} {tree : List Value → Sem Fin} {w : World} {s : Shared} {free : Addr → Prop} {gens : Prop} {kept : Heap → Prop} (hz : s.asleep) (hgens : s.gens = #[])
    (hspec : ∀ args, c.pre args = true → WData.layableAll args = true →
      ∀ ord : List DictEntry → List DictEntry, (∀ l, (ord l).Perm l) →
      ∃ vs s₁, layAllW c.records (classAt s.heap) w.params ord args s = some (vs, s₁) ∧
        wpR (model c.prog w) callerA (tree vs) (fun fin s' => ∃ f, fin = .done f ∧ (c.Ends s args vs s₁ (.ok f) s' ∧ s'.os = s.os ∧ AllBare s'.gens ∧ kept s'.heap))
          (fun e s' => c.Ends s args vs s₁ (.error e) s' ∧ s'.os = s.os ∧ AllBare s'.gens ∧ kept s'.heap) s₁) :
    c.CallFrom (fun vs => ⟨tree vs, .builtin "claim.caller" {}, default, []⟩) w free gens kept s := by
  intro args hpre hlay ord hord
  obtain ⟨vs, s₁, hlaid, hcode⟩ := hspec args hpre hlay ord hord
  have hal := layAllW_rest _ _ _ hlaid
  obtain ⟨k, r, s', s'', hrun, hsched, hfo, hcase, hos, hkp⟩ := thread_endsR (prog := c.prog) (w := w) (t := tree vs) (s := s₁)
    (R := fun r s' => c.Ends s args vs s₁ r s' ∧ s'.os = s.os ∧ kept s'.heap) (Shared.asleep_of_life hal.2.2.2 hz)
    (wpR_mono hcode (by
      rintro fin s' ⟨f, e, h1, h2, h3, h4⟩
      exact ⟨f, e, ⟨h1, h2, h4⟩, leftWithCleanup_false_of_bare h3⟩) (by
      rintro e s' ⟨h1, h2, h3, h4⟩
      exact ⟨⟨h1, h2, h4⟩, leftWithCleanup_false_of_bare h3⟩))
  obtain ⟨eh, _, _, eo, _⟩ := Shared.forget_eq hfo
  have hcase := hcase.congr eh
  have hkp : kept s'.heap := by first | exact eh ▸ hkp | (rw [eh] at hkp; exact hkp) | (rw [← eh] at hkp; exact hkp)
  rw [← eo] at hos
  have hlife : s'.heap.life = s.heap.life := (runN_life _ _ _ hrun).trans hal.2.2.2
  refine ⟨vs, s₁, hlaid, k, _, s', hsched, ?_, (fun _ i x hx => by rw [hgens] at hx; simp at hx), hkp, by rw [hlife], Shared.rest_eq hos⟩
  rcases hcase with ⟨v, rfl, d1, d2, d3, d4, d5⟩ | ⟨e, ob, cls, rfl, d1, d2, d3, d4, d5⟩
  · exact .inl ⟨v, rfl, d1, d2, d3, fun b o y _ => d4 b o y, d5⟩
  · exact .inr ⟨e, ob, cls, rfl, d1, d2, d3, d4, fun b o y _ => d5 b o y⟩

theorem openR {r : RowW} {q : Program} {loose defs kps : List Str} {writes : Bool} {Xt : Shared → Bool} {XP : (Str → Option Value) → Heap → Prop} {α : Type} {Yf : Shared → α} {Ya : World → α} {YP : World → Heap → Prop} {N : Nat}
    (left : LeftO r.prog q loose Xt Yf Ya N) (hY : ∀ w s, Yf s = Ya w → YP w s.heap) (hYk : ∀ w h h', YP w h → (∀ b o, h.get? b = some o → h'.get? b = some o) → YP w h') (hX : ∀ s, Xt s = true → XP (s.heap.nsMap mainGlobals) s.heap) (hXk : ∀ mg h h', XP mg h → (∀ b o, h.get? b = some o → h'.get? b = some o) → XP mg h')
    (hRf : ∀ s, Xt s = true → RecFacts r.records s.heap) (hwr : (!writes || r.records.isEmpty) = true) (ok : (chainsOk q && opensWell r.prog && (frees r && r.within.isEmpty)) = true) (hb : r.prog.bare) (hw : r.promised)
    (pin : ∀ w s, s.heap.isNs mainGlobals = true → Ground q loose [] XP w s (s.heap.nsMap mainGlobals) (s.heap.nsMap builtinsNs) s.heap → ∀ n ∈ defs, isTheDefsW r.prog s.heap n)
    (call : ∀ (w : World) (s₀ s₁ : Shared) (mg mb : Str → Option Value), Ground q loose r.records XP w s₀ mg mb s₁.heap → YP w s₁.heap → ∀ (args : List WData) (vs : List Value) (as : List Addr),
      r.claim.pre args = true → WData.layableAll args = true → Laid r.records w s₀ s₁ args vs as → sysModules < s₀.heap.objs.size → ∃ a, mg r.name = some (.ref a) ∧
        codeR (model r.prog w) callerA (.call (.ref a) ⟨vs, []⟩) (fun x s' => ∃ v, x = .ok (.ret v) ∧ GoodWG r.claim (classAt s₀.heap) (ExcName.means s₀.heap) args s₁ (.ok (.ret v)) s') s₁) :
    r.claim.HoldsOpenBy (fun vs => ⟨(do match ← nsGet mainNs r.name with
      | some f => do ret (← PySem.call f vs)
      | none => unsupported "claim.caller:no-such-global"), .builtin "claim.caller" {}, default, []⟩) defs kps writes := by
  obtain ⟨ok, k5⟩ := Bool.and_eq_true_iff.mp ok
  obtain ⟨hch, o1⟩ := Bool.and_eq_true_iff.mp ok
  obtain ⟨k5, k6⟩ := Bool.and_eq_true_iff.mp k5
  obtain ⟨hsame, hu, ha, hap, hm⟩ := frees_parts k5
  refine ⟨⟨hb, o1, by show r.makers.map _ = []; rw [hm]; rfl⟩, hw.witness, fun w => ⟨(left.behind hX hch w).1, fun s' hs' => ?_⟩⟩
  obtain ⟨s₀, hf, hg0, s, hT, hz, hgens, hg, G00, y⟩ := (left.behind (XP := fun mg h => XP mg h ∧ RecFacts r.records h) (fun s hs => ⟨hX s hs, hRf s hs⟩) hch w).2 s' hs'
  have G0 : Ground q loose [] XP w s (s.heap.nsMap mainGlobals) (s.heap.nsMap builtinsNs) s.heap := ⟨G00.T, G00.B, G00.D, G00.TE, G00.TD, G00.W, G00.X.1, G00.cls, G00.has, G00.apart, G00.once, G00.K⟩
  have RF := G00.X.2
  have hT' := hT
  refine ⟨s₀, hf, hg0, s, hT, pin w s hg G0, RF.1, RF.2.1, ?_⟩
  have hgens : s.gens = #[] := Array.eq_empty_of_size_eq_zero (beq_iff_eq.mp hgens)
  have G : Ground q loose r.records XP w s _ _ s.heap := RF.ground G0
  refine callFromR (c := r.claim) hz hgens fun args hpre hlay ord hord => ?_
  obtain ⟨⟨vs, s₁⟩, hlaid⟩ := Option.isSome_iff_exists.mp (layAllW_isSome (P := w.params) (ord := ord) G.has args r.args s (pre_splitW hpre).1)
  have keeps := layAllW_keeps _ _ _ hlaid
  have hal := layAllW_rest _ _ _ hlaid
  obtain ⟨as, hrd, hin, hold⟩ := reads_layAllW hord _ _ _ hlaid hlay s₁.heap (fun _ _ e => e)
  have L : Laid r.records w s s₁ args vs as := ⟨⟨ord, hord, hlaid⟩, hrd, hin, hold, keeps, hal.1.trans hgens, hal.2.2.1⟩
  have G₁ := G.keeps hXk keeps
  obtain ⟨a, hf, h⟩ := call w s s₁ _ _ G₁ (hYk _ _ _ (hY w s y) keeps) args vs as hpre hlay L G.low
  have hi := ident_freeW hu ha hap
  have hwi : r.claim.within = [] := List.isEmpty_iff.mp k6
  refine ⟨vs, s₁, hlaid, wpR_then (wpAny_nsGet G₁.T.g ?_)⟩
  rw [hf]
  refine wpR_bind (wpR_call (codeR_mono h ?_))
  rintro x s' ⟨v, rfl, g⟩
  have z := g.laid (c := r.claim) hsame hwi hi L
  exact wpR_pure ⟨_, rfl, z.1, z.2.1, z.2.2, fun q => ⟨namesKept_of hT' hg kps keeps g.2.1.old, noTable hwr q⟩⟩
end

/-- what the head leaves to be shown, for a law -/
noncomputable abbrev WalkT (q : Program) (loose : List Str) (XP : (Str → Option Value) → Heap → Prop) (YP : World → Heap → Prop) (r : RowW) (d : DefRec) (kwd : List (Str × Expr)) : Prop :=
  ∀ (w : World) (s₀ s₁ : Shared) (mg mb : Str → Option Value), Ground q loose r.records XP w s₀ mg mb s₁.heap → YP w s₁.heap → ∀ (a : Addr) (o : Obj) (pm cd doc dV kV : Value), s₁.heap.get? a = some o →
    o.data = .func { docDef d.name d.params d.body d.scope pm cd doc with defaults := dV, kwdefaults := kV } → s₁.heap.CodeRec cd d.name → Dflts mg s₁.heap d.params kwd dV kV → mg d.name = some (.ref a) → s₁.gens = #[] →
    ∀ (args : List WData) (vals : List Value) (as : List Addr), r.claim.pre args = true → WData.layableAll args = true → ReadsAllW r.records (classAt s₀.heap) s₁.heap vals args as → WellAll w.params s₁.heap vals args → (∀ a ∈ as, (a == sysModules) = false) →
      codeR (model r.prog w) callerA (.call (.ref a) ⟨vals, []⟩) (fun x s' => ∃ v, x = .ok (.ret v) ∧ GoodWG r.claim (classAt s₀.heap) (ExcName.means s₀.heap) args s₁ (.ok (.ret v)) s') s₁
end Mine

open PySem PySem.W PySem.Calls PyProof.Rows
namespace Mine.Top.PySem.W
/-- the head of my own, for the words of the library that lay the top: it asks for one context alone -/
theorem holds_open {r : OpenRow} {q : Program} {loose : List Str} {Xt : Shared → Bool} {XP : (Str → Option Value) → Heap → Prop} {α : Type} {Yf : Shared → α} {Ya : World → α} {YP : World → Heap → Prop} {d : DefRec} {kwd : List (Str × Expr)} {N : Nat}
    (left : LeftO r.prog q loose Xt Yf Ya N) (hY : ∀ w s, Yf s = Ya w → YP w s.heap) (hYk : ∀ w h h', YP w h → (∀ b o, h.get? b = some o → h'.get? b = some o) → YP w h')
    (hX : ∀ s, Xt s = true → XP (s.heap.nsMap mainGlobals) s.heap) (hXk : ∀ mg h h', XP mg h → (∀ b o, h.get? b = some o → h'.get? b = some o) → XP mg h')
    (hdef : defOf q r.name = some (d, kwd)) (hp : r.prog.theDef r.name = some (d.params, d.body, d.scope)) (hk : kwWritten? d.params.kwonlyargs d.params.kw_defaults = some kwd) (hRf : ∀ s, Xt s = true → RecFacts r.records s.heap) (hwr : (!r.writes || r.records.isEmpty) = true)
    (k1 : r.wellSaid = true) (ok : (chainsOk q && opensWell r.prog && (frees r.toRowW && r.within.isEmpty)) = true) (hb : r.prog.bare) (hw : r.toRowW.promised)
    (call : Mine.WalkT q loose XP YP r.toRowW d kwd) : r.Holds := by
  refine ⟨k1, hw, Mine.openR (r := r.toRowW) left hY hYk hX hXk hRf hwr ok hb hw (fun w s hg G n hn => ?_) fun w s₀ s₁ mg mb G Y args vs as hpre hlay L low => ?_⟩
  · obtain rfl : n = r.name := by split at hn <;> simp_all
    exact pinned_of_view hg G hdef hp hk
  · obtain ⟨a, o, pm, cd, doc, dV, kV, h1, h2, h3, h4, h5⟩ := G.fn hdef
    exact ⟨a, h1, call w s₀ s₁ mg mb G Y a o pm cd doc dV kV h2 h3 h4 h5 (defOf_name hdef ▸ h1) L.gens args vs as hpre hlay L.reads L.well (L.low low)⟩
end Mine.Top.PySem.W
end

section
namespace Mine
open PySem PySem.W PySem.Calls PyProof.Rows
set_option maxRecDepth 100000
/-- the given program's rows -/
noncomputable def B : List Stmt := PySem.Challenge.pw_nn0216_01.main.body
noncomputable def st (b : List Stmt) (i : Nat) : Stmt := b.getD i (.Pass default)
noncomputable def cls (s : Stmt) : List Stmt := match s with | .ClassDef _ _ _ b _ _ _ _ _ _ _ => b | _ => []
noncomputable def fnAt (s : Stmt) (mk : Arguments → List Stmt → Scope → Obj) : Obj := match s with | .FunctionDef _ a b _ _ _ s _ _ _ => mk a b s | _ => ⟨.none, none, .plain, #[]⟩
noncomputable def o29 : {o : Obj // fnAt (st (cls (st B 1)) 0) (fun a b s => Obj.mk (Value.type "function") Option.none (Data.func (FuncData.mk (Str.ofString "__init__") (Str.ofString "PaperError.__init__") a (FuncBody.stmts b) s 3 [] (Value.ref 22) Value.none Value.none (Value.str (Str.ofString "paperhold.errors") 187) Option.none (Value.ref 28) Value.none 0)) #[]) = o} := ⟨_, by conv => {lhs; whnf; zeta}⟩
noncomputable def o36 : {o : Obj // fnAt (st (cls (st B 1)) 1) (fun a b s => Obj.mk (Value.type "function") Option.none (Data.func (FuncData.mk (Str.ofString "told") (Str.ofString "PaperError.told") a (FuncBody.stmts b) s 3 [] Value.none Value.none Value.none (Value.str (Str.ofString "paperhold.errors") 187) Option.none (Value.ref 35) Value.none 0)) #[]) = o} := ⟨_, by conv => {lhs; whnf; zeta}⟩
noncomputable def o61 : {o : Obj // fnAt (st B 5) (fun a b s => Obj.mk (Value.type "function") Option.none (Data.func (FuncData.mk (Str.ofString "low_bits") (Str.ofString "low_bits") a (FuncBody.stmts b) s 3 [] Value.none Value.none Value.none (Value.str (Str.ofString "paperhold.bits") 245) Option.none (Value.ref 60) Value.none 0)) #[]) = o} := ⟨_, by conv => {lhs; whnf; zeta}⟩
noncomputable def o76 : {o : Obj // fnAt (st (cls (st B 6)) 0) (fun a b s => Obj.mk (Value.type "function") Option.none (Data.func (FuncData.mk (Str.ofString "__init__") (Str.ofString "BitsIn.__init__") a (FuncBody.stmts b) s 3 [] (Value.ref 69) Value.none Value.none (Value.str (Str.ofString "paperhold.bits") 245) Option.none (Value.ref 75) Value.none 0)) #[]) = o} := ⟨_, by conv => {lhs; whnf; zeta}⟩
noncomputable def o83 : {o : Obj // fnAt (st (cls (st B 6)) 1) (fun a b s => Obj.mk (Value.type "function") Option.none (Data.func (FuncData.mk (Str.ofString "left") (Str.ofString "BitsIn.left") a (FuncBody.stmts b) s 3 [] Value.none Value.none Value.none (Value.str (Str.ofString "paperhold.bits") 245) Option.none (Value.ref 82) Value.none 0)) #[]) = o} := ⟨_, by conv => {lhs; whnf; zeta}⟩
noncomputable def o90 : {o : Obj // fnAt (st (cls (st B 6)) 2) (fun a b s => Obj.mk (Value.type "function") Option.none (Data.func (FuncData.mk (Str.ofString "need") (Str.ofString "BitsIn.need") a (FuncBody.stmts b) s 3 [] Value.none Value.none Value.none (Value.str (Str.ofString "paperhold.bits") 245) Option.none (Value.ref 89) Value.none 0)) #[]) = o} := ⟨_, by conv => {lhs; whnf; zeta}⟩
noncomputable def o97 : {o : Obj // fnAt (st (cls (st B 6)) 3) (fun a b s => Obj.mk (Value.type "function") Option.none (Data.func (FuncData.mk (Str.ofString "take") (Str.ofString "BitsIn.take") a (FuncBody.stmts b) s 3 [] Value.none Value.none Value.none (Value.str (Str.ofString "paperhold.bits") 245) Option.none (Value.ref 96) Value.none 0)) #[]) = o} := ⟨_, by conv => {lhs; whnf; zeta}⟩
noncomputable def o104 : {o : Obj // fnAt (st (cls (st B 6)) 4) (fun a b s => Obj.mk (Value.type "function") Option.none (Data.func (FuncData.mk (Str.ofString "align") (Str.ofString "BitsIn.align") a (FuncBody.stmts b) s 3 [] Value.none Value.none Value.none (Value.str (Str.ofString "paperhold.bits") 245) Option.none (Value.ref 103) Value.none 0)) #[]) = o} := ⟨_, by conv => {lhs; whnf; zeta}⟩
noncomputable def o111 : {o : Obj // fnAt (st (cls (st B 6)) 5) (fun a b s => Obj.mk (Value.type "function") Option.none (Data.func (FuncData.mk (Str.ofString "octets") (Str.ofString "BitsIn.octets") a (FuncBody.stmts b) s 3 [] Value.none Value.none Value.none (Value.str (Str.ofString "paperhold.bits") 245) Option.none (Value.ref 110) Value.none 0)) #[]) = o} := ⟨_, by conv => {lhs; whnf; zeta}⟩
noncomputable def o125 : {o : Obj // fnAt (st B 8) (fun a b s => Obj.mk (Value.type "function") Option.none (Data.func (FuncData.mk (Str.ofString "greatest_length") (Str.ofString "greatest_length") a (FuncBody.stmts b) s 3 [] Value.none Value.none Value.none (Value.str (Str.ofString "paperhold.huffman") 330) Option.none (Value.ref 124) Value.none 0)) #[]) = o} := ⟨_, by conv => {lhs; whnf; zeta}⟩
noncomputable def o132 : {o : Obj // fnAt (st B 9) (fun a b s => Obj.mk (Value.type "function") Option.none (Data.func (FuncData.mk (Str.ofString "tally_of") (Str.ofString "tally_of") a (FuncBody.stmts b) s 3 [] Value.none Value.none Value.none (Value.str (Str.ofString "paperhold.huffman") 330) Option.none (Value.ref 131) Value.none 0)) #[]) = o} := ⟨_, by conv => {lhs; whnf; zeta}⟩
noncomputable def o139 : {o : Obj // fnAt (st B 10) (fun a b s => Obj.mk (Value.type "function") Option.none (Data.func (FuncData.mk (Str.ofString "room_left") (Str.ofString "room_left") a (FuncBody.stmts b) s 3 [] Value.none Value.none Value.none (Value.str (Str.ofString "paperhold.huffman") 330) Option.none (Value.ref 138) Value.none 0)) #[]) = o} := ⟨_, by conv => {lhs; whnf; zeta}⟩
noncomputable def o146 : {o : Obj // fnAt (st B 11) (fun a b s => Obj.mk (Value.type "function") Option.none (Data.func (FuncData.mk (Str.ofString "is_full") (Str.ofString "is_full") a (FuncBody.stmts b) s 3 [] Value.none Value.none Value.none (Value.str (Str.ofString "paperhold.huffman") 330) Option.none (Value.ref 145) Value.none 0)) #[]) = o} := ⟨_, by conv => {lhs; whnf; zeta}⟩
noncomputable def o153 : {o : Obj // fnAt (st B 12) (fun a b s => Obj.mk (Value.type "function") Option.none (Data.func (FuncData.mk (Str.ofString "is_over") (Str.ofString "is_over") a (FuncBody.stmts b) s 3 [] Value.none Value.none Value.none (Value.str (Str.ofString "paperhold.huffman") 330) Option.none (Value.ref 152) Value.none 0)) #[]) = o} := ⟨_, by conv => {lhs; whnf; zeta}⟩
noncomputable def o158 : {o : Obj // fnAt (st B 13) (fun a b s => Obj.mk (Value.type "function") Option.none (Data.func (FuncData.mk (Str.ofString "symbols_of") (Str.ofString "symbols_of") a (FuncBody.stmts b) s 3 [] Value.none Value.none Value.none (Value.str (Str.ofString "paperhold.huffman") 330) Option.none (Value.ref 157) Value.none 0)) #[]) = o} := ⟨_, by conv => {lhs; whnf; zeta}⟩
noncomputable def o172 : {o : Obj // fnAt (st (cls (st B 14)) 0) (fun a b s => Obj.mk (Value.type "function") Option.none (Data.func (FuncData.mk (Str.ofString "__init__") (Str.ofString "Decoder.__init__") a (FuncBody.stmts b) s 3 [] Value.none Value.none Value.none (Value.str (Str.ofString "paperhold.huffman") 330) Option.none (Value.ref 171) Value.none 0)) #[]) = o} := ⟨_, by conv => {lhs; whnf; zeta}⟩
noncomputable def o179 : {o : Obj // fnAt (st (cls (st B 14)) 1) (fun a b s => Obj.mk (Value.type "function") Option.none (Data.func (FuncData.mk (Str.ofString "read") (Str.ofString "Decoder.read") a (FuncBody.stmts b) s 3 [] Value.none Value.none Value.none (Value.str (Str.ofString "paperhold.huffman") 330) Option.none (Value.ref 178) Value.none 0)) #[]) = o} := ⟨_, by conv => {lhs; whnf; zeta}⟩
noncomputable def o193 : {o : Obj // fnAt (st B 17) (fun a b s => Obj.mk (Value.type "function") Option.none (Data.func (FuncData.mk (Str.ofString "length_rows") (Str.ofString "length_rows") a (FuncBody.stmts b) s 3 [] Value.none Value.none Value.none (Value.str (Str.ofString "paperhold.inflate") 419) Option.none (Value.ref 192) Value.none 0)) #[]) = o} := ⟨_, by conv => {lhs; whnf; zeta}⟩
noncomputable def o200 : {o : Obj // fnAt (st B 18) (fun a b s => Obj.mk (Value.type "function") Option.none (Data.func (FuncData.mk (Str.ofString "distance_rows") (Str.ofString "distance_rows") a (FuncBody.stmts b) s 3 [] Value.none Value.none Value.none (Value.str (Str.ofString "paperhold.inflate") 419) Option.none (Value.ref 199) Value.none 0)) #[]) = o} := ⟨_, by conv => {lhs; whnf; zeta}⟩
noncomputable def o207 : {o : Obj // fnAt (st B 19) (fun a b s => Obj.mk (Value.type "function") Option.none (Data.func (FuncData.mk (Str.ofString "length_order") (Str.ofString "length_order") a (FuncBody.stmts b) s 3 [] Value.none Value.none Value.none (Value.str (Str.ofString "paperhold.inflate") 419) Option.none (Value.ref 206) Value.none 0)) #[]) = o} := ⟨_, by conv => {lhs; whnf; zeta}⟩
noncomputable def o214 : {o : Obj // fnAt (st B 20) (fun a b s => Obj.mk (Value.type "function") Option.none (Data.func (FuncData.mk (Str.ofString "fixed_lengths") (Str.ofString "fixed_lengths") a (FuncBody.stmts b) s 3 [] Value.none Value.none Value.none (Value.str (Str.ofString "paperhold.inflate") 419) Option.none (Value.ref 213) Value.none 0)) #[]) = o} := ⟨_, by conv => {lhs; whnf; zeta}⟩
noncomputable def o221 : {o : Obj // fnAt (st B 21) (fun a b s => Obj.mk (Value.type "function") Option.none (Data.func (FuncData.mk (Str.ofString "repeated") (Str.ofString "repeated") a (FuncBody.stmts b) s 3 [] Value.none Value.none Value.none (Value.str (Str.ofString "paperhold.inflate") 419) Option.none (Value.ref 220) Value.none 0)) #[]) = o} := ⟨_, by conv => {lhs; whnf; zeta}⟩
noncomputable def o228 : {o : Obj // fnAt (st B 22) (fun a b s => Obj.mk (Value.type "function") Option.none (Data.func (FuncData.mk (Str.ofString "read_lengths") (Str.ofString "read_lengths") a (FuncBody.stmts b) s 3 [] Value.none Value.none Value.none (Value.str (Str.ofString "paperhold.inflate") 419) Option.none (Value.ref 227) Value.none 0)) #[]) = o} := ⟨_, by conv => {lhs; whnf; zeta}⟩
noncomputable def o235 : {o : Obj // fnAt (st B 23) (fun a b s => Obj.mk (Value.type "function") Option.none (Data.func (FuncData.mk (Str.ofString "is_usable") (Str.ofString "is_usable") a (FuncBody.stmts b) s 3 [] Value.none Value.none Value.none (Value.str (Str.ofString "paperhold.inflate") 419) Option.none (Value.ref 234) Value.none 0)) #[]) = o} := ⟨_, by conv => {lhs; whnf; zeta}⟩
noncomputable def o242 : {o : Obj // fnAt (st B 24) (fun a b s => Obj.mk (Value.type "function") Option.none (Data.func (FuncData.mk (Str.ofString "read_decoders") (Str.ofString "read_decoders") a (FuncBody.stmts b) s 3 [] Value.none Value.none Value.none (Value.str (Str.ofString "paperhold.inflate") 419) Option.none (Value.ref 241) Value.none 0)) #[]) = o} := ⟨_, by conv => {lhs; whnf; zeta}⟩
noncomputable def o249 : {o : Obj // fnAt (st B 25) (fun a b s => Obj.mk (Value.type "function") Option.none (Data.func (FuncData.mk (Str.ofString "read_part") (Str.ofString "read_part") a (FuncBody.stmts b) s 3 [] Value.none Value.none Value.none (Value.str (Str.ofString "paperhold.inflate") 419) Option.none (Value.ref 248) Value.none 0)) #[]) = o} := ⟨_, by conv => {lhs; whnf; zeta}⟩
noncomputable def o256 : {o : Obj // fnAt (st B 26) (fun a b s => Obj.mk (Value.type "function") Option.none (Data.func (FuncData.mk (Str.ofString "lay_part") (Str.ofString "lay_part") a (FuncBody.stmts b) s 3 [] Value.none Value.none Value.none (Value.str (Str.ofString "paperhold.inflate") 419) Option.none (Value.ref 255) Value.none 0)) #[]) = o} := ⟨_, by conv => {lhs; whnf; zeta}⟩
noncomputable def o263 : {o : Obj // fnAt (st B 27) (fun a b s => Obj.mk (Value.type "function") Option.none (Data.func (FuncData.mk (Str.ofString "read_stored") (Str.ofString "read_stored") a (FuncBody.stmts b) s 3 [] Value.none Value.none Value.none (Value.str (Str.ofString "paperhold.inflate") 419) Option.none (Value.ref 262) Value.none 0)) #[]) = o} := ⟨_, by conv => {lhs; whnf; zeta}⟩
noncomputable def o270 : {o : Obj // fnAt (st B 28) (fun a b s => Obj.mk (Value.type "function") Option.none (Data.func (FuncData.mk (Str.ofString "block_decoders") (Str.ofString "block_decoders") a (FuncBody.stmts b) s 3 [] Value.none Value.none Value.none (Value.str (Str.ofString "paperhold.inflate") 419) Option.none (Value.ref 269) Value.none 0)) #[]) = o} := ⟨_, by conv => {lhs; whnf; zeta}⟩
noncomputable def o277 : {o : Obj // fnAt (st B 29) (fun a b s => Obj.mk (Value.type "function") Option.none (Data.func (FuncData.mk (Str.ofString "inflate_into") (Str.ofString "inflate_into") a (FuncBody.stmts b) s 3 [] Value.none Value.none Value.none (Value.str (Str.ofString "paperhold.inflate") 419) Option.none (Value.ref 276) Value.none 0)) #[]) = o} := ⟨_, by conv => {lhs; whnf; zeta}⟩
noncomputable def o285 : {o : Obj // fnAt (st B 30) (fun a b s => Obj.mk (Value.type "function") Option.none (Data.func (FuncData.mk (Str.ofString "inflate") (Str.ofString "inflate") a (FuncBody.stmts b) s 3 [] (Value.ref 278) Value.none Value.none (Value.str (Str.ofString "paperhold.inflate") 419) Option.none (Value.ref 284) Value.none 0)) #[]) = o} := ⟨_, by conv => {lhs; whnf; zeta}⟩
noncomputable def o293 : {o : Obj // fnAt (st B 31) (fun a b s => Obj.mk (Value.type "function") Option.none (Data.func (FuncData.mk (Str.ofString "blocks_of") (Str.ofString "blocks_of") a (FuncBody.stmts b) s 3 [] (Value.ref 286) Value.none Value.none (Value.str (Str.ofString "paperhold.inflate") 419) Option.none (Value.ref 292) Value.none 0)) #[]) = o} := ⟨_, by conv => {lhs; whnf; zeta}⟩
noncomputable def o300 : {o : Obj // fnAt (st B 33) (fun a b s => Obj.mk (Value.type "function") Option.none (Data.func (FuncData.mk (Str.ofString "_law_draw") (Str.ofString "_law_draw") a (FuncBody.stmts b) s 3 [] Value.none Value.none Value.none (Value.str (Str.ofString "law_nn0216_01") 587) Option.none (Value.ref 299) Value.none 0)) #[]) = o} := ⟨_, by conv => {lhs; whnf; zeta}⟩
noncomputable def o305 : {o : Obj // fnAt (st B 34) (fun a b s => Obj.mk (Value.type "function") Option.none (Data.func (FuncData.mk (Str.ofString "_law_source") (Str.ofString "_law_source") a (FuncBody.stmts b) s 3 [] Value.none Value.none Value.none (Value.str (Str.ofString "law_nn0216_01") 587) Option.none (Value.ref 304) Value.none 0)) #[]) = o} := ⟨_, by conv => {lhs; whnf; zeta}⟩
noncomputable def o310 : {o : Obj // fnAt (st B 35) (fun a b s => Obj.mk (Value.type "function") Option.none (Data.func (FuncData.mk (Str.ofString "_law_low") (Str.ofString "_law_low") a (FuncBody.stmts b) s 3 [] Value.none Value.none Value.none (Value.str (Str.ofString "law_nn0216_01") 587) Option.none (Value.ref 309) Value.none 0)) #[]) = o} := ⟨_, by conv => {lhs; whnf; zeta}⟩
noncomputable def o315 : {o : Obj // fnAt (st B 36) (fun a b s => Obj.mk (Value.type "function") Option.none (Data.func (FuncData.mk (Str.ofString "_law_high") (Str.ofString "_law_high") a (FuncBody.stmts b) s 3 [] Value.none Value.none Value.none (Value.str (Str.ofString "law_nn0216_01") 587) Option.none (Value.ref 314) Value.none 0)) #[]) = o} := ⟨_, by conv => {lhs; whnf; zeta}⟩
noncomputable def o320 : {o : Obj // fnAt (st B 37) (fun a b s => Obj.mk (Value.type "function") Option.none (Data.func (FuncData.mk (Str.ofString "_law_row") (Str.ofString "_law_row") a (FuncBody.stmts b) s 3 [] Value.none Value.none Value.none (Value.str (Str.ofString "law_nn0216_01") 587) Option.none (Value.ref 319) Value.none 0)) #[]) = o} := ⟨_, by conv => {lhs; whnf; zeta}⟩
noncomputable def o327 : {o : Obj // fnAt (st B 38) (fun a b s => Obj.mk (Value.type "function") Option.none (Data.func (FuncData.mk (Str.ofString "_law_literal") (Str.ofString "_law_literal") a (FuncBody.stmts b) s 3 [] Value.none Value.none Value.none (Value.str (Str.ofString "law_nn0216_01") 587) Option.none (Value.ref 326) Value.none 0)) #[]) = o} := ⟨_, by conv => {lhs; whnf; zeta}⟩
noncomputable def o334 : {o : Obj // fnAt (st B 39) (fun a b s => Obj.mk (Value.type "function") Option.none (Data.func (FuncData.mk (Str.ofString "_law_rows_are_right") (Str.ofString "_law_rows_are_right") a (FuncBody.stmts b) s 3 [] Value.none Value.none Value.none (Value.str (Str.ofString "law_nn0216_01") 587) Option.none (Value.ref 333) Value.none 0)) #[]) = o} := ⟨_, by conv => {lhs; whnf; zeta}⟩
noncomputable def o341 : {o : Obj // fnAt (st B 40) (fun a b s => Obj.mk (Value.type "function") Option.none (Data.func (FuncData.mk (Str.ofString "_law_inflated") (Str.ofString "_law_inflated") a (FuncBody.stmts b) s 3 [] Value.none Value.none Value.none (Value.str (Str.ofString "law_nn0216_01") 587) Option.none (Value.ref 340) Value.none 0)) #[]) = o} := ⟨_, by conv => {lhs; whnf; zeta}⟩
noncomputable def o346 : {o : Obj // fnAt (st B 41) (fun a b s => Obj.mk (Value.type "function") Option.none (Data.func (FuncData.mk (Str.ofString "law") (Str.ofString "law") a (FuncBody.stmts b) s 3 [] Value.none Value.none Value.none (Value.str (Str.ofString "law_nn0216_01") 587) Option.none (Value.ref 345) Value.none 0)) #[]) = o} := ⟨_, by conv => {lhs; whnf; zeta}⟩
noncomputable def KK (P : Params) : Frag := [
  (2, Obj.mk Value.none Option.none (Data.dict #[DictEntry.mk (PyData.keyHash P (Str.ofString "type.__subclasses__.Exception.0")) (Value.str (Str.ofString "type.__subclasses__.Exception.0") 225) (Value.int 39 0), DictEntry.mk (PyData.keyHash P (Str.ofString "type.__subclasses__.Exception.n")) (Value.str (Str.ofString "type.__subclasses__.Exception.n") 226) (Value.int 1 0)] 2) #[]),
  (3, Obj.mk (Value.type "dict") Option.none (Data.dict #[DictEntry.mk (PyData.keyHash P (Str.ofString "__name__")) (Value.str (Str.ofString "__name__") 165) (Value.str (Str.ofString "law_nn0216_01") 587), DictEntry.mk (PyData.keyHash P (Str.ofString "__doc__")) (Value.str (Str.ofString "__doc__") 166) Value.none, DictEntry.mk (PyData.keyHash P (Str.ofString "__package__")) (Value.str (Str.ofString "__package__") 167) Value.none, DictEntry.mk (PyData.keyHash P (Str.ofString "__loader__")) (Value.str (Str.ofString "__loader__") 168) (Value.builtin "__main__.__loader__#opaque"), DictEntry.mk (PyData.keyHash P (Str.ofString "__spec__")) (Value.str (Str.ofString "__spec__") 169) Value.none, DictEntry.mk (PyData.keyHash P (Str.ofString "__annotations__")) (Value.str (Str.ofString "__annotations__") 170) (Value.ref 6), DictEntry.mk (PyData.keyHash P (Str.ofString "__builtins__")) (Value.str (Str.ofString "__builtins__") 171) (Value.ref 4), DictEntry.mk (PyData.keyHash P (Str.ofString "__file__")) (Value.str (Str.ofString "__file__") 173) (Value.str (Str.ofString "/claim/cut.py") 172), DictEntry.mk (PyData.keyHash P (Str.ofString "__cached__")) (Value.str (Str.ofString "__cached__") 174) Value.none, DictEntry.mk (PyData.keyHash P (Str.ofString "PaperError")) (Value.str (Str.ofString "PaperError") 228) (Value.ref 39), DictEntry.mk (PyData.keyHash P (Str.ofString "FilterFault")) (Value.str (Str.ofString "FilterFault") 244) (Value.ref 52), DictEntry.mk (PyData.keyHash P (Str.ofString "OCTET")) (Value.str (Str.ofString "OCTET") 248) (Value.int 8 247), DictEntry.mk (PyData.keyHash P (Str.ofString "low_bits")) (Value.str (Str.ofString "low_bits") 256) (Value.ref 61), DictEntry.mk (PyData.keyHash P (Str.ofString "BitsIn")) (Value.str (Str.ofString "BitsIn") 329) (Value.ref 114), DictEntry.mk (PyData.keyHash P (Str.ofString "greatest_length")) (Value.str (Str.ofString "greatest_length") 338) (Value.ref 125), DictEntry.mk (PyData.keyHash P (Str.ofString "tally_of")) (Value.str (Str.ofString "tally_of") 347) (Value.ref 132), DictEntry.mk (PyData.keyHash P (Str.ofString "room_left")) (Value.str (Str.ofString "room_left") 356) (Value.ref 139), DictEntry.mk (PyData.keyHash P (Str.ofString "is_full")) (Value.str (Str.ofString "is_full") 363) (Value.ref 146), DictEntry.mk (PyData.keyHash P (Str.ofString "is_over")) (Value.str (Str.ofString "is_over") 370) (Value.ref 153), DictEntry.mk (PyData.keyHash P (Str.ofString "symbols_of")) (Value.str (Str.ofString "symbols_of") 376) (Value.ref 158), DictEntry.mk (PyData.keyHash P (Str.ofString "Decoder")) (Value.str (Str.ofString "Decoder") 418) (Value.ref 182), DictEntry.mk (PyData.keyHash P (Str.ofString "END")) (Value.str (Str.ofString "END") 422) (Value.int 256 421), DictEntry.mk (PyData.keyHash P (Str.ofString "length_rows")) (Value.str (Str.ofString "length_rows") 433) (Value.ref 193), DictEntry.mk (PyData.keyHash P (Str.ofString "distance_rows")) (Value.str (Str.ofString "distance_rows") 444) (Value.ref 200), DictEntry.mk (PyData.keyHash P (Str.ofString "length_order")) (Value.str (Str.ofString "length_order") 452) (Value.ref 207), DictEntry.mk (PyData.keyHash P (Str.ofString "fixed_lengths")) (Value.str (Str.ofString "fixed_lengths") 458) (Value.ref 214), DictEntry.mk (PyData.keyHash P (Str.ofString "repeated")) (Value.str (Str.ofString "repeated") 467) (Value.ref 221), DictEntry.mk (PyData.keyHash P (Str.ofString "read_lengths")) (Value.str (Str.ofString "read_lengths") 484) (Value.ref 228), DictEntry.mk (PyData.keyHash P (Str.ofString "is_usable")) (Value.str (Str.ofString "is_usable") 491) (Value.ref 235), DictEntry.mk (PyData.keyHash P (Str.ofString "read_decoders")) (Value.str (Str.ofString "read_decoders") 500) (Value.ref 242), DictEntry.mk (PyData.keyHash P (Str.ofString "read_part")) (Value.str (Str.ofString "read_part") 513) (Value.ref 249), DictEntry.mk (PyData.keyHash P (Str.ofString "lay_part")) (Value.str (Str.ofString "lay_part") 525) (Value.ref 256), DictEntry.mk (PyData.keyHash P (Str.ofString "read_stored")) (Value.str (Str.ofString "read_stored") 533) (Value.ref 263), DictEntry.mk (PyData.keyHash P (Str.ofString "block_decoders")) (Value.str (Str.ofString "block_decoders") 543) (Value.ref 270), DictEntry.mk (PyData.keyHash P (Str.ofString "inflate_into")) (Value.str (Str.ofString "inflate_into") 557) (Value.ref 277), DictEntry.mk (PyData.keyHash P (Str.ofString "inflate")) (Value.str (Str.ofString "inflate") 568) (Value.ref 285), DictEntry.mk (PyData.keyHash P (Str.ofString "blocks_of")) (Value.str (Str.ofString "blocks_of") 586) (Value.ref 293), DictEntry.mk (PyData.keyHash P (Str.ofString "_law_draw")) (Value.str (Str.ofString "_law_draw") 598) (Value.ref 300), DictEntry.mk (PyData.keyHash P (Str.ofString "_law_source")) (Value.str (Str.ofString "_law_source") 604) (Value.ref 305), DictEntry.mk (PyData.keyHash P (Str.ofString "_law_low")) (Value.str (Str.ofString "_law_low") 610) (Value.ref 310), DictEntry.mk (PyData.keyHash P (Str.ofString "_law_high")) (Value.str (Str.ofString "_law_high") 616) (Value.ref 315), DictEntry.mk (PyData.keyHash P (Str.ofString "_law_row")) (Value.str (Str.ofString "_law_row") 622) (Value.ref 320), DictEntry.mk (PyData.keyHash P (Str.ofString "_law_literal")) (Value.str (Str.ofString "_law_literal") 629) (Value.ref 327), DictEntry.mk (PyData.keyHash P (Str.ofString "_law_rows_are_right")) (Value.str (Str.ofString "_law_rows_are_right") 640) (Value.ref 334), DictEntry.mk (PyData.keyHash P (Str.ofString "_law_inflated")) (Value.str (Str.ofString "_law_inflated") 648) (Value.ref 341), DictEntry.mk (PyData.keyHash P (Str.ofString "law")) (Value.str (Str.ofString "law") 654) (Value.ref 346)] 46) #[]),
  (15, Obj.mk (Value.type "tuple") Option.none (Data.seq #[Value.type "Exception"]) #[]),
  (22, Obj.mk (Value.type "tuple") Option.none (Data.seq #[Value.int (-1) 202]) #[]),
  (23, Obj.mk (Value.type "tuple") Option.none (Data.seq #[]) #[]),
  (25, Obj.mk (Value.type "tuple") Option.none (Data.seq #[Value.str (Str.ofString "self") 206, Value.str (Str.ofString "what") 207, Value.str (Str.ofString "at") 208]) #[]),
  (26, Obj.mk (Value.type "tuple") Option.none (Data.seq #[]) #[]),
  (28, Obj.mk (Value.type "code") Option.none (Data.fields #[Value.str (Str.ofString "__init__") 203, Value.str (Str.ofString "PaperError.__init__") 204, Value.str (Str.ofString "/claim/cut.py") 205, Value.int 4 0, Value.int 3 0, Value.int 0 0, Value.int 0 0, Value.int 3 0, Value.ref 23, Value.bool Bool.true, Value.int 181 0, Value.ref 24, Value.none, Value.ref 25, Value.ref 26, Value.ref 27, Value.int 209 0, Value.int 4 0, Value.str (Str.ofString "/claim/cut.py") 210]) #[]),
  (29, o29.1),
  (30, Obj.mk (Value.type "tuple") Option.none (Data.seq #[]) #[]),
  (32, Obj.mk (Value.type "tuple") Option.none (Data.seq #[Value.str (Str.ofString "self") 215]) #[]),
  (33, Obj.mk (Value.type "tuple") Option.none (Data.seq #[]) #[]),
  (35, Obj.mk (Value.type "code") Option.none (Data.fields #[Value.str (Str.ofString "told") 212, Value.str (Str.ofString "PaperError.told") 213, Value.str (Str.ofString "/claim/cut.py") 214, Value.int 9 0, Value.int 1 0, Value.int 0 0, Value.int 0 0, Value.int 3 0, Value.ref 30, Value.bool Bool.true, Value.int 181 0, Value.ref 31, Value.none, Value.ref 32, Value.ref 33, Value.ref 34, Value.int 216 0, Value.int 9 0, Value.str (Str.ofString "/claim/cut.py") 217]) #[]),
  (36, o36.1),
  (37, Obj.mk (Value.type "tuple") Option.none (Data.seq #[Value.str (Str.ofString "at") 219, Value.str (Str.ofString "what") 220]) #[]),
  (38, Obj.mk (Value.type "dict") Option.none (Data.dict #[DictEntry.mk (PyData.keyHash P (Str.ofString "__module__")) (Value.str (Str.ofString "__module__") 196) (Value.str (Str.ofString "paperhold.errors") 187), DictEntry.mk (PyData.keyHash P (Str.ofString "__firstlineno__")) (Value.str (Str.ofString "__firstlineno__") 200) (Value.int 2 199), DictEntry.mk (PyData.keyHash P (Str.ofString "__init__")) (Value.str (Str.ofString "__init__") 211) (Value.ref 29), DictEntry.mk (PyData.keyHash P (Str.ofString "told")) (Value.str (Str.ofString "told") 218) (Value.ref 36), DictEntry.mk (PyData.keyHash P (Str.ofString "__static_attributes__")) (Value.str (Str.ofString "__static_attributes__") 221) (Value.ref 37), DictEntry.mk (PyData.keyHash P (Str.ofString "__weakref__")) (Value.str (Str.ofString "__weakref__") 223) (Value.ref 40), DictEntry.mk (PyData.keyHash P (Str.ofString "__doc__")) (Value.str (Str.ofString "__doc__") 224) Value.none] 3) #[]),
  (39, Obj.mk (Value.type "type") Option.none (Data.cls (ClassData.mk (Str.ofString "PaperError") [Value.type "Exception"] [Value.ref 39, Value.type "Exception", Value.type "BaseException", Value.type "object"] 38 (Str.ofString "PaperError") Bool.true [] [Value.ref 52] Bool.false Option.none Bool.false)) #[Option.some (Value.ref 15), Option.none, Option.some (Value.str (Str.ofString "PaperError") 189), Option.some (Value.str (Str.ofString "PaperError") 197), Option.some (Value.builtin "Exception.__new__"), Option.some (Value.bool Bool.true)]),
  (40, Obj.mk (Value.type "getset_descriptor") Option.none (Data.fields #[Value.str (Str.ofString "__weakref__") 222, Value.ref 39, Value.builtin "ExceptionGroup.__weakref__", Value.none]) #[]),
  (43, Obj.mk (Value.type "tuple") Option.none (Data.seq #[Value.ref 39]) #[]),
  (50, Obj.mk (Value.type "tuple") Option.none (Data.seq #[]) #[]),
  (51, Obj.mk (Value.type "dict") Option.none (Data.dict #[DictEntry.mk (PyData.keyHash P (Str.ofString "__module__")) (Value.str (Str.ofString "__module__") 236) (Value.str (Str.ofString "paperhold.errors") 187), DictEntry.mk (PyData.keyHash P (Str.ofString "__firstlineno__")) (Value.str (Str.ofString "__firstlineno__") 240) (Value.int 11 239), DictEntry.mk (PyData.keyHash P (Str.ofString "__static_attributes__")) (Value.str (Str.ofString "__static_attributes__") 241) (Value.ref 50), DictEntry.mk (PyData.keyHash P (Str.ofString "__doc__")) (Value.str (Str.ofString "__doc__") 242) Value.none] 2) #[]),
  (52, Obj.mk (Value.type "type") Option.none (Data.cls (ClassData.mk (Str.ofString "FilterFault") [Value.ref 39] [Value.ref 52, Value.ref 39, Value.type "Exception", Value.type "BaseException", Value.type "object"] 51 (Str.ofString "FilterFault") Bool.true [] [] Bool.false Option.none Bool.false)) #[Option.some (Value.ref 43), Option.none, Option.some (Value.str (Str.ofString "FilterFault") 229), Option.some (Value.str (Str.ofString "FilterFault") 237), Option.some (Value.builtin "Exception.__new__"), Option.some (Value.bool Bool.true)]),
  (55, Obj.mk (Value.type "tuple") Option.none (Data.seq #[]) #[]),
  (57, Obj.mk (Value.type "tuple") Option.none (Data.seq #[Value.str (Str.ofString "value") 252, Value.str (Str.ofString "count") 253]) #[]),
  (58, Obj.mk (Value.type "tuple") Option.none (Data.seq #[]) #[]),
  (60, Obj.mk (Value.type "code") Option.none (Data.fields #[Value.str (Str.ofString "low_bits") 249, Value.str (Str.ofString "low_bits") 250, Value.str (Str.ofString "/claim/cut.py") 251, Value.int 15 0, Value.int 2 0, Value.int 0 0, Value.int 0 0, Value.int 3 0, Value.ref 55, Value.bool Bool.true, Value.int 181 0, Value.ref 56, Value.none, Value.ref 57, Value.ref 58, Value.ref 59, Value.int 254 0, Value.int 15 0, Value.str (Str.ofString "/claim/cut.py") 255]) #[]),
  (61, o61.1),
  (69, Obj.mk (Value.type "tuple") Option.none (Data.seq #[Value.int 0 269]) #[]),
  (70, Obj.mk (Value.type "tuple") Option.none (Data.seq #[]) #[]),
  (72, Obj.mk (Value.type "tuple") Option.none (Data.seq #[Value.str (Str.ofString "self") 273, Value.str (Str.ofString "data") 274, Value.str (Str.ofString "at") 275]) #[]),
  (73, Obj.mk (Value.type "tuple") Option.none (Data.seq #[]) #[]),
  (75, Obj.mk (Value.type "code") Option.none (Data.fields #[Value.str (Str.ofString "__init__") 270, Value.str (Str.ofString "BitsIn.__init__") 271, Value.str (Str.ofString "/claim/cut.py") 272, Value.int 19 0, Value.int 3 0, Value.int 0 0, Value.int 0 0, Value.int 3 0, Value.ref 70, Value.bool Bool.true, Value.int 181 0, Value.ref 71, Value.none, Value.ref 72, Value.ref 73, Value.ref 74, Value.int 276 0, Value.int 19 0, Value.str (Str.ofString "/claim/cut.py") 277]) #[]),
  (76, o76.1),
  (77, Obj.mk (Value.type "tuple") Option.none (Data.seq #[]) #[]),
  (79, Obj.mk (Value.type "tuple") Option.none (Data.seq #[Value.str (Str.ofString "self") 282]) #[]),
  (80, Obj.mk (Value.type "tuple") Option.none (Data.seq #[]) #[]),
  (82, Obj.mk (Value.type "code") Option.none (Data.fields #[Value.str (Str.ofString "left") 279, Value.str (Str.ofString "BitsIn.left") 280, Value.str (Str.ofString "/claim/cut.py") 281, Value.int 25 0, Value.int 1 0, Value.int 0 0, Value.int 0 0, Value.int 3 0, Value.ref 77, Value.bool Bool.true, Value.int 181 0, Value.ref 78, Value.none, Value.ref 79, Value.ref 80, Value.ref 81, Value.int 283 0, Value.int 25 0, Value.str (Str.ofString "/claim/cut.py") 284]) #[]),
  (83, o83.1),
  (84, Obj.mk (Value.type "tuple") Option.none (Data.seq #[]) #[]),
  (86, Obj.mk (Value.type "tuple") Option.none (Data.seq #[Value.str (Str.ofString "self") 289, Value.str (Str.ofString "count") 290]) #[]),
  (87, Obj.mk (Value.type "tuple") Option.none (Data.seq #[]) #[]),
  (89, Obj.mk (Value.type "code") Option.none (Data.fields #[Value.str (Str.ofString "need") 286, Value.str (Str.ofString "BitsIn.need") 287, Value.str (Str.ofString "/claim/cut.py") 288, Value.int 28 0, Value.int 2 0, Value.int 0 0, Value.int 0 0, Value.int 3 0, Value.ref 84, Value.bool Bool.true, Value.int 181 0, Value.ref 85, Value.none, Value.ref 86, Value.ref 87, Value.ref 88, Value.int 291 0, Value.int 28 0, Value.str (Str.ofString "/claim/cut.py") 292]) #[]),
  (90, o90.1),
  (91, Obj.mk (Value.type "tuple") Option.none (Data.seq #[]) #[]),
  (93, Obj.mk (Value.type "tuple") Option.none (Data.seq #[Value.str (Str.ofString "self") 297, Value.str (Str.ofString "count") 298, Value.str (Str.ofString "value") 299]) #[]),
  (94, Obj.mk (Value.type "tuple") Option.none (Data.seq #[]) #[]),
  (96, Obj.mk (Value.type "code") Option.none (Data.fields #[Value.str (Str.ofString "take") 294, Value.str (Str.ofString "BitsIn.take") 295, Value.str (Str.ofString "/claim/cut.py") 296, Value.int 32 0, Value.int 2 0, Value.int 0 0, Value.int 0 0, Value.int 3 0, Value.ref 91, Value.bool Bool.true, Value.int 181 0, Value.ref 92, Value.none, Value.ref 93, Value.ref 94, Value.ref 95, Value.int 300 0, Value.int 32 0, Value.str (Str.ofString "/claim/cut.py") 301]) #[]),
  (97, o97.1),
  (98, Obj.mk (Value.type "tuple") Option.none (Data.seq #[]) #[]),
  (100, Obj.mk (Value.type "tuple") Option.none (Data.seq #[Value.str (Str.ofString "self") 306]) #[]),
  (101, Obj.mk (Value.type "tuple") Option.none (Data.seq #[]) #[]),
  (103, Obj.mk (Value.type "code") Option.none (Data.fields #[Value.str (Str.ofString "align") 303, Value.str (Str.ofString "BitsIn.align") 304, Value.str (Str.ofString "/claim/cut.py") 305, Value.int 43 0, Value.int 1 0, Value.int 0 0, Value.int 0 0, Value.int 3 0, Value.ref 98, Value.bool Bool.true, Value.int 181 0, Value.ref 99, Value.none, Value.ref 100, Value.ref 101, Value.ref 102, Value.int 307 0, Value.int 43 0, Value.str (Str.ofString "/claim/cut.py") 308]) #[]),
  (104, o104.1),
  (105, Obj.mk (Value.type "tuple") Option.none (Data.seq #[]) #[]),
  (107, Obj.mk (Value.type "tuple") Option.none (Data.seq #[Value.str (Str.ofString "self") 313, Value.str (Str.ofString "count") 314]) #[]),
  (108, Obj.mk (Value.type "tuple") Option.none (Data.seq #[]) #[]),
  (110, Obj.mk (Value.type "code") Option.none (Data.fields #[Value.str (Str.ofString "octets") 310, Value.str (Str.ofString "BitsIn.octets") 311, Value.str (Str.ofString "/claim/cut.py") 312, Value.int 47 0, Value.int 2 0, Value.int 0 0, Value.int 0 0, Value.int 3 0, Value.ref 105, Value.bool Bool.true, Value.int 181 0, Value.ref 106, Value.none, Value.ref 107, Value.ref 108, Value.ref 109, Value.int 315 0, Value.int 47 0, Value.str (Str.ofString "/claim/cut.py") 316]) #[]),
  (111, o111.1),
  (112, Obj.mk (Value.type "tuple") Option.none (Data.seq #[Value.str (Str.ofString "at") 318, Value.str (Str.ofString "count") 319, Value.str (Str.ofString "data") 320, Value.str (Str.ofString "held") 321]) #[]),
  (113, Obj.mk (Value.type "dict") Option.none (Data.dict #[DictEntry.mk (PyData.keyHash P (Str.ofString "__module__")) (Value.str (Str.ofString "__module__") 264) (Value.str (Str.ofString "paperhold.bits") 245), DictEntry.mk (PyData.keyHash P (Str.ofString "__firstlineno__")) (Value.str (Str.ofString "__firstlineno__") 268) (Value.int 17 267), DictEntry.mk (PyData.keyHash P (Str.ofString "__init__")) (Value.str (Str.ofString "__init__") 278) (Value.ref 76), DictEntry.mk (PyData.keyHash P (Str.ofString "left")) (Value.str (Str.ofString "left") 285) (Value.ref 83), DictEntry.mk (PyData.keyHash P (Str.ofString "need")) (Value.str (Str.ofString "need") 293) (Value.ref 90), DictEntry.mk (PyData.keyHash P (Str.ofString "take")) (Value.str (Str.ofString "take") 302) (Value.ref 97), DictEntry.mk (PyData.keyHash P (Str.ofString "align")) (Value.str (Str.ofString "align") 309) (Value.ref 104), DictEntry.mk (PyData.keyHash P (Str.ofString "octets")) (Value.str (Str.ofString "octets") 317) (Value.ref 111), DictEntry.mk (PyData.keyHash P (Str.ofString "__static_attributes__")) (Value.str (Str.ofString "__static_attributes__") 322) (Value.ref 112), DictEntry.mk (PyData.keyHash P (Str.ofString "__dict__")) (Value.str (Str.ofString "__dict__") 324) (Value.ref 115), DictEntry.mk (PyData.keyHash P (Str.ofString "__weakref__")) (Value.str (Str.ofString "__weakref__") 326) (Value.ref 116), DictEntry.mk (PyData.keyHash P (Str.ofString "__doc__")) (Value.str (Str.ofString "__doc__") 327) Value.none] 4) #[]),
  (114, Obj.mk (Value.type "type") Option.none (Data.cls (ClassData.mk (Str.ofString "BitsIn") [Value.type "object"] [Value.ref 114, Value.type "object"] 113 (Str.ofString "BitsIn") Bool.true [] [] Bool.false Option.none Bool.false)) #[Option.none, Option.none, Option.some (Value.str (Str.ofString "BitsIn") 257), Option.some (Value.str (Str.ofString "BitsIn") 265), Option.some (Value.builtin "object.__new__"), Option.some (Value.bool Bool.true)]),
  (115, Obj.mk (Value.type "getset_descriptor") Option.none (Data.fields #[Value.str (Str.ofString "__dict__") 323, Value.ref 114, Value.builtin "function.__dict__", Value.builtin "function.__dict__#set"]) #[]),
  (116, Obj.mk (Value.type "getset_descriptor") Option.none (Data.fields #[Value.str (Str.ofString "__weakref__") 325, Value.ref 114, Value.builtin "ExceptionGroup.__weakref__", Value.none]) #[]),
  (119, Obj.mk (Value.type "tuple") Option.none (Data.seq #[]) #[]),
  (121, Obj.mk (Value.type "tuple") Option.none (Data.seq #[Value.str (Str.ofString "lengths") 335]) #[]),
  (122, Obj.mk (Value.type "tuple") Option.none (Data.seq #[]) #[]),
  (124, Obj.mk (Value.type "code") Option.none (Data.fields #[Value.str (Str.ofString "greatest_length") 332, Value.str (Str.ofString "greatest_length") 333, Value.str (Str.ofString "/claim/cut.py") 334, Value.int 53 0, Value.int 1 0, Value.int 0 0, Value.int 0 0, Value.int 3 0, Value.ref 119, Value.bool Bool.true, Value.int 181 0, Value.ref 120, Value.none, Value.ref 121, Value.ref 122, Value.ref 123, Value.int 336 0, Value.int 53 0, Value.str (Str.ofString "/claim/cut.py") 337]) #[]),
  (125, o125.1),
  (126, Obj.mk (Value.type "tuple") Option.none (Data.seq #[]) #[]),
  (128, Obj.mk (Value.type "tuple") Option.none (Data.seq #[Value.str (Str.ofString "lengths") 342, Value.str (Str.ofString "tally") 343, Value.str (Str.ofString "length") 344]) #[]),
  (129, Obj.mk (Value.type "tuple") Option.none (Data.seq #[]) #[]),
  (131, Obj.mk (Value.type "code") Option.none (Data.fields #[Value.str (Str.ofString "tally_of") 339, Value.str (Str.ofString "tally_of") 340, Value.str (Str.ofString "/claim/cut.py") 341, Value.int 55 0, Value.int 1 0, Value.int 0 0, Value.int 0 0, Value.int 3 0, Value.ref 126, Value.bool Bool.true, Value.int 181 0, Value.ref 127, Value.none, Value.ref 128, Value.ref 129, Value.ref 130, Value.int 345 0, Value.int 55 0, Value.str (Str.ofString "/claim/cut.py") 346]) #[]),
  (132, o132.1),
  (133, Obj.mk (Value.type "tuple") Option.none (Data.seq #[]) #[]),
  (135, Obj.mk (Value.type "tuple") Option.none (Data.seq #[Value.str (Str.ofString "lengths") 351, Value.str (Str.ofString "room") 352, Value.str (Str.ofString "taken") 353]) #[]),
  (136, Obj.mk (Value.type "tuple") Option.none (Data.seq #[]) #[]),
  (138, Obj.mk (Value.type "code") Option.none (Data.fields #[Value.str (Str.ofString "room_left") 348, Value.str (Str.ofString "room_left") 349, Value.str (Str.ofString "/claim/cut.py") 350, Value.int 61 0, Value.int 1 0, Value.int 0 0, Value.int 0 0, Value.int 3 0, Value.ref 133, Value.bool Bool.true, Value.int 181 0, Value.ref 134, Value.none, Value.ref 135, Value.ref 136, Value.ref 137, Value.int 354 0, Value.int 61 0, Value.str (Str.ofString "/claim/cut.py") 355]) #[]),
  (139, o139.1),
  (140, Obj.mk (Value.type "tuple") Option.none (Data.seq #[]) #[]),
  (142, Obj.mk (Value.type "tuple") Option.none (Data.seq #[Value.str (Str.ofString "lengths") 360]) #[]),
  (143, Obj.mk (Value.type "tuple") Option.none (Data.seq #[]) #[]),
  (145, Obj.mk (Value.type "code") Option.none (Data.fields #[Value.str (Str.ofString "is_full") 357, Value.str (Str.ofString "is_full") 358, Value.str (Str.ofString "/claim/cut.py") 359, Value.int 66 0, Value.int 1 0, Value.int 0 0, Value.int 0 0, Value.int 3 0, Value.ref 140, Value.bool Bool.true, Value.int 181 0, Value.ref 141, Value.none, Value.ref 142, Value.ref 143, Value.ref 144, Value.int 361 0, Value.int 66 0, Value.str (Str.ofString "/claim/cut.py") 362]) #[]),
  (146, o146.1),
  (147, Obj.mk (Value.type "tuple") Option.none (Data.seq #[]) #[]),
  (149, Obj.mk (Value.type "tuple") Option.none (Data.seq #[Value.str (Str.ofString "lengths") 367]) #[]),
  (150, Obj.mk (Value.type "tuple") Option.none (Data.seq #[]) #[]),
  (152, Obj.mk (Value.type "code") Option.none (Data.fields #[Value.str (Str.ofString "is_over") 364, Value.str (Str.ofString "is_over") 365, Value.str (Str.ofString "/claim/cut.py") 366, Value.int 68 0, Value.int 1 0, Value.int 0 0, Value.int 0 0, Value.int 3 0, Value.ref 147, Value.bool Bool.true, Value.int 181 0, Value.ref 148, Value.none, Value.ref 149, Value.ref 150, Value.ref 151, Value.int 368 0, Value.int 68 0, Value.str (Str.ofString "/claim/cut.py") 369]) #[]),
  (153, o153.1),
  (154, Obj.mk (Value.type "tuple") Option.none (Data.seq #[]) #[]),
  (157, Obj.mk (Value.type "code") Option.none (Data.fields #[Value.str (Str.ofString "symbols_of") 371, Value.str (Str.ofString "symbols_of") 372, Value.str (Str.ofString "/claim/cut.py") 373, Value.int 70 0, Value.int 1 0, Value.int 0 0, Value.int 0 0, Value.int 3 0, Value.ref 154, Value.bool Bool.true, Value.int 181 0, Value.ref 155, Value.none, Value.none, Value.none, Value.ref 156, Value.int 374 0, Value.int 70 0, Value.str (Str.ofString "/claim/cut.py") 375]) #[]),
  (158, o158.1),
  (166, Obj.mk (Value.type "tuple") Option.none (Data.seq #[]) #[]),
  (168, Obj.mk (Value.type "tuple") Option.none (Data.seq #[Value.str (Str.ofString "self") 392, Value.str (Str.ofString "lengths") 393]) #[]),
  (169, Obj.mk (Value.type "tuple") Option.none (Data.seq #[]) #[]),
  (171, Obj.mk (Value.type "code") Option.none (Data.fields #[Value.str (Str.ofString "__init__") 389, Value.str (Str.ofString "Decoder.__init__") 390, Value.str (Str.ofString "/claim/cut.py") 391, Value.int 80 0, Value.int 2 0, Value.int 0 0, Value.int 0 0, Value.int 3 0, Value.ref 166, Value.bool Bool.true, Value.int 181 0, Value.ref 167, Value.none, Value.ref 168, Value.ref 169, Value.ref 170, Value.int 394 0, Value.int 80 0, Value.str (Str.ofString "/claim/cut.py") 395]) #[]),
  (172, o172.1),
  (173, Obj.mk (Value.type "tuple") Option.none (Data.seq #[]) #[]),
  (175, Obj.mk (Value.type "tuple") Option.none (Data.seq #[Value.str (Str.ofString "self") 400, Value.str (Str.ofString "bits") 401, Value.str (Str.ofString "code") 402, Value.str (Str.ofString "first") 403, Value.str (Str.ofString "place") 404, Value.str (Str.ofString "taken") 405]) #[]),
  (176, Obj.mk (Value.type "tuple") Option.none (Data.seq #[]) #[]),
  (178, Obj.mk (Value.type "code") Option.none (Data.fields #[Value.str (Str.ofString "read") 397, Value.str (Str.ofString "Decoder.read") 398, Value.str (Str.ofString "/claim/cut.py") 399, Value.int 86 0, Value.int 2 0, Value.int 0 0, Value.int 0 0, Value.int 3 0, Value.ref 173, Value.bool Bool.true, Value.int 181 0, Value.ref 174, Value.none, Value.ref 175, Value.ref 176, Value.ref 177, Value.int 406 0, Value.int 86 0, Value.str (Str.ofString "/claim/cut.py") 407]) #[]),
  (179, o179.1),
  (180, Obj.mk (Value.type "tuple") Option.none (Data.seq #[Value.str (Str.ofString "symbols") 409, Value.str (Str.ofString "tally") 410]) #[]),
  (181, Obj.mk (Value.type "dict") Option.none (Data.dict #[DictEntry.mk (PyData.keyHash P (Str.ofString "__module__")) (Value.str (Str.ofString "__module__") 384) (Value.str (Str.ofString "paperhold.huffman") 330), DictEntry.mk (PyData.keyHash P (Str.ofString "__firstlineno__")) (Value.str (Str.ofString "__firstlineno__") 388) (Value.int 78 387), DictEntry.mk (PyData.keyHash P (Str.ofString "__init__")) (Value.str (Str.ofString "__init__") 396) (Value.ref 172), DictEntry.mk (PyData.keyHash P (Str.ofString "read")) (Value.str (Str.ofString "read") 408) (Value.ref 179), DictEntry.mk (PyData.keyHash P (Str.ofString "__static_attributes__")) (Value.str (Str.ofString "__static_attributes__") 411) (Value.ref 180), DictEntry.mk (PyData.keyHash P (Str.ofString "__dict__")) (Value.str (Str.ofString "__dict__") 413) (Value.ref 183), DictEntry.mk (PyData.keyHash P (Str.ofString "__weakref__")) (Value.str (Str.ofString "__weakref__") 415) (Value.ref 184), DictEntry.mk (PyData.keyHash P (Str.ofString "__doc__")) (Value.str (Str.ofString "__doc__") 416) Value.none] 4) #[]),
  (182, Obj.mk (Value.type "type") Option.none (Data.cls (ClassData.mk (Str.ofString "Decoder") [Value.type "object"] [Value.ref 182, Value.type "object"] 181 (Str.ofString "Decoder") Bool.true [] [] Bool.false Option.none Bool.false)) #[Option.none, Option.none, Option.some (Value.str (Str.ofString "Decoder") 377), Option.some (Value.str (Str.ofString "Decoder") 385), Option.some (Value.builtin "object.__new__"), Option.some (Value.bool Bool.true)]),
  (183, Obj.mk (Value.type "getset_descriptor") Option.none (Data.fields #[Value.str (Str.ofString "__dict__") 412, Value.ref 182, Value.builtin "function.__dict__", Value.builtin "function.__dict__#set"]) #[]),
  (184, Obj.mk (Value.type "getset_descriptor") Option.none (Data.fields #[Value.str (Str.ofString "__weakref__") 414, Value.ref 182, Value.builtin "ExceptionGroup.__weakref__", Value.none]) #[]),
  (187, Obj.mk (Value.type "tuple") Option.none (Data.seq #[]) #[]),
  (189, Obj.mk (Value.type "tuple") Option.none (Data.seq #[Value.str (Str.ofString "bases") 426, Value.str (Str.ofString "extras") 427, Value.str (Str.ofString "base") 428, Value.str (Str.ofString "place") 429, Value.str (Str.ofString "extra") 430]) #[]),
  (190, Obj.mk (Value.type "tuple") Option.none (Data.seq #[]) #[]),
  (192, Obj.mk (Value.type "code") Option.none (Data.fields #[Value.str (Str.ofString "length_rows") 423, Value.str (Str.ofString "length_rows") 424, Value.str (Str.ofString "/claim/cut.py") 425, Value.int 99 0, Value.int 0 0, Value.int 0 0, Value.int 0 0, Value.int 3 0, Value.ref 187, Value.bool Bool.true, Value.int 181 0, Value.ref 188, Value.none, Value.ref 189, Value.ref 190, Value.ref 191, Value.int 431 0, Value.int 99 0, Value.str (Str.ofString "/claim/cut.py") 432]) #[]),
  (193, o193.1),
  (194, Obj.mk (Value.type "tuple") Option.none (Data.seq #[]) #[]),
  (196, Obj.mk (Value.type "tuple") Option.none (Data.seq #[Value.str (Str.ofString "bases") 437, Value.str (Str.ofString "extras") 438, Value.str (Str.ofString "base") 439, Value.str (Str.ofString "place") 440, Value.str (Str.ofString "extra") 441]) #[]),
  (197, Obj.mk (Value.type "tuple") Option.none (Data.seq #[]) #[]),
  (199, Obj.mk (Value.type "code") Option.none (Data.fields #[Value.str (Str.ofString "distance_rows") 434, Value.str (Str.ofString "distance_rows") 435, Value.str (Str.ofString "/claim/cut.py") 436, Value.int 109 0, Value.int 0 0, Value.int 0 0, Value.int 0 0, Value.int 3 0, Value.ref 194, Value.bool Bool.true, Value.int 181 0, Value.ref 195, Value.none, Value.ref 196, Value.ref 197, Value.ref 198, Value.int 442 0, Value.int 109 0, Value.str (Str.ofString "/claim/cut.py") 443]) #[]),
  (200, o200.1),
  (201, Obj.mk (Value.type "tuple") Option.none (Data.seq #[]) #[]),
  (203, Obj.mk (Value.type "tuple") Option.none (Data.seq #[Value.str (Str.ofString "order") 448, Value.str (Str.ofString "place") 449]) #[]),
  (204, Obj.mk (Value.type "tuple") Option.none (Data.seq #[]) #[]),
  (206, Obj.mk (Value.type "code") Option.none (Data.fields #[Value.str (Str.ofString "length_order") 445, Value.str (Str.ofString "length_order") 446, Value.str (Str.ofString "/claim/cut.py") 447, Value.int 119 0, Value.int 0 0, Value.int 0 0, Value.int 0 0, Value.int 3 0, Value.ref 201, Value.bool Bool.true, Value.int 181 0, Value.ref 202, Value.none, Value.ref 203, Value.ref 204, Value.ref 205, Value.int 450 0, Value.int 119 0, Value.str (Str.ofString "/claim/cut.py") 451]) #[]),
  (207, o207.1),
  (208, Obj.mk (Value.type "tuple") Option.none (Data.seq #[]) #[]),
  (210, Obj.mk (Value.type "tuple") Option.none (Data.seq #[]) #[]),
  (211, Obj.mk (Value.type "tuple") Option.none (Data.seq #[]) #[]),
  (213, Obj.mk (Value.type "code") Option.none (Data.fields #[Value.str (Str.ofString "fixed_lengths") 453, Value.str (Str.ofString "fixed_lengths") 454, Value.str (Str.ofString "/claim/cut.py") 455, Value.int 127 0, Value.int 0 0, Value.int 0 0, Value.int 0 0, Value.int 3 0, Value.ref 208, Value.bool Bool.true, Value.int 181 0, Value.ref 209, Value.none, Value.ref 210, Value.ref 211, Value.ref 212, Value.int 456 0, Value.int 127 0, Value.str (Str.ofString "/claim/cut.py") 457]) #[]),
  (214, o214.1),
  (215, Obj.mk (Value.type "tuple") Option.none (Data.seq #[]) #[]),
  (217, Obj.mk (Value.type "tuple") Option.none (Data.seq #[Value.str (Str.ofString "bits") 462, Value.str (Str.ofString "symbol") 463, Value.str (Str.ofString "lengths") 464]) #[]),
  (218, Obj.mk (Value.type "tuple") Option.none (Data.seq #[]) #[]),
  (220, Obj.mk (Value.type "code") Option.none (Data.fields #[Value.str (Str.ofString "repeated") 459, Value.str (Str.ofString "repeated") 460, Value.str (Str.ofString "/claim/cut.py") 461, Value.int 129 0, Value.int 3 0, Value.int 0 0, Value.int 0 0, Value.int 3 0, Value.ref 215, Value.bool Bool.true, Value.int 181 0, Value.ref 216, Value.none, Value.ref 217, Value.ref 218, Value.ref 219, Value.int 465 0, Value.int 129 0, Value.str (Str.ofString "/claim/cut.py") 466]) #[]),
  (221, o221.1),
  (222, Obj.mk (Value.type "tuple") Option.none (Data.seq #[]) #[]),
  (224, Obj.mk (Value.type "tuple") Option.none (Data.seq #[Value.str (Str.ofString "bits") 471, Value.str (Str.ofString "literals") 472, Value.str (Str.ofString "distances") 473, Value.str (Str.ofString "count") 474, Value.str (Str.ofString "small") 475, Value.str (Str.ofString "place") 476, Value.str (Str.ofString "decoder") 477, Value.str (Str.ofString "lengths") 478, Value.str (Str.ofString "symbol") 479, Value.str (Str.ofString "length") 480, Value.str (Str.ofString "times") 481]) #[]),
  (225, Obj.mk (Value.type "tuple") Option.none (Data.seq #[]) #[]),
  (227, Obj.mk (Value.type "code") Option.none (Data.fields #[Value.str (Str.ofString "read_lengths") 468, Value.str (Str.ofString "read_lengths") 469, Value.str (Str.ofString "/claim/cut.py") 470, Value.int 137 0, Value.int 1 0, Value.int 0 0, Value.int 0 0, Value.int 3 0, Value.ref 222, Value.bool Bool.true, Value.int 181 0, Value.ref 223, Value.none, Value.ref 224, Value.ref 225, Value.ref 226, Value.int 482 0, Value.int 137 0, Value.str (Str.ofString "/claim/cut.py") 483]) #[]),
  (228, o228.1),
  (229, Obj.mk (Value.type "tuple") Option.none (Data.seq #[]) #[]),
  (231, Obj.mk (Value.type "tuple") Option.none (Data.seq #[Value.str (Str.ofString "lengths") 488]) #[]),
  (232, Obj.mk (Value.type "tuple") Option.none (Data.seq #[]) #[]),
  (234, Obj.mk (Value.type "code") Option.none (Data.fields #[Value.str (Str.ofString "is_usable") 485, Value.str (Str.ofString "is_usable") 486, Value.str (Str.ofString "/claim/cut.py") 487, Value.int 160 0, Value.int 1 0, Value.int 0 0, Value.int 0 0, Value.int 3 0, Value.ref 229, Value.bool Bool.true, Value.int 181 0, Value.ref 230, Value.none, Value.ref 231, Value.ref 232, Value.ref 233, Value.int 489 0, Value.int 160 0, Value.str (Str.ofString "/claim/cut.py") 490]) #[]),
  (235, o235.1),
  (236, Obj.mk (Value.type "tuple") Option.none (Data.seq #[]) #[]),
  (238, Obj.mk (Value.type "tuple") Option.none (Data.seq #[Value.str (Str.ofString "bits") 495, Value.str (Str.ofString "literals") 496, Value.str (Str.ofString "distances") 497]) #[]),
  (239, Obj.mk (Value.type "tuple") Option.none (Data.seq #[]) #[]),
  (241, Obj.mk (Value.type "code") Option.none (Data.fields #[Value.str (Str.ofString "read_decoders") 492, Value.str (Str.ofString "read_decoders") 493, Value.str (Str.ofString "/claim/cut.py") 494, Value.int 162 0, Value.int 1 0, Value.int 0 0, Value.int 0 0, Value.int 3 0, Value.ref 236, Value.bool Bool.true, Value.int 181 0, Value.ref 237, Value.none, Value.ref 238, Value.ref 239, Value.ref 240, Value.int 498 0, Value.int 162 0, Value.str (Str.ofString "/claim/cut.py") 499]) #[]),
  (242, o242.1),
  (243, Obj.mk (Value.type "tuple") Option.none (Data.seq #[]) #[]),
  (245, Obj.mk (Value.type "tuple") Option.none (Data.seq #[Value.str (Str.ofString "bits") 504, Value.str (Str.ofString "literals") 505, Value.str (Str.ofString "distances") 506, Value.str (Str.ofString "rows") 507, Value.str (Str.ofString "symbol") 508, Value.str (Str.ofString "place") 509, Value.str (Str.ofString "length") 510]) #[]),
  (246, Obj.mk (Value.type "tuple") Option.none (Data.seq #[]) #[]),
  (248, Obj.mk (Value.type "code") Option.none (Data.fields #[Value.str (Str.ofString "read_part") 501, Value.str (Str.ofString "read_part") 502, Value.str (Str.ofString "/claim/cut.py") 503, Value.int 169 0, Value.int 4 0, Value.int 0 0, Value.int 0 0, Value.int 3 0, Value.ref 243, Value.bool Bool.true, Value.int 181 0, Value.ref 244, Value.none, Value.ref 245, Value.ref 246, Value.ref 247, Value.int 511 0, Value.int 169 0, Value.str (Str.ofString "/claim/cut.py") 512]) #[]),
  (249, o249.1),
  (250, Obj.mk (Value.type "tuple") Option.none (Data.seq #[]) #[]),
  (252, Obj.mk (Value.type "tuple") Option.none (Data.seq #[Value.str (Str.ofString "out") 517, Value.str (Str.ofString "part") 518, Value.str (Str.ofString "at") 519, Value.str (Str.ofString "length") 520, Value.str (Str.ofString "distance") 521, Value.str (Str.ofString "turn") 522]) #[]),
  (253, Obj.mk (Value.type "tuple") Option.none (Data.seq #[]) #[]),
  (255, Obj.mk (Value.type "code") Option.none (Data.fields #[Value.str (Str.ofString "lay_part") 514, Value.str (Str.ofString "lay_part") 515, Value.str (Str.ofString "/claim/cut.py") 516, Value.int 183 0, Value.int 3 0, Value.int 0 0, Value.int 0 0, Value.int 3 0, Value.ref 250, Value.bool Bool.true, Value.int 181 0, Value.ref 251, Value.none, Value.ref 252, Value.ref 253, Value.ref 254, Value.int 523 0, Value.int 183 0, Value.str (Str.ofString "/claim/cut.py") 524]) #[]),
  (256, o256.1),
  (257, Obj.mk (Value.type "tuple") Option.none (Data.seq #[]) #[]),
  (259, Obj.mk (Value.type "tuple") Option.none (Data.seq #[Value.str (Str.ofString "bits") 529, Value.str (Str.ofString "count") 530]) #[]),
  (260, Obj.mk (Value.type "tuple") Option.none (Data.seq #[]) #[]),
  (262, Obj.mk (Value.type "code") Option.none (Data.fields #[Value.str (Str.ofString "read_stored") 526, Value.str (Str.ofString "read_stored") 527, Value.str (Str.ofString "/claim/cut.py") 528, Value.int 192 0, Value.int 1 0, Value.int 0 0, Value.int 0 0, Value.int 3 0, Value.ref 257, Value.bool Bool.true, Value.int 181 0, Value.ref 258, Value.none, Value.ref 259, Value.ref 260, Value.ref 261, Value.int 531 0, Value.int 192 0, Value.str (Str.ofString "/claim/cut.py") 532]) #[]),
  (263, o263.1),
  (264, Obj.mk (Value.type "tuple") Option.none (Data.seq #[]) #[]),
  (266, Obj.mk (Value.type "tuple") Option.none (Data.seq #[Value.str (Str.ofString "bits") 537, Value.str (Str.ofString "way") 538, Value.str (Str.ofString "literals") 539, Value.str (Str.ofString "distances") 540]) #[]),
  (267, Obj.mk (Value.type "tuple") Option.none (Data.seq #[]) #[]),
  (269, Obj.mk (Value.type "code") Option.none (Data.fields #[Value.str (Str.ofString "block_decoders") 534, Value.str (Str.ofString "block_decoders") 535, Value.str (Str.ofString "/claim/cut.py") 536, Value.int 198 0, Value.int 2 0, Value.int 0 0, Value.int 0 0, Value.int 3 0, Value.ref 264, Value.bool Bool.true, Value.int 181 0, Value.ref 265, Value.none, Value.ref 266, Value.ref 267, Value.ref 268, Value.int 541 0, Value.int 198 0, Value.str (Str.ofString "/claim/cut.py") 542]) #[]),
  (270, o270.1),
  (271, Obj.mk (Value.type "tuple") Option.none (Data.seq #[]) #[]),
  (273, Obj.mk (Value.type "tuple") Option.none (Data.seq #[Value.str (Str.ofString "out") 547, Value.str (Str.ofString "bits") 548, Value.str (Str.ofString "rows") 549, Value.str (Str.ofString "is_last") 550, Value.str (Str.ofString "way") 551, Value.str (Str.ofString "literals") 552, Value.str (Str.ofString "distances") 553, Value.str (Str.ofString "part") 554]) #[]),
  (274, Obj.mk (Value.type "tuple") Option.none (Data.seq #[]) #[]),
  (276, Obj.mk (Value.type "code") Option.none (Data.fields #[Value.str (Str.ofString "inflate_into") 544, Value.str (Str.ofString "inflate_into") 545, Value.str (Str.ofString "/claim/cut.py") 546, Value.int 205 0, Value.int 2 0, Value.int 0 0, Value.int 0 0, Value.int 3 0, Value.ref 271, Value.bool Bool.true, Value.int 181 0, Value.ref 272, Value.none, Value.ref 273, Value.ref 274, Value.ref 275, Value.int 555 0, Value.int 205 0, Value.str (Str.ofString "/claim/cut.py") 556]) #[]),
  (277, o277.1),
  (278, Obj.mk (Value.type "tuple") Option.none (Data.seq #[Value.int 0 558]) #[]),
  (279, Obj.mk (Value.type "tuple") Option.none (Data.seq #[]) #[]),
  (281, Obj.mk (Value.type "tuple") Option.none (Data.seq #[Value.str (Str.ofString "data") 562, Value.str (Str.ofString "at") 563, Value.str (Str.ofString "bits") 564, Value.str (Str.ofString "out") 565]) #[]),
  (282, Obj.mk (Value.type "tuple") Option.none (Data.seq #[]) #[]),
  (284, Obj.mk (Value.type "code") Option.none (Data.fields #[Value.str (Str.ofString "inflate") 559, Value.str (Str.ofString "inflate") 560, Value.str (Str.ofString "/claim/cut.py") 561, Value.int 220 0, Value.int 2 0, Value.int 0 0, Value.int 0 0, Value.int 3 0, Value.ref 279, Value.bool Bool.true, Value.int 181 0, Value.ref 280, Value.none, Value.ref 281, Value.ref 282, Value.ref 283, Value.int 566 0, Value.int 220 0, Value.str (Str.ofString "/claim/cut.py") 567]) #[]),
  (285, o285.1),
  (286, Obj.mk (Value.type "tuple") Option.none (Data.seq #[Value.int 0 569]) #[]),
  (287, Obj.mk (Value.type "tuple") Option.none (Data.seq #[]) #[]),
  (289, Obj.mk (Value.type "tuple") Option.none (Data.seq #[Value.str (Str.ofString "data") 573, Value.str (Str.ofString "at") 574, Value.str (Str.ofString "bits") 575, Value.str (Str.ofString "rows") 576, Value.str (Str.ofString "blocks") 577, Value.str (Str.ofString "is_last") 578, Value.str (Str.ofString "way") 579, Value.str (Str.ofString "literals") 580, Value.str (Str.ofString "distances") 581, Value.str (Str.ofString "parts") 582, Value.str (Str.ofString "part") 583]) #[]),
  (290, Obj.mk (Value.type "tuple") Option.none (Data.seq #[]) #[]),
  (292, Obj.mk (Value.type "code") Option.none (Data.fields #[Value.str (Str.ofString "blocks_of") 570, Value.str (Str.ofString "blocks_of") 571, Value.str (Str.ofString "/claim/cut.py") 572, Value.int 225 0, Value.int 2 0, Value.int 0 0, Value.int 0 0, Value.int 3 0, Value.ref 287, Value.bool Bool.true, Value.int 181 0, Value.ref 288, Value.none, Value.ref 289, Value.ref 290, Value.ref 291, Value.int 584 0, Value.int 225 0, Value.str (Str.ofString "/claim/cut.py") 585]) #[]),
  (293, o293.1),
  (294, Obj.mk (Value.type "tuple") Option.none (Data.seq #[]) #[]),
  (296, Obj.mk (Value.type "tuple") Option.none (Data.seq #[Value.str (Str.ofString "source") 592, Value.str (Str.ofString "limit") 593, Value.str (Str.ofString "cells") 594, Value.str (Str.ofString "at") 595]) #[]),
  (297, Obj.mk (Value.type "tuple") Option.none (Data.seq #[]) #[]),
  (299, Obj.mk (Value.type "code") Option.none (Data.fields #[Value.str (Str.ofString "_law_draw") 589, Value.str (Str.ofString "_law_draw") 590, Value.str (Str.ofString "/claim/cut.py") 591, Value.int 246 0, Value.int 2 0, Value.int 0 0, Value.int 0 0, Value.int 3 0, Value.ref 294, Value.bool Bool.true, Value.int 181 0, Value.ref 295, Value.none, Value.ref 296, Value.ref 297, Value.ref 298, Value.int 596 0, Value.int 246 0, Value.str (Str.ofString "/claim/cut.py") 597]) #[]),
  (300, o300.1),
  (301, Obj.mk (Value.type "tuple") Option.none (Data.seq #[]) #[]),
  (304, Obj.mk (Value.type "code") Option.none (Data.fields #[Value.str (Str.ofString "_law_source") 599, Value.str (Str.ofString "_law_source") 600, Value.str (Str.ofString "/claim/cut.py") 601, Value.int 251 0, Value.int 1 0, Value.int 0 0, Value.int 0 0, Value.int 3 0, Value.ref 301, Value.bool Bool.true, Value.int 181 0, Value.ref 302, Value.none, Value.none, Value.none, Value.ref 303, Value.int 602 0, Value.int 251 0, Value.str (Str.ofString "/claim/cut.py") 603]) #[]),
  (305, o305.1),
  (306, Obj.mk (Value.type "tuple") Option.none (Data.seq #[]) #[]),
  (309, Obj.mk (Value.type "code") Option.none (Data.fields #[Value.str (Str.ofString "_law_low") 605, Value.str (Str.ofString "_law_low") 606, Value.str (Str.ofString "/claim/cut.py") 607, Value.int 254 0, Value.int 2 0, Value.int 0 0, Value.int 0 0, Value.int 3 0, Value.ref 306, Value.bool Bool.true, Value.int 181 0, Value.ref 307, Value.none, Value.none, Value.none, Value.ref 308, Value.int 608 0, Value.int 254 0, Value.str (Str.ofString "/claim/cut.py") 609]) #[]),
  (310, o310.1),
  (311, Obj.mk (Value.type "tuple") Option.none (Data.seq #[]) #[]),
  (314, Obj.mk (Value.type "code") Option.none (Data.fields #[Value.str (Str.ofString "_law_high") 611, Value.str (Str.ofString "_law_high") 612, Value.str (Str.ofString "/claim/cut.py") 613, Value.int 256 0, Value.int 2 0, Value.int 0 0, Value.int 0 0, Value.int 3 0, Value.ref 311, Value.bool Bool.true, Value.int 181 0, Value.ref 312, Value.none, Value.none, Value.none, Value.ref 313, Value.int 614 0, Value.int 256 0, Value.str (Str.ofString "/claim/cut.py") 615]) #[]),
  (315, o315.1),
  (316, Obj.mk (Value.type "tuple") Option.none (Data.seq #[]) #[]),
  (319, Obj.mk (Value.type "code") Option.none (Data.fields #[Value.str (Str.ofString "_law_row") 617, Value.str (Str.ofString "_law_row") 618, Value.str (Str.ofString "/claim/cut.py") 619, Value.int 258 0, Value.int 2 0, Value.int 0 0, Value.int 0 0, Value.int 3 0, Value.ref 316, Value.bool Bool.true, Value.int 181 0, Value.ref 317, Value.none, Value.none, Value.none, Value.ref 318, Value.int 620 0, Value.int 258 0, Value.str (Str.ofString "/claim/cut.py") 621]) #[]),
  (320, o320.1),
  (321, Obj.mk (Value.type "tuple") Option.none (Data.seq #[]) #[]),
  (323, Obj.mk (Value.type "tuple") Option.none (Data.seq #[Value.str (Str.ofString "symbol") 626]) #[]),
  (324, Obj.mk (Value.type "tuple") Option.none (Data.seq #[]) #[]),
  (326, Obj.mk (Value.type "code") Option.none (Data.fields #[Value.str (Str.ofString "_law_literal") 623, Value.str (Str.ofString "_law_literal") 624, Value.str (Str.ofString "/claim/cut.py") 625, Value.int 261 0, Value.int 1 0, Value.int 0 0, Value.int 0 0, Value.int 3 0, Value.ref 321, Value.bool Bool.true, Value.int 181 0, Value.ref 322, Value.none, Value.ref 323, Value.ref 324, Value.ref 325, Value.int 627 0, Value.int 261 0, Value.str (Str.ofString "/claim/cut.py") 628]) #[]),
  (327, o327.1),
  (328, Obj.mk (Value.type "tuple") Option.none (Data.seq #[]) #[]),
  (330, Obj.mk (Value.type "tuple") Option.none (Data.seq #[Value.str (Str.ofString "rows") 633, Value.str (Str.ofString "count") 634, Value.str (Str.ofString "base") 635, Value.str (Str.ofString "last") 636, Value.str (Str.ofString "place") 637]) #[]),
  (331, Obj.mk (Value.type "tuple") Option.none (Data.seq #[]) #[]),
  (333, Obj.mk (Value.type "code") Option.none (Data.fields #[Value.str (Str.ofString "_law_rows_are_right") 630, Value.str (Str.ofString "_law_rows_are_right") 631, Value.str (Str.ofString "/claim/cut.py") 632, Value.int 269 0, Value.int 4 0, Value.int 0 0, Value.int 0 0, Value.int 3 0, Value.ref 328, Value.bool Bool.true, Value.int 181 0, Value.ref 329, Value.none, Value.ref 330, Value.ref 331, Value.ref 332, Value.int 638 0, Value.int 269 0, Value.str (Str.ofString "/claim/cut.py") 639]) #[]),
  (334, o334.1),
  (335, Obj.mk (Value.type "tuple") Option.none (Data.seq #[]) #[]),
  (337, Obj.mk (Value.type "tuple") Option.none (Data.seq #[Value.str (Str.ofString "data") 644, Value.str (Str.ofString "at") 645]) #[]),
  (338, Obj.mk (Value.type "tuple") Option.none (Data.seq #[]) #[]),
  (340, Obj.mk (Value.type "code") Option.none (Data.fields #[Value.str (Str.ofString "_law_inflated") 641, Value.str (Str.ofString "_law_inflated") 642, Value.str (Str.ofString "/claim/cut.py") 643, Value.int 276 0, Value.int 2 0, Value.int 0 0, Value.int 0 0, Value.int 3 0, Value.ref 335, Value.bool Bool.true, Value.int 181 0, Value.ref 336, Value.none, Value.ref 337, Value.ref 338, Value.ref 339, Value.int 646 0, Value.int 276 0, Value.str (Str.ofString "/claim/cut.py") 647]) #[]),
  (341, o341.1),
  (342, Obj.mk (Value.type "tuple") Option.none (Data.seq #[]) #[]),
  (345, Obj.mk (Value.type "code") Option.none (Data.fields #[Value.str (Str.ofString "law") 649, Value.str (Str.ofString "law") 650, Value.str (Str.ofString "/claim/cut.py") 651, Value.int 281 0, Value.int 1 0, Value.int 0 0, Value.int 0 0, Value.int 3 0, Value.ref 342, Value.bool Bool.true, Value.int 181 0, Value.ref 343, Value.none, Value.none, Value.none, Value.ref 344, Value.int 652 0, Value.int 281 0, Value.str (Str.ofString "/claim/cut.py") 653]) #[]),
  (346, o346.1)]
end Mine
end

section
namespace Mine
open PySem PySem.W PySem.Calls PyProof.Rows
set_option maxRecDepth 1000000
set_option maxHeartbeats 0
noncomputable def u13 (P : Params) : Obj := Obj.mk (Value.type "code") Option.none (Data.fields #[Value.str (Str.ofString "<module>") 182, Value.str (Str.ofString "<module>") 183, Value.str (Str.ofString "/claim/cut.py") 184, Value.int 1 0, Value.int 0 0, Value.int 0 0, Value.int 0 0, Value.int 0 0, Value.ref 11, Value.bool Bool.false, Value.int 181 0, Value.ref 12, Value.none, Value.none, Value.none, Value.none, Value.int 185 0, Value.int 1 0, Value.str (Str.ofString "/claim/cut.py") 186]) #[]
noncomputable def u14 (P : Params) : Obj := Obj.mk (Value.type "frame") Option.none Data.plain #[Option.some (Value.ref 13), Option.some (Value.ref 3), Option.some (Value.ref 3), Option.none, Option.some (Value.str (Str.ofString "__main__") 164), Option.none, Option.some (Value.ref 0)]
noncomputable def T0 (P : Params) : BT := (.node (boot_o_0 P) (.node (boot_o_1 P) (.node (boot_o_3 P) (.node (boot_o_7 P) .nil .nil) (.node (Obj.mk (Value.type "tuple") Option.none (Data.seq #[]) #[]) .nil .nil)) (.node (boot_o_5 P) (.node (boot_o_9 P) .nil .nil) (.node (u13 P) .nil .nil))) (.node (boot_o_2 P) (.node (boot_o_4 P) (.node (boot_o_8 P) .nil .nil) (.node (Obj.mk Value.none Option.none (Data.fields #[]) #[]) .nil .nil)) (.node (boot_o_6 P) (.node (boot_o_10 P) .nil .nil) (.node (u14 P) .nil .nil))))
noncomputable def u2_1 (P : Params) : Obj := Obj.mk Value.none Option.none (Data.dict #[DictEntry.mk (PyData.keyHash P (Str.ofString "type.__subclasses__.Exception.0")) (Value.str (Str.ofString "type.__subclasses__.Exception.0") 225) (Value.int 39 0), DictEntry.mk (PyData.keyHash P (Str.ofString "type.__subclasses__.Exception.n")) (Value.str (Str.ofString "type.__subclasses__.Exception.n") 226) (Value.int 1 0)] 2) #[]
noncomputable def u3_1 (P : Params) : Obj := Obj.mk (Value.type "dict") Option.none (Data.dict #[DictEntry.mk (PyData.keyHash P (Str.ofString "__name__")) (Value.str (Str.ofString "__name__") 165) (Value.str (Str.ofString "paperhold.bits") 245), DictEntry.mk (PyData.keyHash P (Str.ofString "__doc__")) (Value.str (Str.ofString "__doc__") 166) Value.none, DictEntry.mk (PyData.keyHash P (Str.ofString "__package__")) (Value.str (Str.ofString "__package__") 167) Value.none, DictEntry.mk (PyData.keyHash P (Str.ofString "__loader__")) (Value.str (Str.ofString "__loader__") 168) (Value.builtin "__main__.__loader__#opaque"), DictEntry.mk (PyData.keyHash P (Str.ofString "__spec__")) (Value.str (Str.ofString "__spec__") 169) Value.none, DictEntry.mk (PyData.keyHash P (Str.ofString "__annotations__")) (Value.str (Str.ofString "__annotations__") 170) (Value.ref 6), DictEntry.mk (PyData.keyHash P (Str.ofString "__builtins__")) (Value.str (Str.ofString "__builtins__") 171) (Value.ref 4), DictEntry.mk (PyData.keyHash P (Str.ofString "__file__")) (Value.str (Str.ofString "__file__") 173) (Value.str (Str.ofString "/claim/cut.py") 172), DictEntry.mk (PyData.keyHash P (Str.ofString "__cached__")) (Value.str (Str.ofString "__cached__") 174) Value.none, DictEntry.mk (PyData.keyHash P (Str.ofString "PaperError")) (Value.str (Str.ofString "PaperError") 228) (Value.ref 39), DictEntry.mk (PyData.keyHash P (Str.ofString "FilterFault")) (Value.str (Str.ofString "FilterFault") 244) (Value.ref 52), DictEntry.mk (PyData.keyHash P (Str.ofString "OCTET")) (Value.str (Str.ofString "OCTET") 248) (Value.int 8 247), DictEntry.mk (PyData.keyHash P (Str.ofString "low_bits")) (Value.str (Str.ofString "low_bits") 256) (Value.ref 61)] 13) #[]
noncomputable def u17 (P : Params) : Obj := Obj.mk (Value.type "dict") Option.none (Data.dict #[DictEntry.mk (PyData.keyHash P (Str.ofString "__module__")) (Value.str (Str.ofString "__module__") 196) (Value.str (Str.ofString "paperhold.errors") 187), DictEntry.mk (PyData.keyHash P (Str.ofString "__qualname__")) (Value.str (Str.ofString "__qualname__") 198) (Value.str (Str.ofString "PaperError") 197), DictEntry.mk (PyData.keyHash P (Str.ofString "__firstlineno__")) (Value.str (Str.ofString "__firstlineno__") 200) (Value.int 2 199), DictEntry.mk (PyData.keyHash P (Str.ofString "__init__")) (Value.str (Str.ofString "__init__") 211) (Value.ref 29), DictEntry.mk (PyData.keyHash P (Str.ofString "told")) (Value.str (Str.ofString "told") 218) (Value.ref 36), DictEntry.mk (PyData.keyHash P (Str.ofString "__static_attributes__")) (Value.str (Str.ofString "__static_attributes__") 221) (Value.ref 37)] 6) #[]
noncomputable def u20 (P : Params) : Obj := Obj.mk (Value.type "code") Option.none (Data.fields #[Value.str (Str.ofString "PaperError") 191, Value.str (Str.ofString "PaperError") 192, Value.str (Str.ofString "/claim/cut.py") 193, Value.int 2 0, Value.int 0 0, Value.int 0 0, Value.int 0 0, Value.int 0 0, Value.ref 18, Value.bool Bool.false, Value.int 181 0, Value.ref 19, Value.none, Value.none, Value.none, Value.none, Value.int 194 0, Value.int 2 0, Value.str (Str.ofString "/claim/cut.py") 195]) #[]
noncomputable def u21 (P : Params) : Obj := Obj.mk (Value.type "frame") Option.none Data.plain #[Option.some (Value.ref 20), Option.some (Value.ref 3), Option.some (Value.ref 17), Option.none, Option.some (Value.str (Str.ofString "paperhold.errors") 187), Option.none, Option.some (Value.ref 0)]
noncomputable def u27 (P : Params) : Obj := fnAt (st (cls (st B 1)) 0) (fun a b s => Obj.mk Value.none Option.none (Data.func (FuncData.mk (Str.ofString "__init__") (Str.ofString "PaperError.__init__") a (FuncBody.stmts b) s 0 [] Value.none Value.none Value.none Value.none Option.none Value.none Value.none 0)) #[])
noncomputable def u28 (P : Params) : Obj := Obj.mk (Value.type "code") Option.none (Data.fields #[Value.str (Str.ofString "__init__") 203, Value.str (Str.ofString "PaperError.__init__") 204, Value.str (Str.ofString "/claim/cut.py") 205, Value.int 4 0, Value.int 3 0, Value.int 0 0, Value.int 0 0, Value.int 3 0, Value.ref 23, Value.bool Bool.true, Value.int 181 0, Value.ref 24, Value.none, Value.ref 25, Value.ref 26, Value.ref 27, Value.int 209 0, Value.int 4 0, Value.str (Str.ofString "/claim/cut.py") 210]) #[]
noncomputable def u34 (P : Params) : Obj := fnAt (st (cls (st B 1)) 1) (fun a b s => Obj.mk Value.none Option.none (Data.func (FuncData.mk (Str.ofString "told") (Str.ofString "PaperError.told") a (FuncBody.stmts b) s 0 [] Value.none Value.none Value.none Value.none Option.none Value.none Value.none 0)) #[])
noncomputable def u35 (P : Params) : Obj := Obj.mk (Value.type "code") Option.none (Data.fields #[Value.str (Str.ofString "told") 212, Value.str (Str.ofString "PaperError.told") 213, Value.str (Str.ofString "/claim/cut.py") 214, Value.int 9 0, Value.int 1 0, Value.int 0 0, Value.int 0 0, Value.int 3 0, Value.ref 30, Value.bool Bool.true, Value.int 181 0, Value.ref 31, Value.none, Value.ref 32, Value.ref 33, Value.ref 34, Value.int 216 0, Value.int 9 0, Value.str (Str.ofString "/claim/cut.py") 217]) #[]
noncomputable def u38 (P : Params) : Obj := Obj.mk (Value.type "dict") Option.none (Data.dict #[DictEntry.mk (PyData.keyHash P (Str.ofString "__module__")) (Value.str (Str.ofString "__module__") 196) (Value.str (Str.ofString "paperhold.errors") 187), DictEntry.mk (PyData.keyHash P (Str.ofString "__firstlineno__")) (Value.str (Str.ofString "__firstlineno__") 200) (Value.int 2 199), DictEntry.mk (PyData.keyHash P (Str.ofString "__init__")) (Value.str (Str.ofString "__init__") 211) (Value.ref 29), DictEntry.mk (PyData.keyHash P (Str.ofString "told")) (Value.str (Str.ofString "told") 218) (Value.ref 36), DictEntry.mk (PyData.keyHash P (Str.ofString "__static_attributes__")) (Value.str (Str.ofString "__static_attributes__") 221) (Value.ref 37), DictEntry.mk (PyData.keyHash P (Str.ofString "__weakref__")) (Value.str (Str.ofString "__weakref__") 223) (Value.ref 40), DictEntry.mk (PyData.keyHash P (Str.ofString "__doc__")) (Value.str (Str.ofString "__doc__") 224) Value.none] 3) #[]
noncomputable def u39 (P : Params) : Obj := Obj.mk (Value.type "type") Option.none (Data.cls (ClassData.mk (Str.ofString "PaperError") [Value.type "Exception"] [Value.ref 39, Value.type "Exception", Value.type "BaseException", Value.type "object"] 38 (Str.ofString "PaperError") Bool.true [] [Value.ref 52] Bool.false Option.none Bool.false)) #[Option.some (Value.ref 15), Option.none, Option.some (Value.str (Str.ofString "PaperError") 189), Option.some (Value.str (Str.ofString "PaperError") 197), Option.some (Value.builtin "Exception.__new__"), Option.some (Value.bool Bool.true)]
noncomputable def u45 (P : Params) : Obj := Obj.mk (Value.type "dict") Option.none (Data.dict #[DictEntry.mk (PyData.keyHash P (Str.ofString "__module__")) (Value.str (Str.ofString "__module__") 236) (Value.str (Str.ofString "paperhold.errors") 187), DictEntry.mk (PyData.keyHash P (Str.ofString "__qualname__")) (Value.str (Str.ofString "__qualname__") 238) (Value.str (Str.ofString "FilterFault") 237), DictEntry.mk (PyData.keyHash P (Str.ofString "__firstlineno__")) (Value.str (Str.ofString "__firstlineno__") 240) (Value.int 11 239), DictEntry.mk (PyData.keyHash P (Str.ofString "__static_attributes__")) (Value.str (Str.ofString "__static_attributes__") 241) (Value.ref 50)] 4) #[]
noncomputable def u48 (P : Params) : Obj := Obj.mk (Value.type "code") Option.none (Data.fields #[Value.str (Str.ofString "FilterFault") 231, Value.str (Str.ofString "FilterFault") 232, Value.str (Str.ofString "/claim/cut.py") 233, Value.int 11 0, Value.int 0 0, Value.int 0 0, Value.int 0 0, Value.int 0 0, Value.ref 46, Value.bool Bool.false, Value.int 181 0, Value.ref 47, Value.none, Value.none, Value.none, Value.none, Value.int 234 0, Value.int 11 0, Value.str (Str.ofString "/claim/cut.py") 235]) #[]
noncomputable def u49 (P : Params) : Obj := Obj.mk (Value.type "frame") Option.none Data.plain #[Option.some (Value.ref 48), Option.some (Value.ref 3), Option.some (Value.ref 45), Option.none, Option.some (Value.str (Str.ofString "paperhold.errors") 187), Option.none, Option.some (Value.ref 0)]
noncomputable def u51 (P : Params) : Obj := Obj.mk (Value.type "dict") Option.none (Data.dict #[DictEntry.mk (PyData.keyHash P (Str.ofString "__module__")) (Value.str (Str.ofString "__module__") 236) (Value.str (Str.ofString "paperhold.errors") 187), DictEntry.mk (PyData.keyHash P (Str.ofString "__firstlineno__")) (Value.str (Str.ofString "__firstlineno__") 240) (Value.int 11 239), DictEntry.mk (PyData.keyHash P (Str.ofString "__static_attributes__")) (Value.str (Str.ofString "__static_attributes__") 241) (Value.ref 50), DictEntry.mk (PyData.keyHash P (Str.ofString "__doc__")) (Value.str (Str.ofString "__doc__") 242) Value.none] 2) #[]
noncomputable def u52 (P : Params) : Obj := Obj.mk (Value.type "type") Option.none (Data.cls (ClassData.mk (Str.ofString "FilterFault") [Value.ref 39] [Value.ref 52, Value.ref 39, Value.type "Exception", Value.type "BaseException", Value.type "object"] 51 (Str.ofString "FilterFault") Bool.true [] [] Bool.false Option.none Bool.false)) #[Option.some (Value.ref 43), Option.none, Option.some (Value.str (Str.ofString "FilterFault") 229), Option.some (Value.str (Str.ofString "FilterFault") 237), Option.some (Value.builtin "Exception.__new__"), Option.some (Value.bool Bool.true)]
noncomputable def u59 (P : Params) : Obj := fnAt (st B 5) (fun a b s => Obj.mk Value.none Option.none (Data.func (FuncData.mk (Str.ofString "low_bits") (Str.ofString "low_bits") a (FuncBody.stmts b) s 0 [] Value.none Value.none Value.none Value.none Option.none Value.none Value.none 0)) #[])
noncomputable def u60 (P : Params) : Obj := Obj.mk (Value.type "code") Option.none (Data.fields #[Value.str (Str.ofString "low_bits") 249, Value.str (Str.ofString "low_bits") 250, Value.str (Str.ofString "/claim/cut.py") 251, Value.int 15 0, Value.int 2 0, Value.int 0 0, Value.int 0 0, Value.int 3 0, Value.ref 55, Value.bool Bool.true, Value.int 181 0, Value.ref 56, Value.none, Value.ref 57, Value.ref 58, Value.ref 59, Value.int 254 0, Value.int 15 0, Value.str (Str.ofString "/claim/cut.py") 255]) #[]
noncomputable def T1 (P : Params) : BT := (.node (boot_o_0 P) (.node (boot_o_1 P) (.node (u3_1 P) (.node (boot_o_7 P) (.node (Obj.mk (Value.type "tuple") Option.none (Data.seq #[Value.type "Exception"]) #[]) (.node (Obj.mk Value.none Option.none (Data.fields #[]) #[]) .nil .nil) (.node (Obj.mk Value.none Option.none (Data.fields #[]) #[]) .nil .nil)) (.node (Obj.mk (Value.type "tuple") Option.none (Data.seq #[]) #[]) (.node (u39 P) .nil .nil) (.node (Obj.mk (Value.type "tuple") Option.none (Data.seq #[]) #[]) .nil .nil))) (.node (Obj.mk (Value.type "tuple") Option.none (Data.seq #[]) #[]) (.node (Obj.mk Value.none Option.none (Data.fields #[Value.int 4 0, Value.int 4 0, Value.ref 28, Value.int 9 0, Value.int 4 0, Value.ref 35]) #[]) (.node (u35 P) .nil .nil) (.node (u51 P) .nil .nil)) (.node (u27 P) (.node (Obj.mk (Value.type "tuple") Option.none (Data.seq #[Value.ref 39]) #[]) .nil .nil) (.node (u59 P) .nil .nil)))) (.node (boot_o_5 P) (.node (boot_o_9 P) (.node (u17 P) (.node (Obj.mk (Value.type "tuple") Option.none (Data.seq #[]) #[]) .nil .nil) (.node (u49 P) .nil .nil)) (.node (Obj.mk (Value.type "tuple") Option.none (Data.seq #[Value.str (Str.ofString "self") 206, Value.str (Str.ofString "what") 207, Value.str (Str.ofString "at") 208]) #[]) (.node (Obj.mk (Value.type "super") Option.none (Data.fields #[Value.ref 39, Value.ref 39, Value.ref 39]) #[]) .nil .nil) (.node (Obj.mk (Value.type "tuple") Option.none (Data.seq #[Value.str (Str.ofString "value") 252, Value.str (Str.ofString "count") 253]) #[]) .nil .nil))) (.node (u13 P) (.node (u21 P) (.node (Obj.mk (Value.type "tuple") Option.none (Data.seq #[Value.str (Str.ofString "at") 219, Value.str (Str.ofString "what") 220]) #[]) .nil .nil) (.node (Obj.mk (Value.type "super") Option.none (Data.fields #[Value.ref 52, Value.ref 52, Value.ref 52]) #[]) .nil .nil)) (.node (o29.1) (.node (u45 P) .nil .nil) (.node (o61.1) .nil .nil))))) (.node (u2_1 P) (.node (boot_o_4 P) (.node (boot_o_8 P) (.node (Obj.mk (Value.type "builtin_function_or_method") Option.none (Data.fields #[Value.builtin "type.__prepare__", Value.type "type"]) #[]) (.node (Obj.mk (Value.type "tuple") Option.none (Data.seq #[Value.str (Str.ofString "self") 215]) #[]) .nil .nil) (.node (u48 P) .nil .nil)) (.node (Obj.mk Value.none Option.none (Data.fields #[]) #[]) (.node (Obj.mk (Value.type "getset_descriptor") Option.none (Data.fields #[Value.str (Str.ofString "__weakref__") 222, Value.ref 39, Value.builtin "ExceptionGroup.__weakref__", Value.none]) #[]) .nil .nil) (.node (Obj.mk Value.none Option.none (Data.fields #[]) #[]) .nil .nil))) (.node (Obj.mk Value.none Option.none (Data.fields #[Value.int 2 0, Value.int 0 0, Value.ref 20, Value.int 11 0, Value.int 0 0, Value.ref 48, Value.int 15 0, Value.int 0 0, Value.ref 60]) #[]) (.node (u20 P) (.node (o36.1) .nil .nil) (.node (u52 P) .nil .nil)) (.node (u28 P) (.node (Obj.mk (Value.type "builtin_function_or_method") Option.none (Data.fields #[Value.builtin "type.__prepare__", Value.type "type"]) #[]) .nil .nil) (.node (u60 P) .nil .nil)))) (.node (boot_o_6 P) (.node (boot_o_10 P) (.node (Obj.mk (Value.type "tuple") Option.none (Data.seq #[]) #[]) (.node (u34 P) .nil .nil) (.node (Obj.mk (Value.type "tuple") Option.none (Data.seq #[]) #[]) .nil .nil)) (.node (Obj.mk (Value.type "tuple") Option.none (Data.seq #[]) #[]) (.node (Obj.mk (Value.type "builtin_function_or_method") Option.none (Data.fields #[Value.builtin "object.__init_subclass__", Value.ref 39]) #[]) .nil .nil) (.node (Obj.mk (Value.type "tuple") Option.none (Data.seq #[]) #[]) .nil .nil))) (.node (u14 P) (.node (Obj.mk (Value.type "tuple") Option.none (Data.seq #[Value.int (-1) 202]) #[]) (.node (u38 P) .nil .nil) (.node (Obj.mk (Value.type "builtin_function_or_method") Option.none (Data.fields #[Value.builtin "object.__init_subclass__", Value.ref 52]) #[]) .nil .nil)) (.node (Obj.mk (Value.type "tuple") Option.none (Data.seq #[]) #[]) (.node (Obj.mk (Value.type "tuple") Option.none (Data.seq #[]) #[]) .nil .nil) .nil)))))
noncomputable def u3_2 (P : Params) : Obj := Obj.mk (Value.type "dict") Option.none (Data.dict #[DictEntry.mk (PyData.keyHash P (Str.ofString "__name__")) (Value.str (Str.ofString "__name__") 165) (Value.str (Str.ofString "paperhold.huffman") 330), DictEntry.mk (PyData.keyHash P (Str.ofString "__doc__")) (Value.str (Str.ofString "__doc__") 166) Value.none, DictEntry.mk (PyData.keyHash P (Str.ofString "__package__")) (Value.str (Str.ofString "__package__") 167) Value.none, DictEntry.mk (PyData.keyHash P (Str.ofString "__loader__")) (Value.str (Str.ofString "__loader__") 168) (Value.builtin "__main__.__loader__#opaque"), DictEntry.mk (PyData.keyHash P (Str.ofString "__spec__")) (Value.str (Str.ofString "__spec__") 169) Value.none, DictEntry.mk (PyData.keyHash P (Str.ofString "__annotations__")) (Value.str (Str.ofString "__annotations__") 170) (Value.ref 6), DictEntry.mk (PyData.keyHash P (Str.ofString "__builtins__")) (Value.str (Str.ofString "__builtins__") 171) (Value.ref 4), DictEntry.mk (PyData.keyHash P (Str.ofString "__file__")) (Value.str (Str.ofString "__file__") 173) (Value.str (Str.ofString "/claim/cut.py") 172), DictEntry.mk (PyData.keyHash P (Str.ofString "__cached__")) (Value.str (Str.ofString "__cached__") 174) Value.none, DictEntry.mk (PyData.keyHash P (Str.ofString "PaperError")) (Value.str (Str.ofString "PaperError") 228) (Value.ref 39), DictEntry.mk (PyData.keyHash P (Str.ofString "FilterFault")) (Value.str (Str.ofString "FilterFault") 244) (Value.ref 52), DictEntry.mk (PyData.keyHash P (Str.ofString "OCTET")) (Value.str (Str.ofString "OCTET") 248) (Value.int 8 247), DictEntry.mk (PyData.keyHash P (Str.ofString "low_bits")) (Value.str (Str.ofString "low_bits") 256) (Value.ref 61), DictEntry.mk (PyData.keyHash P (Str.ofString "BitsIn")) (Value.str (Str.ofString "BitsIn") 329) (Value.ref 114), DictEntry.mk (PyData.keyHash P (Str.ofString "greatest_length")) (Value.str (Str.ofString "greatest_length") 338) (Value.ref 125), DictEntry.mk (PyData.keyHash P (Str.ofString "tally_of")) (Value.str (Str.ofString "tally_of") 347) (Value.ref 132), DictEntry.mk (PyData.keyHash P (Str.ofString "room_left")) (Value.str (Str.ofString "room_left") 356) (Value.ref 139), DictEntry.mk (PyData.keyHash P (Str.ofString "is_full")) (Value.str (Str.ofString "is_full") 363) (Value.ref 146), DictEntry.mk (PyData.keyHash P (Str.ofString "is_over")) (Value.str (Str.ofString "is_over") 370) (Value.ref 153), DictEntry.mk (PyData.keyHash P (Str.ofString "symbols_of")) (Value.str (Str.ofString "symbols_of") 376) (Value.ref 158), DictEntry.mk (PyData.keyHash P (Str.ofString "Decoder")) (Value.str (Str.ofString "Decoder") 418) (Value.ref 182)] 21) #[]
noncomputable def u12_2 (P : Params) : Obj := Obj.mk Value.none Option.none (Data.fields #[Value.int 2 0, Value.int 0 0, Value.ref 20, Value.int 11 0, Value.int 0 0, Value.ref 48, Value.int 15 0, Value.int 0 0, Value.ref 60, Value.int 17 0, Value.int 0 0, Value.ref 67, Value.int 53 0, Value.int 0 0, Value.ref 124, Value.int 55 0, Value.int 0 0, Value.ref 131, Value.int 61 0, Value.int 0 0, Value.ref 138, Value.int 66 0, Value.int 0 0, Value.ref 145, Value.int 68 0, Value.int 0 0, Value.ref 152, Value.int 70 0, Value.int 0 0, Value.ref 157, Value.int 78 0, Value.int 0 0, Value.ref 164]) #[]
noncomputable def u64 (P : Params) : Obj := Obj.mk (Value.type "dict") Option.none (Data.dict #[DictEntry.mk (PyData.keyHash P (Str.ofString "__module__")) (Value.str (Str.ofString "__module__") 264) (Value.str (Str.ofString "paperhold.bits") 245), DictEntry.mk (PyData.keyHash P (Str.ofString "__qualname__")) (Value.str (Str.ofString "__qualname__") 266) (Value.str (Str.ofString "BitsIn") 265), DictEntry.mk (PyData.keyHash P (Str.ofString "__firstlineno__")) (Value.str (Str.ofString "__firstlineno__") 268) (Value.int 17 267), DictEntry.mk (PyData.keyHash P (Str.ofString "__init__")) (Value.str (Str.ofString "__init__") 278) (Value.ref 76), DictEntry.mk (PyData.keyHash P (Str.ofString "left")) (Value.str (Str.ofString "left") 285) (Value.ref 83), DictEntry.mk (PyData.keyHash P (Str.ofString "need")) (Value.str (Str.ofString "need") 293) (Value.ref 90), DictEntry.mk (PyData.keyHash P (Str.ofString "take")) (Value.str (Str.ofString "take") 302) (Value.ref 97), DictEntry.mk (PyData.keyHash P (Str.ofString "align")) (Value.str (Str.ofString "align") 309) (Value.ref 104), DictEntry.mk (PyData.keyHash P (Str.ofString "octets")) (Value.str (Str.ofString "octets") 317) (Value.ref 111), DictEntry.mk (PyData.keyHash P (Str.ofString "__static_attributes__")) (Value.str (Str.ofString "__static_attributes__") 322) (Value.ref 112)] 10) #[]
noncomputable def u66 (P : Params) : Obj := Obj.mk Value.none Option.none (Data.fields #[Value.int 19 0, Value.int 4 0, Value.ref 75, Value.int 25 0, Value.int 4 0, Value.ref 82, Value.int 28 0, Value.int 4 0, Value.ref 89, Value.int 32 0, Value.int 4 0, Value.ref 96, Value.int 43 0, Value.int 4 0, Value.ref 103, Value.int 47 0, Value.int 4 0, Value.ref 110]) #[]
noncomputable def u67 (P : Params) : Obj := Obj.mk (Value.type "code") Option.none (Data.fields #[Value.str (Str.ofString "BitsIn") 259, Value.str (Str.ofString "BitsIn") 260, Value.str (Str.ofString "/claim/cut.py") 261, Value.int 17 0, Value.int 0 0, Value.int 0 0, Value.int 0 0, Value.int 0 0, Value.ref 65, Value.bool Bool.false, Value.int 181 0, Value.ref 66, Value.none, Value.none, Value.none, Value.none, Value.int 262 0, Value.int 17 0, Value.str (Str.ofString "/claim/cut.py") 263]) #[]
noncomputable def u68 (P : Params) : Obj := Obj.mk (Value.type "frame") Option.none Data.plain #[Option.some (Value.ref 67), Option.some (Value.ref 3), Option.some (Value.ref 64), Option.none, Option.some (Value.str (Str.ofString "paperhold.bits") 245), Option.none, Option.some (Value.ref 0)]
noncomputable def u74 (P : Params) : Obj := fnAt (st (cls (st B 6)) 0) (fun a b s => Obj.mk Value.none Option.none (Data.func (FuncData.mk (Str.ofString "__init__") (Str.ofString "BitsIn.__init__") a (FuncBody.stmts b) s 0 [] Value.none Value.none Value.none Value.none Option.none Value.none Value.none 0)) #[])
noncomputable def u75 (P : Params) : Obj := Obj.mk (Value.type "code") Option.none (Data.fields #[Value.str (Str.ofString "__init__") 270, Value.str (Str.ofString "BitsIn.__init__") 271, Value.str (Str.ofString "/claim/cut.py") 272, Value.int 19 0, Value.int 3 0, Value.int 0 0, Value.int 0 0, Value.int 3 0, Value.ref 70, Value.bool Bool.true, Value.int 181 0, Value.ref 71, Value.none, Value.ref 72, Value.ref 73, Value.ref 74, Value.int 276 0, Value.int 19 0, Value.str (Str.ofString "/claim/cut.py") 277]) #[]
noncomputable def u81 (P : Params) : Obj := fnAt (st (cls (st B 6)) 1) (fun a b s => Obj.mk Value.none Option.none (Data.func (FuncData.mk (Str.ofString "left") (Str.ofString "BitsIn.left") a (FuncBody.stmts b) s 0 [] Value.none Value.none Value.none Value.none Option.none Value.none Value.none 0)) #[])
noncomputable def u82 (P : Params) : Obj := Obj.mk (Value.type "code") Option.none (Data.fields #[Value.str (Str.ofString "left") 279, Value.str (Str.ofString "BitsIn.left") 280, Value.str (Str.ofString "/claim/cut.py") 281, Value.int 25 0, Value.int 1 0, Value.int 0 0, Value.int 0 0, Value.int 3 0, Value.ref 77, Value.bool Bool.true, Value.int 181 0, Value.ref 78, Value.none, Value.ref 79, Value.ref 80, Value.ref 81, Value.int 283 0, Value.int 25 0, Value.str (Str.ofString "/claim/cut.py") 284]) #[]
noncomputable def u88 (P : Params) : Obj := fnAt (st (cls (st B 6)) 2) (fun a b s => Obj.mk Value.none Option.none (Data.func (FuncData.mk (Str.ofString "need") (Str.ofString "BitsIn.need") a (FuncBody.stmts b) s 0 [] Value.none Value.none Value.none Value.none Option.none Value.none Value.none 0)) #[])
noncomputable def u89 (P : Params) : Obj := Obj.mk (Value.type "code") Option.none (Data.fields #[Value.str (Str.ofString "need") 286, Value.str (Str.ofString "BitsIn.need") 287, Value.str (Str.ofString "/claim/cut.py") 288, Value.int 28 0, Value.int 2 0, Value.int 0 0, Value.int 0 0, Value.int 3 0, Value.ref 84, Value.bool Bool.true, Value.int 181 0, Value.ref 85, Value.none, Value.ref 86, Value.ref 87, Value.ref 88, Value.int 291 0, Value.int 28 0, Value.str (Str.ofString "/claim/cut.py") 292]) #[]
noncomputable def u95 (P : Params) : Obj := fnAt (st (cls (st B 6)) 3) (fun a b s => Obj.mk Value.none Option.none (Data.func (FuncData.mk (Str.ofString "take") (Str.ofString "BitsIn.take") a (FuncBody.stmts b) s 0 [] Value.none Value.none Value.none Value.none Option.none Value.none Value.none 0)) #[])
noncomputable def u96 (P : Params) : Obj := Obj.mk (Value.type "code") Option.none (Data.fields #[Value.str (Str.ofString "take") 294, Value.str (Str.ofString "BitsIn.take") 295, Value.str (Str.ofString "/claim/cut.py") 296, Value.int 32 0, Value.int 2 0, Value.int 0 0, Value.int 0 0, Value.int 3 0, Value.ref 91, Value.bool Bool.true, Value.int 181 0, Value.ref 92, Value.none, Value.ref 93, Value.ref 94, Value.ref 95, Value.int 300 0, Value.int 32 0, Value.str (Str.ofString "/claim/cut.py") 301]) #[]
noncomputable def u102 (P : Params) : Obj := fnAt (st (cls (st B 6)) 4) (fun a b s => Obj.mk Value.none Option.none (Data.func (FuncData.mk (Str.ofString "align") (Str.ofString "BitsIn.align") a (FuncBody.stmts b) s 0 [] Value.none Value.none Value.none Value.none Option.none Value.none Value.none 0)) #[])
noncomputable def u103 (P : Params) : Obj := Obj.mk (Value.type "code") Option.none (Data.fields #[Value.str (Str.ofString "align") 303, Value.str (Str.ofString "BitsIn.align") 304, Value.str (Str.ofString "/claim/cut.py") 305, Value.int 43 0, Value.int 1 0, Value.int 0 0, Value.int 0 0, Value.int 3 0, Value.ref 98, Value.bool Bool.true, Value.int 181 0, Value.ref 99, Value.none, Value.ref 100, Value.ref 101, Value.ref 102, Value.int 307 0, Value.int 43 0, Value.str (Str.ofString "/claim/cut.py") 308]) #[]
noncomputable def u109 (P : Params) : Obj := fnAt (st (cls (st B 6)) 5) (fun a b s => Obj.mk Value.none Option.none (Data.func (FuncData.mk (Str.ofString "octets") (Str.ofString "BitsIn.octets") a (FuncBody.stmts b) s 0 [] Value.none Value.none Value.none Value.none Option.none Value.none Value.none 0)) #[])
noncomputable def u110 (P : Params) : Obj := Obj.mk (Value.type "code") Option.none (Data.fields #[Value.str (Str.ofString "octets") 310, Value.str (Str.ofString "BitsIn.octets") 311, Value.str (Str.ofString "/claim/cut.py") 312, Value.int 47 0, Value.int 2 0, Value.int 0 0, Value.int 0 0, Value.int 3 0, Value.ref 105, Value.bool Bool.true, Value.int 181 0, Value.ref 106, Value.none, Value.ref 107, Value.ref 108, Value.ref 109, Value.int 315 0, Value.int 47 0, Value.str (Str.ofString "/claim/cut.py") 316]) #[]
noncomputable def u112 (P : Params) : Obj := Obj.mk (Value.type "tuple") Option.none (Data.seq #[Value.str (Str.ofString "at") 318, Value.str (Str.ofString "count") 319, Value.str (Str.ofString "data") 320, Value.str (Str.ofString "held") 321]) #[]
noncomputable def u113 (P : Params) : Obj := Obj.mk (Value.type "dict") Option.none (Data.dict #[DictEntry.mk (PyData.keyHash P (Str.ofString "__module__")) (Value.str (Str.ofString "__module__") 264) (Value.str (Str.ofString "paperhold.bits") 245), DictEntry.mk (PyData.keyHash P (Str.ofString "__firstlineno__")) (Value.str (Str.ofString "__firstlineno__") 268) (Value.int 17 267), DictEntry.mk (PyData.keyHash P (Str.ofString "__init__")) (Value.str (Str.ofString "__init__") 278) (Value.ref 76), DictEntry.mk (PyData.keyHash P (Str.ofString "left")) (Value.str (Str.ofString "left") 285) (Value.ref 83), DictEntry.mk (PyData.keyHash P (Str.ofString "need")) (Value.str (Str.ofString "need") 293) (Value.ref 90), DictEntry.mk (PyData.keyHash P (Str.ofString "take")) (Value.str (Str.ofString "take") 302) (Value.ref 97), DictEntry.mk (PyData.keyHash P (Str.ofString "align")) (Value.str (Str.ofString "align") 309) (Value.ref 104), DictEntry.mk (PyData.keyHash P (Str.ofString "octets")) (Value.str (Str.ofString "octets") 317) (Value.ref 111), DictEntry.mk (PyData.keyHash P (Str.ofString "__static_attributes__")) (Value.str (Str.ofString "__static_attributes__") 322) (Value.ref 112), DictEntry.mk (PyData.keyHash P (Str.ofString "__dict__")) (Value.str (Str.ofString "__dict__") 324) (Value.ref 115), DictEntry.mk (PyData.keyHash P (Str.ofString "__weakref__")) (Value.str (Str.ofString "__weakref__") 326) (Value.ref 116), DictEntry.mk (PyData.keyHash P (Str.ofString "__doc__")) (Value.str (Str.ofString "__doc__") 327) Value.none] 4) #[]
noncomputable def u114 (P : Params) : Obj := Obj.mk (Value.type "type") Option.none (Data.cls (ClassData.mk (Str.ofString "BitsIn") [Value.type "object"] [Value.ref 114, Value.type "object"] 113 (Str.ofString "BitsIn") Bool.true [] [] Bool.false Option.none Bool.false)) #[Option.none, Option.none, Option.some (Value.str (Str.ofString "BitsIn") 257), Option.some (Value.str (Str.ofString "BitsIn") 265), Option.some (Value.builtin "object.__new__"), Option.some (Value.bool Bool.true)]
noncomputable def u115 (P : Params) : Obj := Obj.mk (Value.type "getset_descriptor") Option.none (Data.fields #[Value.str (Str.ofString "__dict__") 323, Value.ref 114, Value.builtin "function.__dict__", Value.builtin "function.__dict__#set"]) #[]
noncomputable def u123 (P : Params) : Obj := fnAt (st B 8) (fun a b s => Obj.mk Value.none Option.none (Data.func (FuncData.mk (Str.ofString "greatest_length") (Str.ofString "greatest_length") a (FuncBody.stmts b) s 0 [] Value.none Value.none Value.none Value.none Option.none Value.none Value.none 0)) #[])
noncomputable def u124 (P : Params) : Obj := Obj.mk (Value.type "code") Option.none (Data.fields #[Value.str (Str.ofString "greatest_length") 332, Value.str (Str.ofString "greatest_length") 333, Value.str (Str.ofString "/claim/cut.py") 334, Value.int 53 0, Value.int 1 0, Value.int 0 0, Value.int 0 0, Value.int 3 0, Value.ref 119, Value.bool Bool.true, Value.int 181 0, Value.ref 120, Value.none, Value.ref 121, Value.ref 122, Value.ref 123, Value.int 336 0, Value.int 53 0, Value.str (Str.ofString "/claim/cut.py") 337]) #[]
noncomputable def u130 (P : Params) : Obj := fnAt (st B 9) (fun a b s => Obj.mk Value.none Option.none (Data.func (FuncData.mk (Str.ofString "tally_of") (Str.ofString "tally_of") a (FuncBody.stmts b) s 0 [] Value.none Value.none Value.none Value.none Option.none Value.none Value.none 0)) #[])
noncomputable def u131 (P : Params) : Obj := Obj.mk (Value.type "code") Option.none (Data.fields #[Value.str (Str.ofString "tally_of") 339, Value.str (Str.ofString "tally_of") 340, Value.str (Str.ofString "/claim/cut.py") 341, Value.int 55 0, Value.int 1 0, Value.int 0 0, Value.int 0 0, Value.int 3 0, Value.ref 126, Value.bool Bool.true, Value.int 181 0, Value.ref 127, Value.none, Value.ref 128, Value.ref 129, Value.ref 130, Value.int 345 0, Value.int 55 0, Value.str (Str.ofString "/claim/cut.py") 346]) #[]
noncomputable def u137 (P : Params) : Obj := fnAt (st B 10) (fun a b s => Obj.mk Value.none Option.none (Data.func (FuncData.mk (Str.ofString "room_left") (Str.ofString "room_left") a (FuncBody.stmts b) s 0 [] Value.none Value.none Value.none Value.none Option.none Value.none Value.none 0)) #[])
noncomputable def u138 (P : Params) : Obj := Obj.mk (Value.type "code") Option.none (Data.fields #[Value.str (Str.ofString "room_left") 348, Value.str (Str.ofString "room_left") 349, Value.str (Str.ofString "/claim/cut.py") 350, Value.int 61 0, Value.int 1 0, Value.int 0 0, Value.int 0 0, Value.int 3 0, Value.ref 133, Value.bool Bool.true, Value.int 181 0, Value.ref 134, Value.none, Value.ref 135, Value.ref 136, Value.ref 137, Value.int 354 0, Value.int 61 0, Value.str (Str.ofString "/claim/cut.py") 355]) #[]
noncomputable def u144 (P : Params) : Obj := fnAt (st B 11) (fun a b s => Obj.mk Value.none Option.none (Data.func (FuncData.mk (Str.ofString "is_full") (Str.ofString "is_full") a (FuncBody.stmts b) s 0 [] Value.none Value.none Value.none Value.none Option.none Value.none Value.none 0)) #[])
noncomputable def u145 (P : Params) : Obj := Obj.mk (Value.type "code") Option.none (Data.fields #[Value.str (Str.ofString "is_full") 357, Value.str (Str.ofString "is_full") 358, Value.str (Str.ofString "/claim/cut.py") 359, Value.int 66 0, Value.int 1 0, Value.int 0 0, Value.int 0 0, Value.int 3 0, Value.ref 140, Value.bool Bool.true, Value.int 181 0, Value.ref 141, Value.none, Value.ref 142, Value.ref 143, Value.ref 144, Value.int 361 0, Value.int 66 0, Value.str (Str.ofString "/claim/cut.py") 362]) #[]
noncomputable def u151 (P : Params) : Obj := fnAt (st B 12) (fun a b s => Obj.mk Value.none Option.none (Data.func (FuncData.mk (Str.ofString "is_over") (Str.ofString "is_over") a (FuncBody.stmts b) s 0 [] Value.none Value.none Value.none Value.none Option.none Value.none Value.none 0)) #[])
noncomputable def u152 (P : Params) : Obj := Obj.mk (Value.type "code") Option.none (Data.fields #[Value.str (Str.ofString "is_over") 364, Value.str (Str.ofString "is_over") 365, Value.str (Str.ofString "/claim/cut.py") 366, Value.int 68 0, Value.int 1 0, Value.int 0 0, Value.int 0 0, Value.int 3 0, Value.ref 147, Value.bool Bool.true, Value.int 181 0, Value.ref 148, Value.none, Value.ref 149, Value.ref 150, Value.ref 151, Value.int 368 0, Value.int 68 0, Value.str (Str.ofString "/claim/cut.py") 369]) #[]
noncomputable def u156 (P : Params) : Obj := fnAt (st B 13) (fun a b s => Obj.mk Value.none Option.none (Data.func (FuncData.mk (Str.ofString "symbols_of") (Str.ofString "symbols_of") a (FuncBody.stmts b) s 0 [] Value.none Value.none Value.none Value.none Option.none Value.none Value.none 0)) #[])
noncomputable def u157 (P : Params) : Obj := Obj.mk (Value.type "code") Option.none (Data.fields #[Value.str (Str.ofString "symbols_of") 371, Value.str (Str.ofString "symbols_of") 372, Value.str (Str.ofString "/claim/cut.py") 373, Value.int 70 0, Value.int 1 0, Value.int 0 0, Value.int 0 0, Value.int 3 0, Value.ref 154, Value.bool Bool.true, Value.int 181 0, Value.ref 155, Value.none, Value.none, Value.none, Value.ref 156, Value.int 374 0, Value.int 70 0, Value.str (Str.ofString "/claim/cut.py") 375]) #[]
noncomputable def u161 (P : Params) : Obj := Obj.mk (Value.type "dict") Option.none (Data.dict #[DictEntry.mk (PyData.keyHash P (Str.ofString "__module__")) (Value.str (Str.ofString "__module__") 384) (Value.str (Str.ofString "paperhold.huffman") 330), DictEntry.mk (PyData.keyHash P (Str.ofString "__qualname__")) (Value.str (Str.ofString "__qualname__") 386) (Value.str (Str.ofString "Decoder") 385), DictEntry.mk (PyData.keyHash P (Str.ofString "__firstlineno__")) (Value.str (Str.ofString "__firstlineno__") 388) (Value.int 78 387), DictEntry.mk (PyData.keyHash P (Str.ofString "__init__")) (Value.str (Str.ofString "__init__") 396) (Value.ref 172), DictEntry.mk (PyData.keyHash P (Str.ofString "read")) (Value.str (Str.ofString "read") 408) (Value.ref 179), DictEntry.mk (PyData.keyHash P (Str.ofString "__static_attributes__")) (Value.str (Str.ofString "__static_attributes__") 411) (Value.ref 180)] 6) #[]
noncomputable def u164 (P : Params) : Obj := Obj.mk (Value.type "code") Option.none (Data.fields #[Value.str (Str.ofString "Decoder") 379, Value.str (Str.ofString "Decoder") 380, Value.str (Str.ofString "/claim/cut.py") 381, Value.int 78 0, Value.int 0 0, Value.int 0 0, Value.int 0 0, Value.int 0 0, Value.ref 162, Value.bool Bool.false, Value.int 181 0, Value.ref 163, Value.none, Value.none, Value.none, Value.none, Value.int 382 0, Value.int 78 0, Value.str (Str.ofString "/claim/cut.py") 383]) #[]
noncomputable def u165 (P : Params) : Obj := Obj.mk (Value.type "frame") Option.none Data.plain #[Option.some (Value.ref 164), Option.some (Value.ref 3), Option.some (Value.ref 161), Option.none, Option.some (Value.str (Str.ofString "paperhold.huffman") 330), Option.none, Option.some (Value.ref 0)]
noncomputable def u170 (P : Params) : Obj := fnAt (st (cls (st B 14)) 0) (fun a b s => Obj.mk Value.none Option.none (Data.func (FuncData.mk (Str.ofString "__init__") (Str.ofString "Decoder.__init__") a (FuncBody.stmts b) s 0 [] Value.none Value.none Value.none Value.none Option.none Value.none Value.none 0)) #[])
noncomputable def u171 (P : Params) : Obj := Obj.mk (Value.type "code") Option.none (Data.fields #[Value.str (Str.ofString "__init__") 389, Value.str (Str.ofString "Decoder.__init__") 390, Value.str (Str.ofString "/claim/cut.py") 391, Value.int 80 0, Value.int 2 0, Value.int 0 0, Value.int 0 0, Value.int 3 0, Value.ref 166, Value.bool Bool.true, Value.int 181 0, Value.ref 167, Value.none, Value.ref 168, Value.ref 169, Value.ref 170, Value.int 394 0, Value.int 80 0, Value.str (Str.ofString "/claim/cut.py") 395]) #[]
noncomputable def u175 (P : Params) : Obj := Obj.mk (Value.type "tuple") Option.none (Data.seq #[Value.str (Str.ofString "self") 400, Value.str (Str.ofString "bits") 401, Value.str (Str.ofString "code") 402, Value.str (Str.ofString "first") 403, Value.str (Str.ofString "place") 404, Value.str (Str.ofString "taken") 405]) #[]
noncomputable def u177 (P : Params) : Obj := fnAt (st (cls (st B 14)) 1) (fun a b s => Obj.mk Value.none Option.none (Data.func (FuncData.mk (Str.ofString "read") (Str.ofString "Decoder.read") a (FuncBody.stmts b) s 0 [] Value.none Value.none Value.none Value.none Option.none Value.none Value.none 0)) #[])
noncomputable def u178 (P : Params) : Obj := Obj.mk (Value.type "code") Option.none (Data.fields #[Value.str (Str.ofString "read") 397, Value.str (Str.ofString "Decoder.read") 398, Value.str (Str.ofString "/claim/cut.py") 399, Value.int 86 0, Value.int 2 0, Value.int 0 0, Value.int 0 0, Value.int 3 0, Value.ref 173, Value.bool Bool.true, Value.int 181 0, Value.ref 174, Value.none, Value.ref 175, Value.ref 176, Value.ref 177, Value.int 406 0, Value.int 86 0, Value.str (Str.ofString "/claim/cut.py") 407]) #[]
noncomputable def u181 (P : Params) : Obj := Obj.mk (Value.type "dict") Option.none (Data.dict #[DictEntry.mk (PyData.keyHash P (Str.ofString "__module__")) (Value.str (Str.ofString "__module__") 384) (Value.str (Str.ofString "paperhold.huffman") 330), DictEntry.mk (PyData.keyHash P (Str.ofString "__firstlineno__")) (Value.str (Str.ofString "__firstlineno__") 388) (Value.int 78 387), DictEntry.mk (PyData.keyHash P (Str.ofString "__init__")) (Value.str (Str.ofString "__init__") 396) (Value.ref 172), DictEntry.mk (PyData.keyHash P (Str.ofString "read")) (Value.str (Str.ofString "read") 408) (Value.ref 179), DictEntry.mk (PyData.keyHash P (Str.ofString "__static_attributes__")) (Value.str (Str.ofString "__static_attributes__") 411) (Value.ref 180), DictEntry.mk (PyData.keyHash P (Str.ofString "__dict__")) (Value.str (Str.ofString "__dict__") 413) (Value.ref 183), DictEntry.mk (PyData.keyHash P (Str.ofString "__weakref__")) (Value.str (Str.ofString "__weakref__") 415) (Value.ref 184), DictEntry.mk (PyData.keyHash P (Str.ofString "__doc__")) (Value.str (Str.ofString "__doc__") 416) Value.none] 4) #[]
noncomputable def u182 (P : Params) : Obj := Obj.mk (Value.type "type") Option.none (Data.cls (ClassData.mk (Str.ofString "Decoder") [Value.type "object"] [Value.ref 182, Value.type "object"] 181 (Str.ofString "Decoder") Bool.true [] [] Bool.false Option.none Bool.false)) #[Option.none, Option.none, Option.some (Value.str (Str.ofString "Decoder") 377), Option.some (Value.str (Str.ofString "Decoder") 385), Option.some (Value.builtin "object.__new__"), Option.some (Value.bool Bool.true)]
noncomputable def u183 (P : Params) : Obj := Obj.mk (Value.type "getset_descriptor") Option.none (Data.fields #[Value.str (Str.ofString "__dict__") 412, Value.ref 182, Value.builtin "function.__dict__", Value.builtin "function.__dict__#set"]) #[]
noncomputable def T2 (P : Params) : BT := (.node (boot_o_0 P) (.node (boot_o_1 P) (.node (u3_2 P) (.node (boot_o_7 P) (.node (Obj.mk (Value.type "tuple") Option.none (Data.seq #[Value.type "Exception"]) #[]) (.node (Obj.mk Value.none Option.none (Data.fields #[]) #[]) (.node (Obj.mk (Value.type "builtin_function_or_method") Option.none (Data.fields #[Value.builtin "type.__prepare__", Value.type "type"]) #[]) (.node (Obj.mk Value.none Option.none (Data.fields #[]) #[]) .nil .nil) .nil) (.node (u95 P) (.node (Obj.mk (Value.type "tuple") Option.none (Data.seq #[]) #[]) .nil .nil) .nil)) (.node (Obj.mk Value.none Option.none (Data.fields #[]) #[]) (.node (Obj.mk (Value.type "tuple") Option.none (Data.seq #[Value.str (Str.ofString "self") 282]) #[]) (.node (Obj.mk (Value.type "tuple") Option.none (Data.seq #[]) #[]) .nil .nil) .nil) (.node (o111.1) (.node (u175 P) .nil .nil) .nil))) (.node (Obj.mk (Value.type "tuple") Option.none (Data.seq #[]) #[]) (.node (u39 P) (.node (Obj.mk Value.none Option.none (Data.fields #[]) #[]) (.node (Obj.mk (Value.type "tuple") Option.none (Data.seq #[Value.str (Str.ofString "lengths") 351, Value.str (Str.ofString "room") 352, Value.str (Str.ofString "taken") 353]) #[]) .nil .nil) .nil) (.node (u103 P) (.node (Obj.mk Value.none Option.none (Data.fields #[]) #[]) .nil .nil) .nil)) (.node (Obj.mk (Value.type "tuple") Option.none (Data.seq #[]) #[]) (.node (Obj.mk (Value.type "tuple") Option.none (Data.seq #[]) #[]) (.node (u151 P) .nil .nil) .nil) (.node (Obj.mk (Value.type "tuple") Option.none (Data.seq #[]) #[]) (.node (u183 P) .nil .nil) .nil)))) (.node (Obj.mk (Value.type "tuple") Option.none (Data.seq #[]) #[]) (.node (Obj.mk Value.none Option.none (Data.fields #[Value.int 4 0, Value.int 4 0, Value.ref 28, Value.int 9 0, Value.int 4 0, Value.ref 35]) #[]) (.node (u35 P) (.node (u67 P) (.node (u131 P) .nil .nil) .nil) (.node (Obj.mk Value.none Option.none (Data.fields #[]) #[]) (.node (Obj.mk Value.none Option.none (Data.fields #[Value.int 80 0, Value.int 4 0, Value.ref 171, Value.int 86 0, Value.int 4 0, Value.ref 178]) #[]) .nil .nil) .nil)) (.node (u51 P) (.node (o83.1) (.node (Obj.mk (Value.type "tuple") Option.none (Data.seq #[]) #[]) .nil .nil) .nil) (.node (u115 P) (.node (o179.1) .nil .nil) .nil))) (.node (u27 P) (.node (Obj.mk (Value.type "tuple") Option.none (Data.seq #[Value.ref 39]) #[]) (.node (u75 P) (.node (o139.1) .nil .nil) .nil) (.node (Obj.mk (Value.type "tuple") Option.none (Data.seq #[Value.str (Str.ofString "self") 313, Value.str (Str.ofString "count") 314]) #[]) (.node (u171 P) .nil .nil) .nil)) (.node (u59 P) (.node (Obj.mk (Value.type "tuple") Option.none (Data.seq #[]) #[]) (.node (Obj.mk Value.none Option.none (Data.fields #[]) #[]) .nil .nil) .nil) (.node (u123 P) .nil .nil))))) (.node (boot_o_5 P) (.node (boot_o_9 P) (.node (u17 P) (.node (Obj.mk (Value.type "tuple") Option.none (Data.seq #[]) #[]) (.node (Obj.mk (Value.type "tuple") Option.none (Data.seq #[]) #[]) (.node (Obj.mk (Value.type "tuple") Option.none (Data.seq #[]) #[]) .nil .nil) .nil) (.node (o97.1) (.node (u161 P) .nil .nil) .nil)) (.node (u49 P) (.node (u81 P) (.node (u145 P) .nil .nil) .nil) (.node (u113 P) (.node (u177 P) .nil .nil) .nil))) (.node (Obj.mk (Value.type "tuple") Option.none (Data.seq #[Value.str (Str.ofString "self") 206, Value.str (Str.ofString "what") 207, Value.str (Str.ofString "at") 208]) #[]) (.node (Obj.mk (Value.type "super") Option.none (Data.fields #[Value.ref 39, Value.ref 39, Value.ref 39]) #[]) (.node (Obj.mk (Value.type "tuple") Option.none (Data.seq #[]) #[]) (.node (u137 P) .nil .nil) .nil) (.node (Obj.mk (Value.type "tuple") Option.none (Data.seq #[]) #[]) (.node (Obj.mk (Value.type "tuple") Option.none (Data.seq #[]) #[]) .nil .nil) .nil)) (.node (Obj.mk (Value.type "tuple") Option.none (Data.seq #[Value.str (Str.ofString "value") 252, Value.str (Str.ofString "count") 253]) #[]) (.node (u89 P) (.node (o153.1) .nil .nil) .nil) (.node (Obj.mk (Value.type "tuple") Option.none (Data.seq #[Value.str (Str.ofString "lengths") 335]) #[]) (.node (Obj.mk (Value.type "super") Option.none (Data.fields #[Value.ref 182, Value.ref 182, Value.ref 182]) #[]) .nil .nil) .nil)))) (.node (u13 P) (.node (u21 P) (.node (Obj.mk (Value.type "tuple") Option.none (Data.seq #[Value.str (Str.ofString "at") 219, Value.str (Str.ofString "what") 220]) #[]) (.node (Obj.mk (Value.type "tuple") Option.none (Data.seq #[Value.int 0 269]) #[]) (.node (Obj.mk (Value.type "tuple") Option.none (Data.seq #[]) #[]) .nil .nil) .nil) (.node (Obj.mk (Value.type "tuple") Option.none (Data.seq #[]) #[]) (.node (u165 P) .nil .nil) .nil)) (.node (Obj.mk (Value.type "super") Option.none (Data.fields #[Value.ref 52, Value.ref 52, Value.ref 52]) #[]) (.node (Obj.mk Value.none Option.none (Data.fields #[]) #[]) (.node (Obj.mk (Value.type "tuple") Option.none (Data.seq #[Value.str (Str.ofString "lengths") 367]) #[]) .nil .nil) .nil) (.node (Obj.mk (Value.type "super") Option.none (Data.fields #[Value.ref 114, Value.ref 114, Value.ref 114]) #[]) (.node (u181 P) .nil .nil) .nil))) (.node (o29.1) (.node (u45 P) (.node (Obj.mk (Value.type "tuple") Option.none (Data.seq #[]) #[]) (.node (Obj.mk Value.none Option.none (Data.fields #[]) #[]) .nil .nil) .nil) (.node (u109 P) (.node (Obj.mk (Value.type "tuple") Option.none (Data.seq #[]) #[]) .nil .nil) .nil)) (.node (o61.1) (.node (Obj.mk (Value.type "tuple") Option.none (Data.seq #[Value.str (Str.ofString "self") 297, Value.str (Str.ofString "count") 298, Value.str (Str.ofString "value") 299]) #[]) (.node (u157 P) .nil .nil) .nil) (.node (o125.1) .nil .nil)))))) (.node (u2_1 P) (.node (boot_o_4 P) (.node (boot_o_8 P) (.node (Obj.mk (Value.type "builtin_function_or_method") Option.none (Data.fields #[Value.builtin "type.__prepare__", Value.type "type"]) #[]) (.node (Obj.mk (Value.type "tuple") Option.none (Data.seq #[Value.str (Str.ofString "self") 215]) #[]) (.node (u64 P) (.node (Obj.mk (Value.type "tuple") Option.none (Data.seq #[Value.str (Str.ofString "lengths") 342, Value.str (Str.ofString "tally") 343, Value.str (Str.ofString "length") 344]) #[]) .nil .nil) .nil) (.node (u96 P) (.node (Obj.mk (Value.type "builtin_function_or_method") Option.none (Data.fields #[Value.builtin "type.__prepare__", Value.type "type"]) #[]) .nil .nil) .nil)) (.node (u48 P) (.node (Obj.mk (Value.type "tuple") Option.none (Data.seq #[]) #[]) (.node (u144 P) .nil .nil) .nil) (.node (u112 P) (.node (Obj.mk (Value.type "tuple") Option.none (Data.seq #[]) #[]) .nil .nil) .nil))) (.node (Obj.mk Value.none Option.none (Data.fields #[]) #[]) (.node (Obj.mk (Value.type "getset_descriptor") Option.none (Data.fields #[Value.str (Str.ofString "__weakref__") 222, Value.ref 39, Value.builtin "ExceptionGroup.__weakref__", Value.none]) #[]) (.node (Obj.mk (Value.type "tuple") Option.none (Data.seq #[Value.str (Str.ofString "self") 273, Value.str (Str.ofString "data") 274, Value.str (Str.ofString "at") 275]) #[]) (.node (Obj.mk (Value.type "tuple") Option.none (Data.seq #[]) #[]) .nil .nil) .nil) (.node (o104.1) (.node (Obj.mk (Value.type "tuple") Option.none (Data.seq #[Value.str (Str.ofString "self") 392, Value.str (Str.ofString "lengths") 393]) #[]) .nil .nil) .nil)) (.node (Obj.mk Value.none Option.none (Data.fields #[]) #[]) (.node (u88 P) (.node (u152 P) .nil .nil) .nil) (.node (Obj.mk Value.none Option.none (Data.fields #[]) #[]) (.node (Obj.mk (Value.type "getset_descriptor") Option.none (Data.fields #[Value.str (Str.ofString "__weakref__") 414, Value.ref 182, Value.builtin "ExceptionGroup.__weakref__", Value.none]) #[]) .nil .nil) .nil)))) (.node (u12_2 P) (.node (u20 P) (.node (o36.1) (.node (u68 P) (.node (o132.1) .nil .nil) .nil) (.node (Obj.mk (Value.type "tuple") Option.none (Data.seq #[Value.str (Str.ofString "self") 306]) #[]) (.node (u164 P) .nil .nil) .nil)) (.node (u52 P) (.node (Obj.mk (Value.type "tuple") Option.none (Data.seq #[]) #[]) (.node (Obj.mk Value.none Option.none (Data.fields #[]) #[]) .nil .nil) .nil) (.node (Obj.mk (Value.type "getset_descriptor") Option.none (Data.fields #[Value.str (Str.ofString "__weakref__") 325, Value.ref 114, Value.builtin "ExceptionGroup.__weakref__", Value.none]) #[]) (.node (Obj.mk (Value.type "tuple") Option.none (Data.seq #[Value.str (Str.ofString "symbols") 409, Value.str (Str.ofString "tally") 410]) #[]) .nil .nil) .nil))) (.node (u28 P) (.node (Obj.mk (Value.type "builtin_function_or_method") Option.none (Data.fields #[Value.builtin "type.__prepare__", Value.type "type"]) #[]) (.node (o76.1) (.node (Obj.mk (Value.type "tuple") Option.none (Data.seq #[]) #[]) .nil .nil) .nil) (.node (Obj.mk (Value.type "tuple") Option.none (Data.seq #[]) #[]) (.node (o172.1) .nil .nil) .nil)) (.node (u60 P) (.node (Obj.mk Value.none Option.none (Data.fields #[]) #[]) (.node (u156 P) .nil .nil) .nil) (.node (u124 P) .nil .nil))))) (.node (boot_o_6 P) (.node (boot_o_10 P) (.node (Obj.mk (Value.type "tuple") Option.none (Data.seq #[]) #[]) (.node (u34 P) (.node (u66 P) (.node (u130 P) .nil .nil) .nil) (.node (Obj.mk (Value.type "tuple") Option.none (Data.seq #[]) #[]) (.node (Obj.mk (Value.type "tuple") Option.none (Data.seq #[]) #[]) .nil .nil) .nil)) (.node (Obj.mk (Value.type "tuple") Option.none (Data.seq #[]) #[]) (.node (u82 P) (.node (o146.1) .nil .nil) .nil) (.node (u114 P) (.node (u178 P) .nil .nil) .nil))) (.node (Obj.mk (Value.type "tuple") Option.none (Data.seq #[]) #[]) (.node (Obj.mk (Value.type "builtin_function_or_method") Option.none (Data.fields #[Value.builtin "object.__init_subclass__", Value.ref 39]) #[]) (.node (u74 P) (.node (u138 P) .nil .nil) .nil) (.node (Obj.mk Value.none Option.none (Data.fields #[]) #[]) (.node (u170 P) .nil .nil) .nil)) (.node (Obj.mk (Value.type "tuple") Option.none (Data.seq #[]) #[]) (.node (o90.1) (.node (Obj.mk (Value.type "tuple") Option.none (Data.seq #[]) #[]) .nil .nil) .nil) (.node (Obj.mk (Value.type "tuple") Option.none (Data.seq #[]) #[]) (.node (Obj.mk (Value.type "builtin_function_or_method") Option.none (Data.fields #[Value.builtin "object.__init_subclass__", Value.ref 182]) #[]) .nil .nil) .nil)))) (.node (u14 P) (.node (Obj.mk (Value.type "tuple") Option.none (Data.seq #[Value.int (-1) 202]) #[]) (.node (u38 P) (.node (Obj.mk (Value.type "tuple") Option.none (Data.seq #[]) #[]) (.node (Obj.mk Value.none Option.none (Data.fields #[]) #[]) .nil .nil) .nil) (.node (u102 P) (.node (Obj.mk (Value.type "tuple") Option.none (Data.seq #[]) #[]) .nil .nil) .nil)) (.node (Obj.mk (Value.type "builtin_function_or_method") Option.none (Data.fields #[Value.builtin "object.__init_subclass__", Value.ref 52]) #[]) (.node (Obj.mk (Value.type "tuple") Option.none (Data.seq #[Value.str (Str.ofString "self") 289, Value.str (Str.ofString "count") 290]) #[]) (.node (Obj.mk (Value.type "tuple") Option.none (Data.seq #[]) #[]) .nil .nil) .nil) (.node (Obj.mk (Value.type "builtin_function_or_method") Option.none (Data.fields #[Value.builtin "object.__init_subclass__", Value.ref 114]) #[]) (.node (u182 P) .nil .nil) .nil))) (.node (Obj.mk (Value.type "tuple") Option.none (Data.seq #[]) #[]) (.node (Obj.mk (Value.type "tuple") Option.none (Data.seq #[]) #[]) (.node (Obj.mk Value.none Option.none (Data.fields #[]) #[]) (.node (Obj.mk (Value.type "tuple") Option.none (Data.seq #[Value.str (Str.ofString "lengths") 360]) #[]) .nil .nil) .nil) (.node (u110 P) (.node (Obj.mk Value.none Option.none (Data.fields #[]) #[]) .nil .nil) .nil)) (.node (Obj.mk (Value.type "tuple") Option.none (Data.seq #[]) #[]) (.node (Obj.mk (Value.type "tuple") Option.none (Data.seq #[]) #[]) (.node (o158.1) .nil .nil) .nil) (.node (Obj.mk (Value.type "tuple") Option.none (Data.seq #[]) #[]) .nil .nil)))))))
noncomputable def T3 (P : Params) : BT := (.node (boot_o_0 P) (.node (boot_o_1 P) (.node (Obj.mk (Value.type "dict") Option.none (Data.dict #[DictEntry.mk (PyData.keyHash P (Str.ofString "__name__")) (Value.str (Str.ofString "__name__") 165) (Value.str (Str.ofString "law_nn0216_01") 587), DictEntry.mk (PyData.keyHash P (Str.ofString "__doc__")) (Value.str (Str.ofString "__doc__") 166) Value.none, DictEntry.mk (PyData.keyHash P (Str.ofString "__package__")) (Value.str (Str.ofString "__package__") 167) Value.none, DictEntry.mk (PyData.keyHash P (Str.ofString "__loader__")) (Value.str (Str.ofString "__loader__") 168) (Value.builtin "__main__.__loader__#opaque"), DictEntry.mk (PyData.keyHash P (Str.ofString "__spec__")) (Value.str (Str.ofString "__spec__") 169) Value.none, DictEntry.mk (PyData.keyHash P (Str.ofString "__annotations__")) (Value.str (Str.ofString "__annotations__") 170) (Value.ref 6), DictEntry.mk (PyData.keyHash P (Str.ofString "__builtins__")) (Value.str (Str.ofString "__builtins__") 171) (Value.ref 4), DictEntry.mk (PyData.keyHash P (Str.ofString "__file__")) (Value.str (Str.ofString "__file__") 173) (Value.str (Str.ofString "/claim/cut.py") 172), DictEntry.mk (PyData.keyHash P (Str.ofString "__cached__")) (Value.str (Str.ofString "__cached__") 174) Value.none, DictEntry.mk (PyData.keyHash P (Str.ofString "PaperError")) (Value.str (Str.ofString "PaperError") 228) (Value.ref 39), DictEntry.mk (PyData.keyHash P (Str.ofString "FilterFault")) (Value.str (Str.ofString "FilterFault") 244) (Value.ref 52), DictEntry.mk (PyData.keyHash P (Str.ofString "OCTET")) (Value.str (Str.ofString "OCTET") 248) (Value.int 8 247), DictEntry.mk (PyData.keyHash P (Str.ofString "low_bits")) (Value.str (Str.ofString "low_bits") 256) (Value.ref 61), DictEntry.mk (PyData.keyHash P (Str.ofString "BitsIn")) (Value.str (Str.ofString "BitsIn") 329) (Value.ref 114), DictEntry.mk (PyData.keyHash P (Str.ofString "greatest_length")) (Value.str (Str.ofString "greatest_length") 338) (Value.ref 125), DictEntry.mk (PyData.keyHash P (Str.ofString "tally_of")) (Value.str (Str.ofString "tally_of") 347) (Value.ref 132), DictEntry.mk (PyData.keyHash P (Str.ofString "room_left")) (Value.str (Str.ofString "room_left") 356) (Value.ref 139), DictEntry.mk (PyData.keyHash P (Str.ofString "is_full")) (Value.str (Str.ofString "is_full") 363) (Value.ref 146), DictEntry.mk (PyData.keyHash P (Str.ofString "is_over")) (Value.str (Str.ofString "is_over") 370) (Value.ref 153), DictEntry.mk (PyData.keyHash P (Str.ofString "symbols_of")) (Value.str (Str.ofString "symbols_of") 376) (Value.ref 158), DictEntry.mk (PyData.keyHash P (Str.ofString "Decoder")) (Value.str (Str.ofString "Decoder") 418) (Value.ref 182), DictEntry.mk (PyData.keyHash P (Str.ofString "END")) (Value.str (Str.ofString "END") 422) (Value.int 256 421), DictEntry.mk (PyData.keyHash P (Str.ofString "length_rows")) (Value.str (Str.ofString "length_rows") 433) (Value.ref 193), DictEntry.mk (PyData.keyHash P (Str.ofString "distance_rows")) (Value.str (Str.ofString "distance_rows") 444) (Value.ref 200), DictEntry.mk (PyData.keyHash P (Str.ofString "length_order")) (Value.str (Str.ofString "length_order") 452) (Value.ref 207), DictEntry.mk (PyData.keyHash P (Str.ofString "fixed_lengths")) (Value.str (Str.ofString "fixed_lengths") 458) (Value.ref 214), DictEntry.mk (PyData.keyHash P (Str.ofString "repeated")) (Value.str (Str.ofString "repeated") 467) (Value.ref 221), DictEntry.mk (PyData.keyHash P (Str.ofString "read_lengths")) (Value.str (Str.ofString "read_lengths") 484) (Value.ref 228), DictEntry.mk (PyData.keyHash P (Str.ofString "is_usable")) (Value.str (Str.ofString "is_usable") 491) (Value.ref 235), DictEntry.mk (PyData.keyHash P (Str.ofString "read_decoders")) (Value.str (Str.ofString "read_decoders") 500) (Value.ref 242), DictEntry.mk (PyData.keyHash P (Str.ofString "read_part")) (Value.str (Str.ofString "read_part") 513) (Value.ref 249), DictEntry.mk (PyData.keyHash P (Str.ofString "lay_part")) (Value.str (Str.ofString "lay_part") 525) (Value.ref 256), DictEntry.mk (PyData.keyHash P (Str.ofString "read_stored")) (Value.str (Str.ofString "read_stored") 533) (Value.ref 263), DictEntry.mk (PyData.keyHash P (Str.ofString "block_decoders")) (Value.str (Str.ofString "block_decoders") 543) (Value.ref 270), DictEntry.mk (PyData.keyHash P (Str.ofString "inflate_into")) (Value.str (Str.ofString "inflate_into") 557) (Value.ref 277), DictEntry.mk (PyData.keyHash P (Str.ofString "inflate")) (Value.str (Str.ofString "inflate") 568) (Value.ref 285), DictEntry.mk (PyData.keyHash P (Str.ofString "blocks_of")) (Value.str (Str.ofString "blocks_of") 586) (Value.ref 293), DictEntry.mk (PyData.keyHash P (Str.ofString "_law_draw")) (Value.str (Str.ofString "_law_draw") 598) (Value.ref 300), DictEntry.mk (PyData.keyHash P (Str.ofString "_law_source")) (Value.str (Str.ofString "_law_source") 604) (Value.ref 305), DictEntry.mk (PyData.keyHash P (Str.ofString "_law_low")) (Value.str (Str.ofString "_law_low") 610) (Value.ref 310), DictEntry.mk (PyData.keyHash P (Str.ofString "_law_high")) (Value.str (Str.ofString "_law_high") 616) (Value.ref 315), DictEntry.mk (PyData.keyHash P (Str.ofString "_law_row")) (Value.str (Str.ofString "_law_row") 622) (Value.ref 320), DictEntry.mk (PyData.keyHash P (Str.ofString "_law_literal")) (Value.str (Str.ofString "_law_literal") 629) (Value.ref 327), DictEntry.mk (PyData.keyHash P (Str.ofString "_law_rows_are_right")) (Value.str (Str.ofString "_law_rows_are_right") 640) (Value.ref 334), DictEntry.mk (PyData.keyHash P (Str.ofString "_law_inflated")) (Value.str (Str.ofString "_law_inflated") 648) (Value.ref 341), DictEntry.mk (PyData.keyHash P (Str.ofString "law")) (Value.str (Str.ofString "law") 654) (Value.ref 346)] 46) #[]) (.node (boot_o_7 P) (.node (Obj.mk (Value.type "tuple") Option.none (Data.seq #[Value.type "Exception"]) #[]) (.node (Obj.mk Value.none Option.none (Data.fields #[]) #[]) (.node (Obj.mk (Value.type "builtin_function_or_method") Option.none (Data.fields #[Value.builtin "type.__prepare__", Value.type "type"]) #[]) (.node (Obj.mk Value.none Option.none (Data.fields #[]) #[]) (.node (Obj.mk (Value.type "code") Option.none (Data.fields #[Value.str (Str.ofString "lay_part") 514, Value.str (Str.ofString "lay_part") 515, Value.str (Str.ofString "/claim/cut.py") 516, Value.int 183 0, Value.int 3 0, Value.int 0 0, Value.int 0 0, Value.int 3 0, Value.ref 250, Value.bool Bool.true, Value.int 181 0, Value.ref 251, Value.none, Value.ref 252, Value.ref 253, Value.ref 254, Value.int 523 0, Value.int 183 0, Value.str (Str.ofString "/claim/cut.py") 524]) #[]) .nil .nil) .nil) (.node (fnAt (st B 17) (fun a b s => Obj.mk Value.none Option.none (Data.func (FuncData.mk (Str.ofString "length_rows") (Str.ofString "length_rows") a (FuncBody.stmts b) s 0 [] Value.none Value.none Value.none Value.none Option.none Value.none Value.none 0)) #[])) (.node (Obj.mk (Value.type "code") Option.none (Data.fields #[Value.str (Str.ofString "_law_row") 617, Value.str (Str.ofString "_law_row") 618, Value.str (Str.ofString "/claim/cut.py") 619, Value.int 258 0, Value.int 2 0, Value.int 0 0, Value.int 0 0, Value.int 3 0, Value.ref 316, Value.bool Bool.true, Value.int 181 0, Value.ref 317, Value.none, Value.none, Value.none, Value.ref 318, Value.int 620 0, Value.int 258 0, Value.str (Str.ofString "/claim/cut.py") 621]) #[]) .nil .nil) .nil)) (.node (u95 P) (.node (Obj.mk (Value.type "tuple") Option.none (Data.seq #[]) #[]) (.node (Obj.mk (Value.type "tuple") Option.none (Data.seq #[]) #[]) .nil .nil) .nil) (.node (Obj.mk Value.none Option.none (Data.fields #[]) #[]) .nil .nil))) (.node (Obj.mk Value.none Option.none (Data.fields #[]) #[]) (.node (Obj.mk (Value.type "tuple") Option.none (Data.seq #[Value.str (Str.ofString "self") 282]) #[]) (.node (Obj.mk (Value.type "tuple") Option.none (Data.seq #[]) #[]) (.node (Obj.mk (Value.type "tuple") Option.none (Data.seq #[]) #[]) .nil .nil) .nil) (.node (o207.1) (.node (Obj.mk (Value.type "tuple") Option.none (Data.seq #[]) #[]) .nil .nil) .nil)) (.node (o111.1) (.node (u175 P) (.node (fnAt (st B 34) (fun a b s => Obj.mk Value.none Option.none (Data.func (FuncData.mk (Str.ofString "_law_source") (Str.ofString "_law_source") a (FuncBody.stmts b) s 0 [] Value.none Value.none Value.none Value.none Option.none Value.none Value.none 0)) #[])) .nil .nil) .nil) (.node (Obj.mk (Value.type "tuple") Option.none (Data.seq #[]) #[]) .nil .nil)))) (.node (Obj.mk (Value.type "tuple") Option.none (Data.seq #[]) #[]) (.node (u39 P) (.node (Obj.mk Value.none Option.none (Data.fields #[]) #[]) (.node (Obj.mk (Value.type "tuple") Option.none (Data.seq #[Value.str (Str.ofString "lengths") 351, Value.str (Str.ofString "room") 352, Value.str (Str.ofString "taken") 353]) #[]) (.node (o263.1) .nil .nil) .nil) (.node (Obj.mk (Value.type "code") Option.none (Data.fields #[Value.str (Str.ofString "distance_rows") 434, Value.str (Str.ofString "distance_rows") 435, Value.str (Str.ofString "/claim/cut.py") 436, Value.int 109 0, Value.int 0 0, Value.int 0 0, Value.int 0 0, Value.int 3 0, Value.ref 194, Value.bool Bool.true, Value.int 181 0, Value.ref 195, Value.none, Value.ref 196, Value.ref 197, Value.ref 198, Value.int 442 0, Value.int 109 0, Value.str (Str.ofString "/claim/cut.py") 443]) #[]) (.node (o327.1) .nil .nil) .nil)) (.node (u103 P) (.node (Obj.mk Value.none Option.none (Data.fields #[]) #[]) (.node (Obj.mk Value.none Option.none (Data.fields #[]) #[]) .nil .nil) .nil) (.node (Obj.mk (Value.type "tuple") Option.none (Data.seq #[Value.str (Str.ofString "lengths") 488]) #[]) .nil .nil))) (.node (Obj.mk (Value.type "tuple") Option.none (Data.seq #[]) #[]) (.node (Obj.mk (Value.type "tuple") Option.none (Data.seq #[]) #[]) (.node (u151 P) (.node (Obj.mk (Value.type "tuple") Option.none (Data.seq #[]) #[]) .nil .nil) .nil) (.node (Obj.mk (Value.type "tuple") Option.none (Data.seq #[]) #[]) (.node (Obj.mk Value.none Option.none (Data.fields #[]) #[]) .nil .nil) .nil)) (.node (Obj.mk (Value.type "tuple") Option.none (Data.seq #[]) #[]) (.node (u183 P) (.node (Obj.mk (Value.type "tuple") Option.none (Data.seq #[]) #[]) .nil .nil) .nil) (.node (fnAt (st B 25) (fun a b s => Obj.mk Value.none Option.none (Data.func (FuncData.mk (Str.ofString "read_part") (Str.ofString "read_part") a (FuncBody.stmts b) s 0 [] Value.none Value.none Value.none Value.none Option.none Value.none Value.none 0)) #[])) .nil .nil))))) (.node (Obj.mk (Value.type "tuple") Option.none (Data.seq #[]) #[]) (.node (Obj.mk Value.none Option.none (Data.fields #[Value.int 4 0, Value.int 4 0, Value.ref 28, Value.int 9 0, Value.int 4 0, Value.ref 35]) #[]) (.node (u35 P) (.node (u67 P) (.node (u131 P) (.node (Obj.mk (Value.type "tuple") Option.none (Data.seq #[Value.str (Str.ofString "bits") 529, Value.str (Str.ofString "count") 530]) #[]) .nil .nil) .nil) (.node (Obj.mk Value.none Option.none (Data.fields #[]) #[]) (.node (Obj.mk (Value.type "tuple") Option.none (Data.seq #[Value.str (Str.ofString "symbol") 626]) #[]) .nil .nil) .nil)) (.node (Obj.mk Value.none Option.none (Data.fields #[]) #[]) (.node (Obj.mk Value.none Option.none (Data.fields #[Value.int 80 0, Value.int 4 0, Value.ref 171, Value.int 86 0, Value.int 4 0, Value.ref 178]) #[]) (.node (fnAt (st B 31) (fun a b s => Obj.mk Value.none Option.none (Data.func (FuncData.mk (Str.ofString "blocks_of") (Str.ofString "blocks_of") a (FuncBody.stmts b) s 0 [] Value.none Value.none Value.none Value.none Option.none Value.none Value.none 0)) #[])) .nil .nil) .nil) (.node (Obj.mk (Value.type "code") Option.none (Data.fields #[Value.str (Str.ofString "read_lengths") 468, Value.str (Str.ofString "read_lengths") 469, Value.str (Str.ofString "/claim/cut.py") 470, Value.int 137 0, Value.int 1 0, Value.int 0 0, Value.int 0 0, Value.int 3 0, Value.ref 222, Value.bool Bool.true, Value.int 181 0, Value.ref 223, Value.none, Value.ref 224, Value.ref 225, Value.ref 226, Value.int 482 0, Value.int 137 0, Value.str (Str.ofString "/claim/cut.py") 483]) #[]) .nil .nil))) (.node (u51 P) (.node (o83.1) (.node (Obj.mk (Value.type "tuple") Option.none (Data.seq #[]) #[]) (.node (fnAt (st B 29) (fun a b s => Obj.mk Value.none Option.none (Data.func (FuncData.mk (Str.ofString "inflate_into") (Str.ofString "inflate_into") a (FuncBody.stmts b) s 0 [] Value.none Value.none Value.none Value.none Option.none Value.none Value.none 0)) #[])) .nil .nil) .nil) (.node (Obj.mk (Value.type "tuple") Option.none (Data.seq #[]) #[]) (.node (fnAt (st B 40) (fun a b s => Obj.mk Value.none Option.none (Data.func (FuncData.mk (Str.ofString "_law_inflated") (Str.ofString "_law_inflated") a (FuncBody.stmts b) s 0 [] Value.none Value.none Value.none Value.none Option.none Value.none Value.none 0)) #[])) .nil .nil) .nil)) (.node (u115 P) (.node (o179.1) (.node (Obj.mk Value.none Option.none (Data.fields #[]) #[]) .nil .nil) .nil) (.node (Obj.mk (Value.type "tuple") Option.none (Data.seq #[]) #[]) .nil .nil)))) (.node (u27 P) (.node (Obj.mk (Value.type "tuple") Option.none (Data.seq #[Value.ref 39]) #[]) (.node (u75 P) (.node (o139.1) (.node (Obj.mk (Value.type "tuple") Option.none (Data.seq #[]) #[]) .nil .nil) .nil) (.node (Obj.mk (Value.type "tuple") Option.none (Data.seq #[Value.str (Str.ofString "order") 448, Value.str (Str.ofString "place") 449]) #[]) (.node (Obj.mk (Value.type "tuple") Option.none (Data.seq #[]) #[]) .nil .nil) .nil)) (.node (Obj.mk (Value.type "tuple") Option.none (Data.seq #[Value.str (Str.ofString "self") 313, Value.str (Str.ofString "count") 314]) #[]) (.node (u171 P) (.node (Obj.mk (Value.type "code") Option.none (Data.fields #[Value.str (Str.ofString "_law_draw") 589, Value.str (Str.ofString "_law_draw") 590, Value.str (Str.ofString "/claim/cut.py") 591, Value.int 246 0, Value.int 2 0, Value.int 0 0, Value.int 0 0, Value.int 3 0, Value.ref 294, Value.bool Bool.true, Value.int 181 0, Value.ref 295, Value.none, Value.ref 296, Value.ref 297, Value.ref 298, Value.int 596 0, Value.int 246 0, Value.str (Str.ofString "/claim/cut.py") 597]) #[]) .nil .nil) .nil) (.node (o235.1) .nil .nil))) (.node (u59 P) (.node (Obj.mk (Value.type "tuple") Option.none (Data.seq #[]) #[]) (.node (Obj.mk Value.none Option.none (Data.fields #[]) #[]) (.node (fnAt (st B 30) (fun a b s => Obj.mk Value.none Option.none (Data.func (FuncData.mk (Str.ofString "inflate") (Str.ofString "inflate") a (FuncBody.stmts b) s 0 [] Value.none Value.none Value.none Value.none Option.none Value.none Value.none 0)) #[])) .nil .nil) .nil) (.node (fnAt (st B 21) (fun a b s => Obj.mk Value.none Option.none (Data.func (FuncData.mk (Str.ofString "repeated") (Str.ofString "repeated") a (FuncBody.stmts b) s 0 [] Value.none Value.none Value.none Value.none Option.none Value.none Value.none 0)) #[])) .nil .nil)) (.node (u123 P) (.node (Obj.mk (Value.type "tuple") Option.none (Data.seq #[]) #[]) (.node (o315.1) .nil .nil) .nil) (.node (Obj.mk Value.none Option.none (Data.fields #[]) #[]) .nil .nil)))))) (.node (boot_o_5 P) (.node (boot_o_9 P) (.node (u17 P) (.node (Obj.mk (Value.type "tuple") Option.none (Data.seq #[]) #[]) (.node (Obj.mk (Value.type "tuple") Option.none (Data.seq #[]) #[]) (.node (Obj.mk (Value.type "tuple") Option.none (Data.seq #[]) #[]) (.node (Obj.mk (Value.type "tuple") Option.none (Data.seq #[]) #[]) .nil .nil) .nil) (.node (o193.1) (.node (Obj.mk (Value.type "tuple") Option.none (Data.seq #[]) #[]) .nil .nil) .nil)) (.node (o97.1) (.node (u161 P) (.node (Obj.mk (Value.type "tuple") Option.none (Data.seq #[Value.str (Str.ofString "data") 573, Value.str (Str.ofString "at") 574, Value.str (Str.ofString "bits") 575, Value.str (Str.ofString "rows") 576, Value.str (Str.ofString "blocks") 577, Value.str (Str.ofString "is_last") 578, Value.str (Str.ofString "way") 579, Value.str (Str.ofString "literals") 580, Value.str (Str.ofString "distances") 581, Value.str (Str.ofString "parts") 582, Value.str (Str.ofString "part") 583]) #[]) .nil .nil) .nil) (.node (Obj.mk (Value.type "tuple") Option.none (Data.seq #[]) #[]) .nil .nil))) (.node (u49 P) (.node (u81 P) (.node (u145 P) (.node (Obj.mk (Value.type "tuple") Option.none (Data.seq #[Value.str (Str.ofString "out") 547, Value.str (Str.ofString "bits") 548, Value.str (Str.ofString "rows") 549, Value.str (Str.ofString "is_last") 550, Value.str (Str.ofString "way") 551, Value.str (Str.ofString "literals") 552, Value.str (Str.ofString "distances") 553, Value.str (Str.ofString "part") 554]) #[]) .nil .nil) .nil) (.node (Obj.mk Value.none Option.none (Data.fields #[]) #[]) (.node (Obj.mk (Value.type "tuple") Option.none (Data.seq #[Value.str (Str.ofString "data") 644, Value.str (Str.ofString "at") 645]) #[]) .nil .nil) .nil)) (.node (u113 P) (.node (u177 P) (.node (o305.1) .nil .nil) .nil) (.node (Obj.mk (Value.type "code") Option.none (Data.fields #[Value.str (Str.ofString "read_decoders") 492, Value.str (Str.ofString "read_decoders") 493, Value.str (Str.ofString "/claim/cut.py") 494, Value.int 162 0, Value.int 1 0, Value.int 0 0, Value.int 0 0, Value.int 3 0, Value.ref 236, Value.bool Bool.true, Value.int 181 0, Value.ref 237, Value.none, Value.ref 238, Value.ref 239, Value.ref 240, Value.int 498 0, Value.int 162 0, Value.str (Str.ofString "/claim/cut.py") 499]) #[]) .nil .nil)))) (.node (Obj.mk (Value.type "tuple") Option.none (Data.seq #[Value.str (Str.ofString "self") 206, Value.str (Str.ofString "what") 207, Value.str (Str.ofString "at") 208]) #[]) (.node (Obj.mk (Value.type "super") Option.none (Data.fields #[Value.ref 39, Value.ref 39, Value.ref 39]) #[]) (.node (Obj.mk (Value.type "tuple") Option.none (Data.seq #[]) #[]) (.node (u137 P) (.node (Obj.mk Value.none Option.none (Data.fields #[]) #[]) .nil .nil) .nil) (.node (Obj.mk (Value.type "tuple") Option.none (Data.seq #[]) #[]) (.node (Obj.mk Value.none Option.none (Data.fields #[]) #[]) .nil .nil) .nil)) (.node (Obj.mk (Value.type "tuple") Option.none (Data.seq #[]) #[]) (.node (Obj.mk (Value.type "tuple") Option.none (Data.seq #[]) #[]) (.node (Obj.mk (Value.type "tuple") Option.none (Data.seq #[]) #[]) .nil .nil) .nil) (.node (fnAt (st B 23) (fun a b s => Obj.mk Value.none Option.none (Data.func (FuncData.mk (Str.ofString "is_usable") (Str.ofString "is_usable") a (FuncBody.stmts b) s 0 [] Value.none Value.none Value.none Value.none Option.none Value.none Value.none 0)) #[])) .nil .nil))) (.node (Obj.mk (Value.type "tuple") Option.none (Data.seq #[Value.str (Str.ofString "value") 252, Value.str (Str.ofString "count") 253]) #[]) (.node (u89 P) (.node (o153.1) (.node (Obj.mk (Value.type "tuple") Option.none (Data.seq #[Value.str (Str.ofString "data") 562, Value.str (Str.ofString "at") 563, Value.str (Str.ofString "bits") 564, Value.str (Str.ofString "out") 565]) #[]) .nil .nil) .nil) (.node (Obj.mk (Value.type "tuple") Option.none (Data.seq #[Value.str (Str.ofString "bits") 462, Value.str (Str.ofString "symbol") 463, Value.str (Str.ofString "lengths") 464]) #[]) (.node (Obj.mk (Value.type "code") Option.none (Data.fields #[Value.str (Str.ofString "law") 649, Value.str (Str.ofString "law") 650, Value.str (Str.ofString "/claim/cut.py") 651, Value.int 281 0, Value.int 1 0, Value.int 0 0, Value.int 0 0, Value.int 3 0, Value.ref 342, Value.bool Bool.true, Value.int 181 0, Value.ref 343, Value.none, Value.none, Value.none, Value.ref 344, Value.int 652 0, Value.int 281 0, Value.str (Str.ofString "/claim/cut.py") 653]) #[]) .nil .nil) .nil)) (.node (Obj.mk (Value.type "tuple") Option.none (Data.seq #[Value.str (Str.ofString "lengths") 335]) #[]) (.node (Obj.mk (Value.type "super") Option.none (Data.fields #[Value.ref 182, Value.ref 182, Value.ref 182]) #[]) (.node (fnAt (st B 36) (fun a b s => Obj.mk Value.none Option.none (Data.func (FuncData.mk (Str.ofString "_law_high") (Str.ofString "_law_high") a (FuncBody.stmts b) s 0 [] Value.none Value.none Value.none Value.none Option.none Value.none Value.none 0)) #[])) .nil .nil) .nil) (.node (o249.1) .nil .nil))))) (.node (u13 P) (.node (u21 P) (.node (Obj.mk (Value.type "tuple") Option.none (Data.seq #[Value.str (Str.ofString "at") 219, Value.str (Str.ofString "what") 220]) #[]) (.node (Obj.mk (Value.type "tuple") Option.none (Data.seq #[Value.int 0 269]) #[]) (.node (Obj.mk (Value.type "tuple") Option.none (Data.seq #[]) #[]) (.node (fnAt (st B 27) (fun a b s => Obj.mk Value.none Option.none (Data.func (FuncData.mk (Str.ofString "read_stored") (Str.ofString "read_stored") a (FuncBody.stmts b) s 0 [] Value.none Value.none Value.none Value.none Option.none Value.none Value.none 0)) #[])) .nil .nil) .nil) (.node (Obj.mk (Value.type "tuple") Option.none (Data.seq #[]) #[]) (.node (fnAt (st B 38) (fun a b s => Obj.mk Value.none Option.none (Data.func (FuncData.mk (Str.ofString "_law_literal") (Str.ofString "_law_literal") a (FuncBody.stmts b) s 0 [] Value.none Value.none Value.none Value.none Option.none Value.none Value.none 0)) #[])) .nil .nil) .nil)) (.node (Obj.mk (Value.type "tuple") Option.none (Data.seq #[]) #[]) (.node (u165 P) (.node (o293.1) .nil .nil) .nil) (.node (Obj.mk (Value.type "tuple") Option.none (Data.seq #[]) #[]) .nil .nil))) (.node (Obj.mk (Value.type "super") Option.none (Data.fields #[Value.ref 52, Value.ref 52, Value.ref 52]) #[]) (.node (Obj.mk Value.none Option.none (Data.fields #[]) #[]) (.node (Obj.mk (Value.type "tuple") Option.none (Data.seq #[Value.str (Str.ofString "lengths") 367]) #[]) (.node (o277.1) .nil .nil) .nil) (.node (Obj.mk (Value.type "code") Option.none (Data.fields #[Value.str (Str.ofString "fixed_lengths") 453, Value.str (Str.ofString "fixed_lengths") 454, Value.str (Str.ofString "/claim/cut.py") 455, Value.int 127 0, Value.int 0 0, Value.int 0 0, Value.int 0 0, Value.int 3 0, Value.ref 208, Value.bool Bool.true, Value.int 181 0, Value.ref 209, Value.none, Value.ref 210, Value.ref 211, Value.ref 212, Value.int 456 0, Value.int 127 0, Value.str (Str.ofString "/claim/cut.py") 457]) #[]) (.node (o341.1) .nil .nil) .nil)) (.node (Obj.mk (Value.type "super") Option.none (Data.fields #[Value.ref 114, Value.ref 114, Value.ref 114]) #[]) (.node (u181 P) (.node (Obj.mk (Value.type "code") Option.none (Data.fields #[Value.str (Str.ofString "_law_low") 605, Value.str (Str.ofString "_law_low") 606, Value.str (Str.ofString "/claim/cut.py") 607, Value.int 254 0, Value.int 2 0, Value.int 0 0, Value.int 0 0, Value.int 3 0, Value.ref 306, Value.bool Bool.true, Value.int 181 0, Value.ref 307, Value.none, Value.none, Value.none, Value.ref 308, Value.int 608 0, Value.int 254 0, Value.str (Str.ofString "/claim/cut.py") 609]) #[]) .nil .nil) .nil) (.node (Obj.mk (Value.type "tuple") Option.none (Data.seq #[Value.str (Str.ofString "bits") 504, Value.str (Str.ofString "literals") 505, Value.str (Str.ofString "distances") 506, Value.str (Str.ofString "rows") 507, Value.str (Str.ofString "symbol") 508, Value.str (Str.ofString "place") 509, Value.str (Str.ofString "length") 510]) #[]) .nil .nil)))) (.node (o29.1) (.node (u45 P) (.node (Obj.mk (Value.type "tuple") Option.none (Data.seq #[]) #[]) (.node (Obj.mk Value.none Option.none (Data.fields #[]) #[]) (.node (Obj.mk (Value.type "code") Option.none (Data.fields #[Value.str (Str.ofString "block_decoders") 534, Value.str (Str.ofString "block_decoders") 535, Value.str (Str.ofString "/claim/cut.py") 536, Value.int 198 0, Value.int 2 0, Value.int 0 0, Value.int 0 0, Value.int 3 0, Value.ref 264, Value.bool Bool.true, Value.int 181 0, Value.ref 265, Value.none, Value.ref 266, Value.ref 267, Value.ref 268, Value.int 541 0, Value.int 198 0, Value.str (Str.ofString "/claim/cut.py") 542]) #[]) .nil .nil) .nil) (.node (fnAt (st B 19) (fun a b s => Obj.mk Value.none Option.none (Data.func (FuncData.mk (Str.ofString "length_order") (Str.ofString "length_order") a (FuncBody.stmts b) s 0 [] Value.none Value.none Value.none Value.none Option.none Value.none Value.none 0)) #[])) (.node (Obj.mk (Value.type "code") Option.none (Data.fields #[Value.str (Str.ofString "_law_rows_are_right") 630, Value.str (Str.ofString "_law_rows_are_right") 631, Value.str (Str.ofString "/claim/cut.py") 632, Value.int 269 0, Value.int 4 0, Value.int 0 0, Value.int 0 0, Value.int 3 0, Value.ref 328, Value.bool Bool.true, Value.int 181 0, Value.ref 329, Value.none, Value.ref 330, Value.ref 331, Value.ref 332, Value.int 638 0, Value.int 269 0, Value.str (Str.ofString "/claim/cut.py") 639]) #[]) .nil .nil) .nil)) (.node (u109 P) (.node (Obj.mk (Value.type "tuple") Option.none (Data.seq #[]) #[]) (.node (Obj.mk (Value.type "tuple") Option.none (Data.seq #[]) #[]) .nil .nil) .nil) (.node (Obj.mk Value.none Option.none (Data.fields #[]) #[]) .nil .nil))) (.node (o61.1) (.node (Obj.mk (Value.type "tuple") Option.none (Data.seq #[Value.str (Str.ofString "self") 297, Value.str (Str.ofString "count") 298, Value.str (Str.ofString "value") 299]) #[]) (.node (u157 P) (.node (o285.1) .nil .nil) .nil) (.node (o221.1) .nil .nil)) (.node (o125.1) (.node (Obj.mk (Value.type "tuple") Option.none (Data.seq #[Value.str (Str.ofString "bases") 426, Value.str (Str.ofString "extras") 427, Value.str (Str.ofString "base") 428, Value.str (Str.ofString "place") 429, Value.str (Str.ofString "extra") 430]) #[]) (.node (Obj.mk Value.none Option.none (Data.fields #[]) #[]) .nil .nil) .nil) (.node (Obj.mk (Value.type "tuple") Option.none (Data.seq #[]) #[]) .nil .nil))))))) (.node (u2_1 P) (.node (boot_o_4 P) (.node (boot_o_8 P) (.node (Obj.mk (Value.type "builtin_function_or_method") Option.none (Data.fields #[Value.builtin "type.__prepare__", Value.type "type"]) #[]) (.node (Obj.mk (Value.type "tuple") Option.none (Data.seq #[Value.str (Str.ofString "self") 215]) #[]) (.node (u64 P) (.node (Obj.mk (Value.type "tuple") Option.none (Data.seq #[Value.str (Str.ofString "lengths") 342, Value.str (Str.ofString "tally") 343, Value.str (Str.ofString "length") 344]) #[]) (.node (o256.1) .nil .nil) .nil) (.node (Obj.mk (Value.type "code") Option.none (Data.fields #[Value.str (Str.ofString "length_rows") 423, Value.str (Str.ofString "length_rows") 424, Value.str (Str.ofString "/claim/cut.py") 425, Value.int 99 0, Value.int 0 0, Value.int 0 0, Value.int 0 0, Value.int 3 0, Value.ref 187, Value.bool Bool.true, Value.int 181 0, Value.ref 188, Value.none, Value.ref 189, Value.ref 190, Value.ref 191, Value.int 431 0, Value.int 99 0, Value.str (Str.ofString "/claim/cut.py") 432]) #[]) (.node (o320.1) .nil .nil) .nil)) (.node (u96 P) (.node (Obj.mk (Value.type "builtin_function_or_method") Option.none (Data.fields #[Value.builtin "type.__prepare__", Value.type "type"]) #[]) (.node (Obj.mk Value.none Option.none (Data.fields #[]) #[]) .nil .nil) .nil) (.node (Obj.mk (Value.type "tuple") Option.none (Data.seq #[Value.str (Str.ofString "bits") 471, Value.str (Str.ofString "literals") 472, Value.str (Str.ofString "distances") 473, Value.str (Str.ofString "count") 474, Value.str (Str.ofString "small") 475, Value.str (Str.ofString "place") 476, Value.str (Str.ofString "decoder") 477, Value.str (Str.ofString "lengths") 478, Value.str (Str.ofString "symbol") 479, Value.str (Str.ofString "length") 480, Value.str (Str.ofString "times") 481]) #[]) .nil .nil))) (.node (u48 P) (.node (Obj.mk (Value.type "tuple") Option.none (Data.seq #[]) #[]) (.node (u144 P) (.node (Obj.mk Value.none Option.none (Data.fields #[]) #[]) .nil .nil) .nil) (.node (Obj.mk (Value.type "tuple") Option.none (Data.seq #[]) #[]) (.node (Obj.mk Value.none Option.none (Data.fields #[]) #[]) .nil .nil) .nil)) (.node (u112 P) (.node (Obj.mk (Value.type "tuple") Option.none (Data.seq #[]) #[]) (.node (Obj.mk (Value.type "code") Option.none (Data.fields #[Value.str (Str.ofString "_law_source") 599, Value.str (Str.ofString "_law_source") 600, Value.str (Str.ofString "/claim/cut.py") 601, Value.int 251 0, Value.int 1 0, Value.int 0 0, Value.int 0 0, Value.int 3 0, Value.ref 301, Value.bool Bool.true, Value.int 181 0, Value.ref 302, Value.none, Value.none, Value.none, Value.ref 303, Value.int 602 0, Value.int 251 0, Value.str (Str.ofString "/claim/cut.py") 603]) #[]) .nil .nil) .nil) (.node (fnAt (st B 24) (fun a b s => Obj.mk Value.none Option.none (Data.func (FuncData.mk (Str.ofString "read_decoders") (Str.ofString "read_decoders") a (FuncBody.stmts b) s 0 [] Value.none Value.none Value.none Value.none Option.none Value.none Value.none 0)) #[])) .nil .nil)))) (.node (Obj.mk Value.none Option.none (Data.fields #[]) #[]) (.node (Obj.mk (Value.type "getset_descriptor") Option.none (Data.fields #[Value.str (Str.ofString "__weakref__") 222, Value.ref 39, Value.builtin "ExceptionGroup.__weakref__", Value.none]) #[]) (.node (Obj.mk (Value.type "tuple") Option.none (Data.seq #[Value.str (Str.ofString "self") 273, Value.str (Str.ofString "data") 274, Value.str (Str.ofString "at") 275]) #[]) (.node (Obj.mk (Value.type "tuple") Option.none (Data.seq #[]) #[]) (.node (Obj.mk (Value.type "tuple") Option.none (Data.seq #[]) #[]) .nil .nil) .nil) (.node (o200.1) (.node (Obj.mk (Value.type "tuple") Option.none (Data.seq #[]) #[]) .nil .nil) .nil)) (.node (o104.1) (.node (Obj.mk (Value.type "tuple") Option.none (Data.seq #[Value.str (Str.ofString "self") 392, Value.str (Str.ofString "lengths") 393]) #[]) (.node (Obj.mk (Value.type "tuple") Option.none (Data.seq #[Value.str (Str.ofString "source") 592, Value.str (Str.ofString "limit") 593, Value.str (Str.ofString "cells") 594, Value.str (Str.ofString "at") 595]) #[]) .nil .nil) .nil) (.node (Obj.mk (Value.type "tuple") Option.none (Data.seq #[]) #[]) .nil .nil))) (.node (Obj.mk Value.none Option.none (Data.fields #[]) #[]) (.node (u88 P) (.node (u152 P) (.node (Obj.mk Value.none Option.none (Data.fields #[]) #[]) .nil .nil) .nil) (.node (Obj.mk Value.none Option.none (Data.fields #[]) #[]) (.node (fnAt (st B 41) (fun a b s => Obj.mk Value.none Option.none (Data.func (FuncData.mk (Str.ofString "law") (Str.ofString "law") a (FuncBody.stmts b) s 0 [] Value.none Value.none Value.none Value.none Option.none Value.none Value.none 0)) #[])) .nil .nil) .nil)) (.node (Obj.mk Value.none Option.none (Data.fields #[]) #[]) (.node (Obj.mk (Value.type "getset_descriptor") Option.none (Data.fields #[Value.str (Str.ofString "__weakref__") 414, Value.ref 182, Value.builtin "ExceptionGroup.__weakref__", Value.none]) #[]) (.node (Obj.mk Value.none Option.none (Data.fields #[]) #[]) .nil .nil) .nil) (.node (Obj.mk (Value.type "code") Option.none (Data.fields #[Value.str (Str.ofString "read_part") 501, Value.str (Str.ofString "read_part") 502, Value.str (Str.ofString "/claim/cut.py") 503, Value.int 169 0, Value.int 4 0, Value.int 0 0, Value.int 0 0, Value.int 3 0, Value.ref 243, Value.bool Bool.true, Value.int 181 0, Value.ref 244, Value.none, Value.ref 245, Value.ref 246, Value.ref 247, Value.int 511 0, Value.int 169 0, Value.str (Str.ofString "/claim/cut.py") 512]) #[]) .nil .nil))))) (.node (Obj.mk Value.none Option.none (Data.fields #[Value.int 2 0, Value.int 0 0, Value.ref 20, Value.int 11 0, Value.int 0 0, Value.ref 48, Value.int 15 0, Value.int 0 0, Value.ref 60, Value.int 17 0, Value.int 0 0, Value.ref 67, Value.int 53 0, Value.int 0 0, Value.ref 124, Value.int 55 0, Value.int 0 0, Value.ref 131, Value.int 61 0, Value.int 0 0, Value.ref 138, Value.int 66 0, Value.int 0 0, Value.ref 145, Value.int 68 0, Value.int 0 0, Value.ref 152, Value.int 70 0, Value.int 0 0, Value.ref 157, Value.int 78 0, Value.int 0 0, Value.ref 164, Value.int 99 0, Value.int 0 0, Value.ref 192, Value.int 109 0, Value.int 0 0, Value.ref 199, Value.int 119 0, Value.int 0 0, Value.ref 206, Value.int 127 0, Value.int 0 0, Value.ref 213, Value.int 129 0, Value.int 0 0, Value.ref 220, Value.int 137 0, Value.int 0 0, Value.ref 227, Value.int 160 0, Value.int 0 0, Value.ref 234, Value.int 162 0, Value.int 0 0, Value.ref 241, Value.int 169 0, Value.int 0 0, Value.ref 248, Value.int 183 0, Value.int 0 0, Value.ref 255, Value.int 192 0, Value.int 0 0, Value.ref 262, Value.int 198 0, Value.int 0 0, Value.ref 269, Value.int 205 0, Value.int 0 0, Value.ref 276, Value.int 220 0, Value.int 0 0, Value.ref 284, Value.int 225 0, Value.int 0 0, Value.ref 292, Value.int 246 0, Value.int 0 0, Value.ref 299, Value.int 251 0, Value.int 0 0, Value.ref 304, Value.int 254 0, Value.int 0 0, Value.ref 309, Value.int 256 0, Value.int 0 0, Value.ref 314, Value.int 258 0, Value.int 0 0, Value.ref 319, Value.int 261 0, Value.int 0 0, Value.ref 326, Value.int 269 0, Value.int 0 0, Value.ref 333, Value.int 276 0, Value.int 0 0, Value.ref 340, Value.int 281 0, Value.int 0 0, Value.ref 345]) #[]) (.node (u20 P) (.node (o36.1) (.node (u68 P) (.node (o132.1) (.node (Obj.mk (Value.type "tuple") Option.none (Data.seq #[]) #[]) .nil .nil) .nil) (.node (Obj.mk (Value.type "tuple") Option.none (Data.seq #[Value.str (Str.ofString "bases") 437, Value.str (Str.ofString "extras") 438, Value.str (Str.ofString "base") 439, Value.str (Str.ofString "place") 440, Value.str (Str.ofString "extra") 441]) #[]) (.node (Obj.mk (Value.type "tuple") Option.none (Data.seq #[]) #[]) .nil .nil) .nil)) (.node (Obj.mk (Value.type "tuple") Option.none (Data.seq #[Value.str (Str.ofString "self") 306]) #[]) (.node (u164 P) (.node (Obj.mk (Value.type "code") Option.none (Data.fields #[Value.str (Str.ofString "blocks_of") 570, Value.str (Str.ofString "blocks_of") 571, Value.str (Str.ofString "/claim/cut.py") 572, Value.int 225 0, Value.int 2 0, Value.int 0 0, Value.int 0 0, Value.int 3 0, Value.ref 287, Value.bool Bool.true, Value.int 181 0, Value.ref 288, Value.none, Value.ref 289, Value.ref 290, Value.ref 291, Value.int 584 0, Value.int 225 0, Value.str (Str.ofString "/claim/cut.py") 585]) #[]) .nil .nil) .nil) (.node (o228.1) .nil .nil))) (.node (u52 P) (.node (Obj.mk (Value.type "tuple") Option.none (Data.seq #[]) #[]) (.node (Obj.mk Value.none Option.none (Data.fields #[]) #[]) (.node (Obj.mk (Value.type "code") Option.none (Data.fields #[Value.str (Str.ofString "inflate_into") 544, Value.str (Str.ofString "inflate_into") 545, Value.str (Str.ofString "/claim/cut.py") 546, Value.int 205 0, Value.int 2 0, Value.int 0 0, Value.int 0 0, Value.int 3 0, Value.ref 271, Value.bool Bool.true, Value.int 181 0, Value.ref 272, Value.none, Value.ref 273, Value.ref 274, Value.ref 275, Value.int 555 0, Value.int 205 0, Value.str (Str.ofString "/claim/cut.py") 556]) #[]) .nil .nil) .nil) (.node (fnAt (st B 20) (fun a b s => Obj.mk Value.none Option.none (Data.func (FuncData.mk (Str.ofString "fixed_lengths") (Str.ofString "fixed_lengths") a (FuncBody.stmts b) s 0 [] Value.none Value.none Value.none Value.none Option.none Value.none Value.none 0)) #[])) (.node (Obj.mk (Value.type "code") Option.none (Data.fields #[Value.str (Str.ofString "_law_inflated") 641, Value.str (Str.ofString "_law_inflated") 642, Value.str (Str.ofString "/claim/cut.py") 643, Value.int 276 0, Value.int 2 0, Value.int 0 0, Value.int 0 0, Value.int 3 0, Value.ref 335, Value.bool Bool.true, Value.int 181 0, Value.ref 336, Value.none, Value.ref 337, Value.ref 338, Value.ref 339, Value.int 646 0, Value.int 276 0, Value.str (Str.ofString "/claim/cut.py") 647]) #[]) .nil .nil) .nil)) (.node (Obj.mk (Value.type "getset_descriptor") Option.none (Data.fields #[Value.str (Str.ofString "__weakref__") 325, Value.ref 114, Value.builtin "ExceptionGroup.__weakref__", Value.none]) #[]) (.node (Obj.mk (Value.type "tuple") Option.none (Data.seq #[Value.str (Str.ofString "symbols") 409, Value.str (Str.ofString "tally") 410]) #[]) (.node (fnAt (st B 35) (fun a b s => Obj.mk Value.none Option.none (Data.func (FuncData.mk (Str.ofString "_law_low") (Str.ofString "_law_low") a (FuncBody.stmts b) s 0 [] Value.none Value.none Value.none Value.none Option.none Value.none Value.none 0)) #[])) .nil .nil) .nil) (.node (Obj.mk Value.none Option.none (Data.fields #[]) #[]) .nil .nil)))) (.node (u28 P) (.node (Obj.mk (Value.type "builtin_function_or_method") Option.none (Data.fields #[Value.builtin "type.__prepare__", Value.type "type"]) #[]) (.node (o76.1) (.node (Obj.mk (Value.type "tuple") Option.none (Data.seq #[]) #[]) (.node (fnAt (st B 28) (fun a b s => Obj.mk Value.none Option.none (Data.func (FuncData.mk (Str.ofString "block_decoders") (Str.ofString "block_decoders") a (FuncBody.stmts b) s 0 [] Value.none Value.none Value.none Value.none Option.none Value.none Value.none 0)) #[])) .nil .nil) .nil) (.node (Obj.mk (Value.type "tuple") Option.none (Data.seq #[]) #[]) (.node (fnAt (st B 39) (fun a b s => Obj.mk Value.none Option.none (Data.func (FuncData.mk (Str.ofString "_law_rows_are_right") (Str.ofString "_law_rows_are_right") a (FuncBody.stmts b) s 0 [] Value.none Value.none Value.none Value.none Option.none Value.none Value.none 0)) #[])) .nil .nil) .nil)) (.node (Obj.mk (Value.type "tuple") Option.none (Data.seq #[]) #[]) (.node (o172.1) (.node (o300.1) .nil .nil) .nil) (.node (Obj.mk (Value.type "tuple") Option.none (Data.seq #[]) #[]) .nil .nil))) (.node (u60 P) (.node (Obj.mk Value.none Option.none (Data.fields #[]) #[]) (.node (u156 P) (.node (Obj.mk (Value.type "code") Option.none (Data.fields #[Value.str (Str.ofString "inflate") 559, Value.str (Str.ofString "inflate") 560, Value.str (Str.ofString "/claim/cut.py") 561, Value.int 220 0, Value.int 2 0, Value.int 0 0, Value.int 0 0, Value.int 3 0, Value.ref 279, Value.bool Bool.true, Value.int 181 0, Value.ref 280, Value.none, Value.ref 281, Value.ref 282, Value.ref 283, Value.int 566 0, Value.int 220 0, Value.str (Str.ofString "/claim/cut.py") 567]) #[]) .nil .nil) .nil) (.node (Obj.mk (Value.type "code") Option.none (Data.fields #[Value.str (Str.ofString "repeated") 459, Value.str (Str.ofString "repeated") 460, Value.str (Str.ofString "/claim/cut.py") 461, Value.int 129 0, Value.int 3 0, Value.int 0 0, Value.int 0 0, Value.int 3 0, Value.ref 215, Value.bool Bool.true, Value.int 181 0, Value.ref 216, Value.none, Value.ref 217, Value.ref 218, Value.ref 219, Value.int 465 0, Value.int 129 0, Value.str (Str.ofString "/claim/cut.py") 466]) #[]) .nil .nil)) (.node (u124 P) (.node (Obj.mk Value.none Option.none (Data.fields #[]) #[]) (.node (Obj.mk (Value.type "tuple") Option.none (Data.seq #[]) #[]) .nil .nil) .nil) (.node (Obj.mk (Value.type "tuple") Option.none (Data.seq #[Value.str (Str.ofString "out") 517, Value.str (Str.ofString "part") 518, Value.str (Str.ofString "at") 519, Value.str (Str.ofString "length") 520, Value.str (Str.ofString "distance") 521, Value.str (Str.ofString "turn") 522]) #[]) .nil .nil)))))) (.node (boot_o_6 P) (.node (boot_o_10 P) (.node (Obj.mk (Value.type "tuple") Option.none (Data.seq #[]) #[]) (.node (u34 P) (.node (u66 P) (.node (u130 P) (.node (Obj.mk Value.none Option.none (Data.fields #[]) #[]) .nil .nil) .nil) (.node (Obj.mk (Value.type "tuple") Option.none (Data.seq #[]) #[]) (.node (Obj.mk Value.none Option.none (Data.fields #[]) #[]) .nil .nil) .nil)) (.node (Obj.mk (Value.type "tuple") Option.none (Data.seq #[]) #[]) (.node (Obj.mk (Value.type "tuple") Option.none (Data.seq #[]) #[]) (.node (Obj.mk (Value.type "tuple") Option.none (Data.seq #[]) #[]) .nil .nil) .nil) (.node (fnAt (st B 22) (fun a b s => Obj.mk Value.none Option.none (Data.func (FuncData.mk (Str.ofString "read_lengths") (Str.ofString "read_lengths") a (FuncBody.stmts b) s 0 [] Value.none Value.none Value.none Value.none Option.none Value.none Value.none 0)) #[])) .nil .nil))) (.node (Obj.mk (Value.type "tuple") Option.none (Data.seq #[]) #[]) (.node (u82 P) (.node (o146.1) (.node (Obj.mk (Value.type "tuple") Option.none (Data.seq #[]) #[]) .nil .nil) .nil) (.node (Obj.mk (Value.type "tuple") Option.none (Data.seq #[]) #[]) (.node (Obj.mk (Value.type "tuple") Option.none (Data.seq #[]) #[]) .nil .nil) .nil)) (.node (u114 P) (.node (u178 P) (.node (Obj.mk (Value.type "tuple") Option.none (Data.seq #[]) #[]) .nil .nil) .nil) (.node (o242.1) .nil .nil)))) (.node (Obj.mk (Value.type "tuple") Option.none (Data.seq #[]) #[]) (.node (Obj.mk (Value.type "builtin_function_or_method") Option.none (Data.fields #[Value.builtin "object.__init_subclass__", Value.ref 39]) #[]) (.node (u74 P) (.node (u138 P) (.node (Obj.mk (Value.type "tuple") Option.none (Data.seq #[Value.str (Str.ofString "bits") 537, Value.str (Str.ofString "way") 538, Value.str (Str.ofString "literals") 539, Value.str (Str.ofString "distances") 540]) #[]) .nil .nil) .nil) (.node (Obj.mk Value.none Option.none (Data.fields #[]) #[]) (.node (Obj.mk (Value.type "tuple") Option.none (Data.seq #[Value.str (Str.ofString "rows") 633, Value.str (Str.ofString "count") 634, Value.str (Str.ofString "base") 635, Value.str (Str.ofString "last") 636, Value.str (Str.ofString "place") 637]) #[]) .nil .nil) .nil)) (.node (Obj.mk Value.none Option.none (Data.fields #[]) #[]) (.node (u170 P) (.node (fnAt (st B 33) (fun a b s => Obj.mk Value.none Option.none (Data.func (FuncData.mk (Str.ofString "_law_draw") (Str.ofString "_law_draw") a (FuncBody.stmts b) s 0 [] Value.none Value.none Value.none Value.none Option.none Value.none Value.none 0)) #[])) .nil .nil) .nil) (.node (Obj.mk (Value.type "code") Option.none (Data.fields #[Value.str (Str.ofString "is_usable") 485, Value.str (Str.ofString "is_usable") 486, Value.str (Str.ofString "/claim/cut.py") 487, Value.int 160 0, Value.int 1 0, Value.int 0 0, Value.int 0 0, Value.int 3 0, Value.ref 229, Value.bool Bool.true, Value.int 181 0, Value.ref 230, Value.none, Value.ref 231, Value.ref 232, Value.ref 233, Value.int 489 0, Value.int 160 0, Value.str (Str.ofString "/claim/cut.py") 490]) #[]) .nil .nil))) (.node (Obj.mk (Value.type "tuple") Option.none (Data.seq #[]) #[]) (.node (o90.1) (.node (Obj.mk (Value.type "tuple") Option.none (Data.seq #[]) #[]) (.node (Obj.mk (Value.type "tuple") Option.none (Data.seq #[]) #[]) .nil .nil) .nil) (.node (Obj.mk (Value.type "tuple") Option.none (Data.seq #[]) #[]) (.node (o346.1) .nil .nil) .nil)) (.node (Obj.mk (Value.type "tuple") Option.none (Data.seq #[]) #[]) (.node (Obj.mk (Value.type "builtin_function_or_method") Option.none (Data.fields #[Value.builtin "object.__init_subclass__", Value.ref 182]) #[]) (.node (Obj.mk (Value.type "code") Option.none (Data.fields #[Value.str (Str.ofString "_law_high") 611, Value.str (Str.ofString "_law_high") 612, Value.str (Str.ofString "/claim/cut.py") 613, Value.int 256 0, Value.int 2 0, Value.int 0 0, Value.int 0 0, Value.int 3 0, Value.ref 311, Value.bool Bool.true, Value.int 181 0, Value.ref 312, Value.none, Value.none, Value.none, Value.ref 313, Value.int 614 0, Value.int 256 0, Value.str (Str.ofString "/claim/cut.py") 615]) #[]) .nil .nil) .nil) (.node (Obj.mk (Value.type "tuple") Option.none (Data.seq #[]) #[]) .nil .nil))))) (.node (u14 P) (.node (Obj.mk (Value.type "tuple") Option.none (Data.seq #[Value.int (-1) 202]) #[]) (.node (u38 P) (.node (Obj.mk (Value.type "tuple") Option.none (Data.seq #[]) #[]) (.node (Obj.mk Value.none Option.none (Data.fields #[]) #[]) (.node (Obj.mk (Value.type "code") Option.none (Data.fields #[Value.str (Str.ofString "read_stored") 526, Value.str (Str.ofString "read_stored") 527, Value.str (Str.ofString "/claim/cut.py") 528, Value.int 192 0, Value.int 1 0, Value.int 0 0, Value.int 0 0, Value.int 3 0, Value.ref 257, Value.bool Bool.true, Value.int 181 0, Value.ref 258, Value.none, Value.ref 259, Value.ref 260, Value.ref 261, Value.int 531 0, Value.int 192 0, Value.str (Str.ofString "/claim/cut.py") 532]) #[]) .nil .nil) .nil) (.node (fnAt (st B 18) (fun a b s => Obj.mk Value.none Option.none (Data.func (FuncData.mk (Str.ofString "distance_rows") (Str.ofString "distance_rows") a (FuncBody.stmts b) s 0 [] Value.none Value.none Value.none Value.none Option.none Value.none Value.none 0)) #[])) (.node (Obj.mk (Value.type "code") Option.none (Data.fields #[Value.str (Str.ofString "_law_literal") 623, Value.str (Str.ofString "_law_literal") 624, Value.str (Str.ofString "/claim/cut.py") 625, Value.int 261 0, Value.int 1 0, Value.int 0 0, Value.int 0 0, Value.int 3 0, Value.ref 321, Value.bool Bool.true, Value.int 181 0, Value.ref 322, Value.none, Value.ref 323, Value.ref 324, Value.ref 325, Value.int 627 0, Value.int 261 0, Value.str (Str.ofString "/claim/cut.py") 628]) #[]) .nil .nil) .nil)) (.node (u102 P) (.node (Obj.mk (Value.type "tuple") Option.none (Data.seq #[]) #[]) (.node (Obj.mk (Value.type "tuple") Option.none (Data.seq #[]) #[]) .nil .nil) .nil) (.node (Obj.mk Value.none Option.none (Data.fields #[]) #[]) .nil .nil))) (.node (Obj.mk (Value.type "builtin_function_or_method") Option.none (Data.fields #[Value.builtin "object.__init_subclass__", Value.ref 52]) #[]) (.node (Obj.mk (Value.type "tuple") Option.none (Data.seq #[Value.str (Str.ofString "self") 289, Value.str (Str.ofString "count") 290]) #[]) (.node (Obj.mk (Value.type "tuple") Option.none (Data.seq #[]) #[]) (.node (Obj.mk (Value.type "tuple") Option.none (Data.seq #[Value.int 0 558]) #[]) .nil .nil) .nil) (.node (o214.1) (.node (Obj.mk (Value.type "tuple") Option.none (Data.seq #[]) #[]) .nil .nil) .nil)) (.node (Obj.mk (Value.type "builtin_function_or_method") Option.none (Data.fields #[Value.builtin "object.__init_subclass__", Value.ref 114]) #[]) (.node (u182 P) (.node (o310.1) .nil .nil) .nil) (.node (Obj.mk (Value.type "tuple") Option.none (Data.seq #[]) #[]) .nil .nil)))) (.node (Obj.mk (Value.type "tuple") Option.none (Data.seq #[]) #[]) (.node (Obj.mk (Value.type "tuple") Option.none (Data.seq #[]) #[]) (.node (Obj.mk Value.none Option.none (Data.fields #[]) #[]) (.node (Obj.mk (Value.type "tuple") Option.none (Data.seq #[Value.str (Str.ofString "lengths") 360]) #[]) (.node (o270.1) .nil .nil) .nil) (.node (Obj.mk (Value.type "code") Option.none (Data.fields #[Value.str (Str.ofString "length_order") 445, Value.str (Str.ofString "length_order") 446, Value.str (Str.ofString "/claim/cut.py") 447, Value.int 119 0, Value.int 0 0, Value.int 0 0, Value.int 0 0, Value.int 3 0, Value.ref 201, Value.bool Bool.true, Value.int 181 0, Value.ref 202, Value.none, Value.ref 203, Value.ref 204, Value.ref 205, Value.int 450 0, Value.int 119 0, Value.str (Str.ofString "/claim/cut.py") 451]) #[]) (.node (o334.1) .nil .nil) .nil)) (.node (u110 P) (.node (Obj.mk Value.none Option.none (Data.fields #[]) #[]) (.node (Obj.mk Value.none Option.none (Data.fields #[]) #[]) .nil .nil) .nil) (.node (Obj.mk (Value.type "tuple") Option.none (Data.seq #[Value.str (Str.ofString "bits") 495, Value.str (Str.ofString "literals") 496, Value.str (Str.ofString "distances") 497]) #[]) .nil .nil))) (.node (Obj.mk (Value.type "tuple") Option.none (Data.seq #[]) #[]) (.node (Obj.mk (Value.type "tuple") Option.none (Data.seq #[]) #[]) (.node (o158.1) (.node (Obj.mk (Value.type "tuple") Option.none (Data.seq #[Value.int 0 569]) #[]) .nil .nil) .nil) (.node (Obj.mk (Value.type "tuple") Option.none (Data.seq #[]) #[]) .nil .nil)) (.node (Obj.mk (Value.type "tuple") Option.none (Data.seq #[]) #[]) (.node (Obj.mk (Value.type "tuple") Option.none (Data.seq #[]) #[]) (.node (fnAt (st B 37) (fun a b s => Obj.mk Value.none Option.none (Data.func (FuncData.mk (Str.ofString "_law_row") (Str.ofString "_law_row") a (FuncBody.stmts b) s 0 [] Value.none Value.none Value.none Value.none Option.none Value.none Value.none 0)) #[])) .nil .nil) .nil) (.node (fnAt (st B 26) (fun a b s => Obj.mk Value.none Option.none (Data.func (FuncData.mk (Str.ofString "lay_part") (Str.ofString "lay_part") a (FuncBody.stmts b) s 0 [] Value.none Value.none Value.none Value.none Option.none Value.none Value.none 0)) #[])) .nil .nil))))))))
end Mine
end

section
namespace Mine
open PySem PySem.W PySem.Calls PyProof.Rows
set_option maxRecDepth 1000000
/-- the given program, of its rows the callee's def alone -/
noncomputable def vw : Program := view PySem.Challenge.pw_nn0216_01 [41]
noncomputable def lse : List Str := (["PaperError", "FilterFault", "OCTET", "low_bits", "BitsIn", "greatest_length", "tally_of", "room_left", "is_full", "is_over", "symbols_of", "Decoder", "END", "length_rows", "distance_rows", "length_order", "fixed_lengths", "repeated", "read_lengths", "is_usable", "read_decoders", "read_part", "lay_part", "read_stored", "block_decoders", "inflate_into", "inflate", "blocks_of", "_law_draw", "_law_source", "_law_low", "_law_high", "_law_row", "_law_literal", "_law_rows_are_right", "_law_inflated"] : List String).map Str.ofString
noncomputable def kas : List Nat := [2, 3, 15, 22, 23, 25, 26, 28, 29, 30, 32, 33, 35, 36, 37, 38, 39, 40, 43, 50, 51, 52, 55, 57, 58, 60, 61, 69, 70, 72, 73, 75, 76, 77, 79, 80, 82, 83, 84, 86, 87, 89, 90, 91, 93, 94, 96, 97, 98, 100, 101, 103, 104, 105, 107, 108, 110, 111, 112, 113, 114, 115, 116, 119, 121, 122, 124, 125, 126, 128, 129, 131, 132, 133, 135, 136, 138, 139, 140, 142, 143, 145, 146, 147, 149, 150, 152, 153, 154, 157, 158, 166, 168, 169, 171, 172, 173, 175, 176, 178, 179, 180, 181, 182, 183, 184, 187, 189, 190, 192, 193, 194, 196, 197, 199, 200, 201, 203, 204, 206, 207, 208, 210, 211, 213, 214, 215, 217, 218, 220, 221, 222, 224, 225, 227, 228, 229, 231, 232, 234, 235, 236, 238, 239, 241, 242, 243, 245, 246, 248, 249, 250, 252, 253, 255, 256, 257, 259, 260, 262, 263, 264, 266, 267, 269, 270, 271, 273, 274, 276, 277, 278, 279, 281, 282, 284, 285, 286, 287, 289, 290, 292, 293, 294, 296, 297, 299, 300, 301, 304, 305, 306, 309, 310, 311, 314, 315, 316, 319, 320, 321, 323, 324, 326, 327, 328, 330, 331, 333, 334, 335, 337, 338, 340, 341, 342, 345, 346]
noncomputable def obs (s : Shared) : List (Option Obj) := kas.map s.heap.get?
noncomputable def met (w : World) : List (Option Obj) := (KK w.params).map fun p => some p.2
noncomputable abbrev pg : Program := PySem.Challenge.rw_nn0216_01.row.prog
noncomputable def lf : Life := Life.mk [] [] [] 0 [] [] Bool.false #[] [] 0 Bool.false Bool.false Bool.false 0 [2000, 10, 10] Bool.false 0 Bool.true [] [] 0 Bool.false
noncomputable def env0 : Env := { scope := pg.main.scope, locals := mainNs, globals := mainNs, cells := [], code := Value.ref 13, frame := some 14 }
noncomputable def bd : List Stmt := behindTheImports pg
noncomputable abbrev cE : Code := .body bd env0
noncomputable abbrev p0 : Pos := Pos.mk 0 0 0 0
noncomputable def shT (T : Params → BT) (n k : Nat) (w : World) (os : OsState) : SharedT := ⟨T w.params, n, lf, Array.mk [], Drawn.mk 0 0 0 0, k, os⟩
set_option maxHeartbeats 0
theorem run_0 (w : World) (os : OsState) : topGo treeTable pg w 11 (some (.ref 6)) 12 ⟨boot_heap w.params, Array.mk [], boot_drawn, boot_toks, os⟩ (topStub pg) = some ((shT T0 15 187 w os).abs, ⟨denote treeTable cE, cE, p0, [topFrame p0]⟩) := by kernel_rfl
theorem run_b (w : World) (os : OsState) : segRun treeTable pg w 11 (some (.ref 6)) 1 1 (shT T0 15 187 w os).abs (blockOf bd env0 cE p0 [topFrame p0]) = some (.next, (shT T0 15 187 w os).abs, cE, p0) := by kernel_rfl
theorem run_1 (w : World) (os : OsState) : segRunT treeTable pg w 11 (some (.ref 6)) 1 539 (shT T0 15 187 w os) (piecesOf (bd.take 6) env0 cE p0 [topFrame p0]) = some (.next, shT T1 62 257 w os, cE, Pos.mk 15 0 16 35) := by kernel_rfl
theorem run_2 (w : World) (os : OsState) : segRunT treeTable pg w 11 (some (.ref 6)) 1 831 (shT T1 62 257 w os) (piecesOf ((bd.drop 6).take 9) env0 cE (Pos.mk 15 0 16 35) [topFrame p0]) = some (.next, shT T2 187 419 w os, cE, Pos.mk 78 0 96 63) := by kernel_rfl
theorem run_3 (w : World) (os : OsState) : segRunT treeTable pg w 11 (some (.ref 6)) 1 800 (shT T2 187 419 w os) (piecesOf (bd.drop 15) env0 cE (Pos.mk 78 0 96 63) [topFrame p0]) = some (.next, shT T3 347 655 w os, cE, Pos.mk 281 0 324 80) := by kernel_rfl
theorem run_f (w : World) (os : OsState) : topRun treeTable pg w 11 (some (.ref 6)) 2 (shT T3 347 655 w os).abs ⟨doneF .next, cE, Pos.mk 281 0 324 80, [topFrame p0]⟩ = some (shT T3 347 655 w os).abs := by kernel_rfl
theorem look_1 (w : World) (os : OsState) : (staticsOk (importedModules pg.main.body) (boot_heap w.params) (absHeap (T3 w.params) 347 lf) && namesBound pg (absHeap (T3 w.params) 347 lf) && gensDone ⟨absHeap (T3 w.params) 347 lf, Array.mk [], Drawn.mk 0 0 0 0, 655, os⟩ && laidKept (boot_heap w.params) (absHeap (T3 w.params) 347 lf)) = true := by kernel_rfl
theorem look_2 (w : World) (os : OsState) : openSeen vw lse (importedModules pg.main.body) (fun _ => true) true ⟨absHeap (T3 w.params) 347 lf, Array.mk [], Drawn.mk 0 0 0 0, 655, os⟩ = openGood vw lse := by kernel_rfl
theorem look_3 (w : World) (os : OsState) : obs ⟨absHeap (T3 w.params) 347 lf, Array.mk [], Drawn.mk 0 0 0 0, 655, os⟩ = met w := by kernel_rfl
theorem bd_eq : bd.take 6 ++ ((bd.drop 6).take 9 ++ (bd.drop 15 ++ [])) = bd := by
  rw [List.append_nil, show bd.drop 15 = (bd.drop 6).drop 9 from by rw [List.drop_drop], List.take_append_drop, List.take_append_drop]
theorem left : LeftO pg vw lse (fun _ => true) obs met 4416 := by
  refine LeftO.of_pieces (H₁ := fun P => absHeap (T3 P) 347 lf) (gs₁ := Array.mk []) (d₁ := Drawn.mk 0 0 0 0) (k₁ := 655) (m₀ := 11) (ann := some (.ref 6)) (M := 12 + (1 + (539 + (831 + (800 + 2)))))
    (boot_open (by kernel_rfl) (by kernel_rfl) (by intro s; kernel_rfl)) (fun w => by kernel_rfl) (fun w os => ?_) (by decide) fun w => funext fun os => looks_pair (look_1 w os) (looks_pair (look_2 w os) (look_3 w os))
  have k := piece_app (segRun_of (run_1 w os)) (piece_app (segRun_of (run_2 w os)) (piece_app (segRun_of (run_3 w os)) (piece_nil (run_f w os))))
  rw [bd_eq] at k
  exact go_top (run_0 w os) (piece_block (run_b w os) k)
end Mine
end

section
namespace Mine
open PySem PySem.W PySem.Calls PyProof.Rows
set_option maxRecDepth 1000000
theorem kas_of (P : Params) : kas = (KK P).map (·.1) := by kernel_rfl
theorem said1 : looksOpen PySem.Challenge.rw_nn0216_01.row.prog = true := by
  delta looksOpen
  repeat' (with_reducible refine look_both ?_ ?_)
  all_goals decide +kernel
theorem said2 : PySem.Challenge.rw_nn0216_01.row.wellSaid = true := by
  delta OpenRow.wellSaid OpenRow.partSaid
  repeat' (with_reducible refine look_both ?_ ?_)
  all_goals first | with_reducible exact said1 | decide +kernel
theorem said : PySem.Challenge.rw_nn0216_01.wellSaid = true := by
  delta OpenLaw.wellSaid
  repeat' (with_reducible refine look_both ?_ ?_)
  all_goals first | with_reducible exact said2 | decide +kernel
set_option maxHeartbeats 0
theorem hd {d : DefRec} {kwd : List (Str × Expr)} (hdef : defOf vw "law" = some (d, kwd)) (hp : PySem.Challenge.pw_nn0216_01.theDef "law" = some (d.params, d.body, d.scope)) (hk : kwWritten? d.params.kwonlyargs d.params.kw_defaults = some kwd)
    (walk : WalkT vw lse (fun _ _ => True) (fun w h => (KK w.params).In h) PySem.Challenge.rw_nn0216_01.row.toRowW d kwd) : PySem.Challenge.rw_nn0216_01.Holds := by
  refine holds_law said fun said => ?_
  refine Mine.Top.PySem.W.holds_open (q := vw) (loose := lse) (Xt := fun _ => true) (XP := fun _ _ => True) (Yf := obs) (Ya := met) (YP := fun w h => (KK w.params).In h) (N := 4416)
    left ?_ ?_ (fun _ _ => trivial) (fun _ _ _ _ _ => trivial) hdef hp hk ?_ (by rfl) said (by decide +kernel) ⟨rfl, rfl, rfl, rfl, rfl, by decide +kernel⟩ ?_ walk
  · intro w s e
    exact InK.of kas_of w s e
  · intro w h h' x k
    exact InK.keeps (K := KK) w h h' x k
  · intro s _
    exact recFacts_of (R := PySem.Challenge.rw_nn0216_01.row.toRowW.records) (s := s) rfl
  · w_witness2
end Mine
end

section
namespace Mine
open PySem PySem.W PySem.Calls PyProof.Rows

/-- the world that all is said of: the program, its written part, the heap behind the top -/
structure Wd where
  prog : Program
  w : World
  mb : Str → Option Value
  h₀ : Heap
  kin : (Mine.KK w.params).In h₀
  b : h₀.Ns builtinsNs mb
  hb : ∀ x : Str, x ≠ "__name__" → mb x = bootBuiltins x
  lim : h₀.NoLimit
  dig : ∃ mc, h₀.Ns cStatics mc ∧ mc "sys.int_max_str_digits" = none
noncomputable abbrev Wd.K (W : Wd) : Frag := Mine.KK W.w.params
noncomputable abbrev Wd.M (W : Wd) : Model := model W.prog W.w

theorem len0 {P : List Value → Prop} (h : P []) : ∀ vs : List Value, vs.length = 0 → P vs := fun vs hv => List.eq_nil_of_length_eq_zero hv ▸ h
theorem lenS {n : Nat} {P : List Value → Prop} (h : ∀ a l, l.length = n → P (a :: l)) : ∀ vs : List Value, vs.length = n + 1 → P vs := fun vs hv => by
  cases vs with
  | nil => cases hv
  | cons a l => exact h a l (Nat.succ.inj hv)
theorem len1 {P : List Value → Prop} (h : ∀ a, P [a]) : ∀ vs : List Value, vs.length = 1 → P vs := lenS fun a => len0 (P := fun l => P (a :: l)) (h a)
theorem len2 {P : List Value → Prop} (h : ∀ a b, P [a, b]) : ∀ vs : List Value, vs.length = 2 → P vs := lenS fun a => len1 (P := fun l => P (a :: l)) (h a)
theorem len3 {P : List Value → Prop} (h : ∀ a b c, P [a, b, c]) : ∀ vs : List Value, vs.length = 3 → P vs := lenS fun a => len2 (P := fun l => P (a :: l)) (h a)
theorem len4 {P : List Value → Prop} (h : ∀ a b c d, P [a, b, c, d]) : ∀ vs : List Value, vs.length = 4 → P vs := lenS fun a => len3 (P := fun l => P (a :: l)) (h a)
/-- plain values -/
inductive V where
  | none | bool (b : Bool) | int (i : Int) | str (x : Str) | bytes (b : Array UInt8)
  | tup (vs : List V) | lst (vs : List V) | rng (a b c : Int) | obj (i : Nat) | con (v : Value)
  deriving Inhabited
/-- what may be changed: lists, bytearrays, instances -/
inductive O where
  | list (vs : List V) | barr (b : Array UInt8) | inst (C : Addr) (fs : List (Str × V))
  deriving Inhabited
noncomputable abbrev St := List O
noncomputable abbrev Lc := List (Str × V)

inductive Loc where
  | one (a : Addr) | two (x d : Addr)
noncomputable def Loc.main : Loc → Addr
  | .one a => a
  | .two x _ => x
noncomputable def Loc.addrs : Loc → List Addr
  | .one a => [a]
  | .two x d => [x, d]
noncomputable abbrev Rho := List Loc
noncomputable def Dm (ρ : Rho) : List Addr := ρ.flatMap Loc.addrs
theorem Dm_append (ρ τ : Rho) : Dm (ρ ++ τ) = Dm ρ ++ Dm τ := by simp [Dm]
theorem Dm_mem {ρ : Rho} {i : Nat} {l : Loc} (h : ρ[i]? = some l) {d : Addr} (hd : d ∈ l.addrs) : d ∈ Dm ρ :=
  List.mem_flatMap.mpr ⟨l, List.mem_of_getElem? h, hd⟩
theorem Loc.main_mem (l : Loc) : l.main ∈ l.addrs := by cases l <;> simp [Loc.main, Loc.addrs]

noncomputable def isFr (o : Obj) : Prop := o.cls = .type "frame" ∧ ∃ es n, o.data = .dict es n
/-- all but D stays as it was (a frame's slots may turn) -/
noncomputable def Keeps (D : List Addr) (h h' : Heap) : Prop :=
  ∀ b o, h.get? b = some o → b ∉ D → h'.get? b = some o ∨ (isFr o ∧ ∃ sl, h'.get? b = some { o with slots := sl })

theorem Keeps.of_all {D : List Addr} {h h' : Heap} (k : ∀ b o, h.get? b = some o → h'.get? b = some o) : Keeps D h h' := fun b o e _ => .inl (k b o e)
theorem Keeps.refl (D : List Addr) (h : Heap) : Keeps D h h := fun _ _ e _ => .inl e
theorem Keeps.mono {D D' : List Addr} {h h' : Heap} (k : Keeps D h h') (hs : ∀ d ∈ D, d ∈ D') : Keeps D' h h' := fun b o e hb => k b o e fun q => hb (hs _ q)
theorem Keeps.strict {D : List Addr} {h h' : Heap} (k : Keeps D h h') {b : Addr} {o : Obj} (e : h.get? b = some o) (hb : b ∉ D) (hc : o.cls ≠ .type "frame") : h'.get? b = some o := by
  rcases k b o e hb with q | ⟨q, _⟩
  · exact q
  · exact absurd q.1 hc
theorem Keeps.trans {D D' : List Addr} {h h' h'' : Heap} (k : Keeps D h h') (k' : Keeps D' h' h'') (hs : ∀ d ∈ D', d ∈ D ∨ h.get? d = none) : Keeps D h h'' := by
  intro b o e hb
  have hb' : b ∉ D' := fun q => by
    rcases hs b q with q | q
    · exact hb q
    · rw [q] at e; cases e
  rcases k b o e hb with q | ⟨f, sl, q⟩
  · exact k' b o q hb'
  · rcases k' b _ q hb' with q' | ⟨_, sl', q'⟩
    · exact .inr ⟨f, sl, q'⟩
    · exact .inr ⟨f, sl', q'⟩
theorem Keeps.ns {D : List Addr} {h h' : Heap} {a : Addr} {m : Str → Option Value} (k : Keeps D h h') (hn : h.Ns a m) (ha : a ∉ D) : h'.Ns a m := by
  obtain ⟨o, es, ep, ho, hd, r⟩ := hn
  rcases k a o ho ha with q | ⟨_, sl, q⟩
  · exact ⟨o, es, ep, q, hd, r⟩
  · exact ⟨_, es, ep, q, hd, r⟩
theorem Keeps.of_same {D : List Addr} {a : Addr} {h h' : Heap} (s : Heap.SameBut a h h') (ha : a ∈ D) : Keeps D h h' := fun b o e hb => .inl ((s.2 b fun q => hb (q ▸ ha)).trans e)
theorem Keeps.frame {D : List Addr} {h h' : Heap} (k : Keeps D h h') {b : Addr} {o : Obj} (e : h.get? b = some o) (hb : b ∉ D) (hf : isFr o) : ∃ o', h'.get? b = some o' ∧ isFr o' := by
  rcases k b o e hb with q | ⟨_, sl, q⟩
  · exact ⟨o, q, hf⟩
  · exact ⟨_, q, hf⟩

/-- what a plain value may lead to -/
noncomputable def isVal (o : Obj) : Prop := (∃ xs n, o.data = .seq xs n) ∨ ∃ vs, o.data = .fields vs ∧ o.cls = .type "range" ∧ vs.size = 3
noncomputable def KeepsV (D : List Addr) (h h' : Heap) : Prop := ∀ b o, h.get? b = some o → b ∉ D → isVal o → h'.get? b = some o
theorem isVal.notFr {o : Obj} (v : isVal o) (f : isFr o) : False := by
  obtain ⟨_, es, n, hd⟩ := f
  rcases v with ⟨xs, k, e⟩ | ⟨vs, e, _⟩ <;> rw [hd] at e <;> cases e
theorem Keeps.vals {D : List Addr} {h h' : Heap} (k : Keeps D h h') : KeepsV D h h' := fun b o e hb v => by
  rcases k b o e hb with q | ⟨q, _⟩
  · exact q
  · exact (v.notFr q).elim
theorem KeepsV.of_all {D : List Addr} {h h' : Heap} (k : ∀ b o, h.get? b = some o → h'.get? b = some o) : KeepsV D h h' := fun b o e _ _ => k b o e
theorem KeepsV.trans {D D' : List Addr} {h h' h'' : Heap} (k : KeepsV D h h') (k' : KeepsV D' h' h'') (hs : ∀ d ∈ D', d ∈ D ∨ h.get? d = none) : KeepsV D h h'' := by
  intro b o e hb hv
  refine k' b o (k b o e hb hv) (fun q => ?_) hv
  rcases hs b q with q | q
  · exact hb q
  · rw [q] at e; cases e

mutual
/-- in the heap h, with the changeable objects at ρ, the value is this plain value -/
noncomputable def Rp (ρ : Rho) (h : Heap) : V → Value → Prop
  | .none, v => v = .none
  | .bool b, v => v = .bool b
  | .int i, v => ∃ t, v = .int i t
  | .str x, v => ∃ t, v = .str x t
  | .bytes b, v => ∃ t, v = .bytes b t
  | .tup ds, v => ∃ a o items n, v = .ref a ∧ h.get? a = some o ∧ o.cls = .type "tuple" ∧ o.data = .seq items n ∧ a ∉ Dm ρ ∧ Rps ρ h ds items.toList
  | .lst ds, v => ∃ a o items n, v = .ref a ∧ h.get? a = some o ∧ o.cls = .type "list" ∧ o.data = .seq items n ∧ a ∉ Dm ρ ∧ Rps ρ h ds items.toList
  | .rng x y z, v => ∃ a t u w, v = .ref a ∧ IsRange h a x y z t u w ∧ a ∉ Dm ρ
  | .obj i, v => ∃ l, ρ[i]? = some l ∧ v = .ref l.main
  | .con c, v => v = c
noncomputable def Rps (ρ : Rho) (h : Heap) : List V → List Value → Prop
  | [], vs => vs = []
  | d :: ds, vs => ∃ v r, vs = v :: r ∧ Rp ρ h d v ∧ Rps ρ h ds r
end

section
variable {ρ more : Rho} {h h' : Heap}
mutual
theorem Rp.mono (hk : KeepsV (Dm ρ) h h') (hm : ∀ d ∈ Dm more, h.get? d = none) : ∀ (d : V) (v : Value), Rp ρ h d v → Rp (ρ ++ more) h' d v
  | .none, _, q => q
  | .bool _, _, q => q
  | .int _, _, q => q
  | .str _, _, q => q
  | .bytes _, _, q => q
  | .tup ds, v, q => by
    unfold Rp at q ⊢
    obtain ⟨a, o, items, n, e, ho, hc, hd, ha, hr⟩ := q
    refine ⟨a, o, items, n, e, hk _ _ ho ha (.inl ⟨_, _, hd⟩), hc, hd, ?_, Rps.mono hk hm ds _ hr⟩
    rw [Dm_append]
    intro q
    rcases List.mem_append.mp q with q | q
    · exact ha q
    · rw [hm a q] at ho; cases ho
  | .lst ds, v, q => by
    unfold Rp at q ⊢
    obtain ⟨a, o, items, n, e, ho, hc, hd, ha, hr⟩ := q
    refine ⟨a, o, items, n, e, hk _ _ ho ha (.inl ⟨_, _, hd⟩), hc, hd, ?_, Rps.mono hk hm ds _ hr⟩
    rw [Dm_append]
    intro q
    rcases List.mem_append.mp q with q | q
    · exact ha q
    · rw [hm a q] at ho; cases ho
  | .rng x y z, v, q => by
    unfold Rp at q ⊢
    obtain ⟨a, t, u, w, e, ho, ha⟩ := q
    refine ⟨a, t, u, w, e, hk _ _ ho ha (.inr ⟨_, rfl, rfl, rfl⟩), ?_⟩
    rw [Dm_append]
    intro q
    rcases List.mem_append.mp q with q | q
    · exact ha q
    · have := hm a q
      unfold IsRange at ho
      rw [this] at ho; cases ho
  | .obj i, v, q => by
    unfold Rp at q ⊢
    obtain ⟨l, hl, e⟩ := q
    exact ⟨l, by rw [List.getElem?_append_left (List.getElem?_eq_some_iff.mp hl).1]; exact hl, e⟩
  | .con _, _, q => q
theorem Rps.mono (hk : KeepsV (Dm ρ) h h') (hm : ∀ d ∈ Dm more, h.get? d = none) : ∀ (ds : List V) (vs : List Value), Rps ρ h ds vs → Rps (ρ ++ more) h' ds vs
  | [], _, q => q
  | d :: ds, vs, q => by
    unfold Rps at q ⊢
    obtain ⟨v, r, e, a, b⟩ := q
    exact ⟨v, r, e, Rp.mono hk hm d v a, Rps.mono hk hm ds r b⟩
end
end

theorem Rps.length {ρ : Rho} {h : Heap} : ∀ {ds : List V} {vs : List Value}, Rps ρ h ds vs → vs.length = ds.length
  | [], _, q => by unfold Rps at q; subst q; rfl
  | _ :: ds, _, q => by
    unfold Rps at q
    obtain ⟨v, r, rfl, _, b⟩ := q
    simp [Rps.length b]
theorem Rps.append {ρ : Rho} {h : Heap} : ∀ {ds es : List V} {vs us : List Value}, Rps ρ h ds vs → Rps ρ h es us → Rps ρ h (ds ++ es) (vs ++ us)
  | [], _, _, _, q, q' => by unfold Rps at q; subst q; exact q'
  | d :: ds, es, vs, us, q, q' => by
    unfold Rps at q
    obtain ⟨v, r, rfl, a, b⟩ := q
    show Rps ρ h (d :: (ds ++ es)) (v :: (r ++ us))
    unfold Rps
    exact ⟨v, _, rfl, a, b.append q'⟩
theorem Rps.get {ρ : Rho} {h : Heap} : ∀ {ds : List V} {vs : List Value} {i : Nat} {d : V}, Rps ρ h ds vs → ds[i]? = some d → ∃ v, vs[i]? = some v ∧ Rp ρ h d v
  | [], _, _, _, _, e => by cases e
  | d :: ds, vs, i, d', q, e => by
    unfold Rps at q
    obtain ⟨v, r, rfl, a, b⟩ := q
    cases i with
    | zero => cases e; exact ⟨v, rfl, a⟩
    | succ i => exact Rps.get b (i := i) (by simpa using e)
theorem Rps.take {ρ : Rho} {h : Heap} : ∀ {ds : List V} {vs : List Value} (i : Nat), Rps ρ h ds vs → Rps ρ h (ds.take i) (vs.take i)
  | [], _, i, q => by unfold Rps at q; subst q; simp [Rps]
  | d :: ds, vs, i, q => by
    unfold Rps at q
    obtain ⟨v, r, rfl, a, b⟩ := q
    cases i with
    | zero => simp [Rps]
    | succ i => simp only [List.take_succ_cons]; unfold Rps; exact ⟨_, _, rfl, a, b.take i⟩
theorem Rps.drop {ρ : Rho} {h : Heap} : ∀ {ds : List V} {vs : List Value} (i : Nat), Rps ρ h ds vs → Rps ρ h (ds.drop i) (vs.drop i)
  | [], _, i, q => by unfold Rps at q; subst q; simp [Rps]
  | d :: ds, vs, i, q => by
    unfold Rps at q
    obtain ⟨v, r, rfl, a, b⟩ := q
    cases i with
    | zero => simp only [List.drop_zero]; unfold Rps; exact ⟨_, _, rfl, a, b⟩
    | succ i => simp only [List.drop_succ_cons]; exact b.drop i
theorem Rps.set {ρ : Rho} {h : Heap} {d : V} {v : Value} (hd : Rp ρ h d v) : ∀ {ds : List V} {vs : List Value} (i : Nat), Rps ρ h ds vs → Rps ρ h (ds.set i d) (vs.set i v)
  | [], _, i, q => by unfold Rps at q; subst q; simp [Rps]
  | d :: ds, vs, i, q => by
    unfold Rps at q
    obtain ⟨v, r, rfl, a, b⟩ := q
    cases i with
    | zero => simp only [List.set_cons_zero]; unfold Rps; exact ⟨_, _, rfl, hd, b⟩
    | succ i => simp only [List.set_cons_succ]; unfold Rps; exact ⟨_, _, rfl, a, b.set hd i⟩
theorem Rps.one {ρ : Rho} {h : Heap} {d : V} {v : Value} (hd : Rp ρ h d v) : Rps ρ h [d] [v] := by unfold Rps; exact ⟨v, [], rfl, hd, by unfold Rps; rfl⟩
theorem Rps.cons {ρ : Rho} {h : Heap} {d : V} {v : Value} {ds : List V} {vs : List Value} (hd : Rp ρ h d v) (hr : Rps ρ h ds vs) : Rps ρ h (d :: ds) (v :: vs) := by unfold Rps; exact ⟨v, vs, rfl, hd, hr⟩
theorem Rps.nil {ρ : Rho} {h : Heap} : Rps ρ h [] [] := by unfold Rps; rfl

noncomputable def FsR (ρ : Rho) (h : Heap) (fs : List (Str × V)) (m : Str → Option Value) : Prop :=
  ∀ x, match fs.lookup x with
    | some v => ∃ r, m x = some r ∧ Rp ρ h v r
    | none => m x = none
noncomputable def ObjR (ρ : Rho) (h : Heap) : Loc → O → Prop
  | .one a, .list vs => ∃ items, h.PlainList a items ∧ Rps ρ h vs items.toList
  | .one a, .barr b => h.get? a = some { cls := .type "bytearray", data := .bytearray b 0 }
  | .two x d, .inst C fs => (∃ o, h.get? x = some o ∧ o.cls = .ref C ∧ o.dict = some d ∧ o.data = .plain) ∧
      ∃ o es n m, h.get? d = some o ∧ o.cls = .type "dict" ∧ o.data = .dict es n ∧ StrKeys es ∧ (∀ x, nsFind es x = m x) ∧ es.size ≤ fs.length ∧ FsR ρ h fs m
  | _, _ => False

structure Inv (W : Wd) (ρ : Rho) (σ : St) (h : Heap) : Prop where
  keep : ∀ b o, W.h₀.get? b = some o → h.get? b = some o
  fresh : ∀ d ∈ Dm ρ, W.h₀.get? d = none
  nodup : (Dm ρ).Nodup
  len : ρ.length = σ.length
  objs : ∀ (i : Nat) (l : Loc) (o : O), ρ[i]? = some l → σ[i]? = some o → ObjR ρ h l o

theorem Inv.kin {W : Wd} {ρ : Rho} {σ : St} {h : Heap} (I : Inv W ρ σ h) : W.K.In h := W.kin.keeps I.keep

theorem FsR.mono {ρ more : Rho} {h h' : Heap} {fs : List (Str × V)} {m : Str → Option Value} (hk : KeepsV (Dm ρ) h h') (hm : ∀ d ∈ Dm more, h.get? d = none) (F : FsR ρ h fs m) : FsR (ρ ++ more) h' fs m := by
  intro x
  have := F x
  split at this
  · obtain ⟨r, e, q⟩ := this
    exact ⟨r, e, q.mono hk hm⟩
  · exact this

/-- an object of the ledger that stays as it is -/
theorem ObjR.mono {ρ more : Rho} {h h' : Heap} {l : Loc} {o : O} (hk : KeepsV (Dm ρ) h h') (hm : ∀ d ∈ Dm more, h.get? d = none)
    (hs : ∀ d ∈ l.addrs, h'.get? d = h.get? d) (R : ObjR ρ h l o) : ObjR (ρ ++ more) h' l o := by
  cases l with
  | one a => cases o with
    | list vs =>
      obtain ⟨items, ⟨n, ho⟩, hr⟩ := R
      exact ⟨items, ⟨n, (hs a (by simp [Loc.addrs])).trans ho⟩, hr.mono hk hm⟩
    | barr b => exact (hs a (by simp [Loc.addrs])).trans R
    | inst C fs => exact R.elim
  | two x d => cases o with
    | inst C fs =>
      obtain ⟨⟨o, ho, r⟩, o', es, n, m, ho', hc', hd', hk', hf', hz', hm'⟩ := R
      exact ⟨⟨o, (hs x (by simp [Loc.addrs])).trans ho, r⟩, o', es, n, m, (hs d (by simp [Loc.addrs])).trans ho', hc', hd', hk', hf', hz', hm'.mono hk hm⟩
    | _ => exact R.elim

theorem ObjR.there {ρ : Rho} {h : Heap} {l : Loc} {o : O} (R : ObjR ρ h l o) : ∀ d ∈ l.addrs, ∃ ob, h.get? d = some ob ∧ ob.cls ≠ .type "frame" := by
  cases l with
  | one a => cases o with
    | list vs =>
      obtain ⟨items, ⟨n, ho⟩, hr⟩ := R
      intro d hd
      simp only [Loc.addrs, List.mem_singleton] at hd
      subst hd
      exact ⟨_, ho, by show Value.type "list" ≠ _; decide⟩
    | barr b =>
      intro d hd
      simp only [Loc.addrs, List.mem_singleton] at hd
      subst hd
      exact ⟨_, R, by show Value.type "bytearray" ≠ _; decide⟩
    | inst C fs => exact R.elim
  | two x d => cases o with
    | inst C fs =>
      obtain ⟨⟨o, ho, hc, _⟩, o', es, n, m, ho', hc', _⟩ := R
      intro d' hd
      simp only [Loc.addrs, List.mem_cons, List.not_mem_nil, or_false] at hd
      rcases hd with rfl | rfl
      · exact ⟨o, ho, by rw [hc]; intro q; cases q⟩
      · exact ⟨o', ho', by rw [hc']; decide⟩
    | _ => exact R.elim

theorem Inv.there {W : Wd} {ρ : Rho} {σ : St} {h : Heap} (I : Inv W ρ σ h) {d : Addr} (hd : d ∈ Dm ρ) : ∃ ob, h.get? d = some ob ∧ ob.cls ≠ .type "frame" := by
  obtain ⟨l, hl, hd⟩ := List.mem_flatMap.mp hd
  obtain ⟨i, hi, rfl⟩ := List.getElem_of_mem hl
  have h1 : ρ[i]? = some ρ[i] := List.getElem?_eq_getElem hi
  have h2 : σ[i]? = some (σ[i]'(I.len ▸ hi)) := List.getElem?_eq_getElem (I.len ▸ hi)
  exact (I.objs i _ _ h1 h2).there d hd

/-- nothing of the ledger is touched -/
theorem Inv.keeps {W : Wd} {ρ : Rho} {σ : St} {h h' : Heap} (I : Inv W ρ σ h) (hk : Keeps [] h h') (h0 : ∀ b o, W.h₀.get? b = some o → h'.get? b = some o) : Inv W ρ σ h' := by
  refine ⟨h0, I.fresh, I.nodup, I.len, fun i l o h1 h2 => ?_⟩
  have R := I.objs i l o h1 h2
  have := R.mono (more := []) (hk.mono (by simp)).vals (by simp [Dm]) (h' := h') fun d hd => by
    obtain ⟨ob, e, hc⟩ := R.there d hd
    rw [e]; exact hk.strict e (by simp) hc
  rwa [List.append_nil] at this

theorem Inv.all {W : Wd} {ρ : Rho} {σ : St} {h h' : Heap} (I : Inv W ρ σ h) (hk : ∀ b o, h.get? b = some o → h'.get? b = some o) : Inv W ρ σ h' :=
  I.keeps (Keeps.of_all hk) fun b o e => hk _ _ (I.keep b o e)

/-- one object of the ledger is changed -/
theorem Inv.set {W : Wd} {ρ : Rho} {σ : St} {h h' : Heap} (I : Inv W ρ σ h) {i : Nat} {l : Loc} {o' : O} (hl : ρ[i]? = some l) (hk : ∀ b o, h.get? b = some o → b ∉ l.addrs → h'.get? b = some o)
    (R : ObjR ρ h' l o') : Inv W ρ (σ.set i o') h' := by
  have hK : KeepsV (Dm ρ) h h' := fun b o e hb _ => hk b o e fun q => hb (Dm_mem hl q)
  refine ⟨fun b o e => hk b o (I.keep b o e) (fun q => by rw [I.fresh b (Dm_mem hl q)] at e; cases e), I.fresh, I.nodup, by rw [List.length_set]; exact I.len, fun j l' o h1 h2 => ?_⟩
  by_cases hj : i = j
  · subst hj
    rw [hl] at h1; cases h1
    rw [List.getElem?_set_self (by have := (List.getElem?_eq_some_iff.mp h2).1; simpa using this)] at h2
    cases h2
    exact R
  · rw [List.getElem?_set_ne hj] at h2
    have R' := I.objs j l' o h1 h2
    have := R'.mono (more := []) hK (by simp [Dm]) (h' := h') fun d hd => by
      obtain ⟨ob, e, hc⟩ := R'.there d hd
      rw [e]
      refine hk d ob e fun q => ?_
      -- two places of the ledger share no address
      have nd := I.nodup
      obtain ⟨hi', ei⟩ := List.getElem?_eq_some_iff.mp hl
      obtain ⟨hj', ej⟩ := List.getElem?_eq_some_iff.mp h1
      have pw := (List.pairwise_flatMap.mp nd).2
      rcases Nat.lt_or_gt_of_ne hj with lt | gt
      · have := List.pairwise_iff_getElem.mp pw i j hi' hj' lt
        exact this d (ei ▸ q) d (ej ▸ hd) rfl
      · have := List.pairwise_iff_getElem.mp pw j i hj' hi' gt
        exact this d (ej ▸ hd) d (ei ▸ q) rfl
    rwa [List.append_nil] at this

/-- a new object onto the ledger -/
theorem Inv.push {W : Wd} {ρ : Rho} {σ : St} {h h' : Heap} (I : Inv W ρ σ h) {l : Loc} {o' : O} (hk : ∀ b o, h.get? b = some o → h'.get? b = some o)
    (hn : ∀ d ∈ l.addrs, h.get? d = none) (hd : l.addrs.Nodup) (R : ObjR (ρ ++ [l]) h' l o') : Inv W (ρ ++ [l]) (σ ++ [o']) h' := by
  have hD : Dm (ρ ++ [l]) = Dm ρ ++ l.addrs := by rw [Dm_append]; simp [Dm]
  have hm : ∀ d ∈ Dm [l], h.get? d = none := by simpa [Dm] using hn
  refine ⟨fun b o e => hk b o (I.keep b o e), fun d hd => ?_, ?_, by simp [I.len], fun j l' o h1 h2 => ?_⟩
  · rw [hD] at hd
    rcases List.mem_append.mp hd with q | q
    · exact I.fresh d q
    · cases e : W.h₀.get? d with
      | none => rfl
      | some o => have := I.keep d o e; rw [hn d q] at this; cases this
  · rw [hD]
    refine List.nodup_append.mpr ⟨I.nodup, hd, fun a ha b hb e => ?_⟩
    subst e
    obtain ⟨ob, e, _⟩ := I.there ha
    rw [hn a hb] at e; cases e
  · by_cases hj : j < ρ.length
    · rw [List.getElem?_append_left hj] at h1
      rw [List.getElem?_append_left (I.len ▸ hj)] at h2
      have R' := I.objs j l' o h1 h2
      exact R'.mono (KeepsV.of_all hk) hm fun d hd => by
        obtain ⟨ob, e, _⟩ := R'.there d hd
        rw [e]; exact hk d ob e
    · have hj1 : j = ρ.length := by
        have := (List.getElem?_eq_some_iff.mp h1).1
        simp at this; omega
      subst hj1
      rw [List.getElem?_append_right (Nat.le_refl _)] at h1
      rw [I.len, List.getElem?_append_right (Nat.le_refl _)] at h2
      simp at h1 h2
      subst h1; subst h2
      exact R

end Mine
end

section
namespace Mine
open PySem PySem.W PySem.Calls PyProof.Rows

/-- from s to s' nothing that stood is changed but X and the ledger -/
structure Stp (X : List Addr) (ρ : Rho) (s : Shared) (ρ' : Rho) (s' : Shared) : Prop where
  same : ∃ h' t', s' = { s with heap := h', toks := t' }
  keeps : Keeps (X ++ Dm ρ) s.heap s'.heap
  vals : KeepsV (Dm ρ) s.heap s'.heap
  more : ∃ more, ρ' = ρ ++ more ∧ ∀ d ∈ Dm more, s.heap.get? d = none
  frs : ∀ b o, s.heap.get? b = some o → b ∉ Dm ρ → isFr o → ∃ o', s'.heap.get? b = some o' ∧ isFr o'
  ex : ∀ b o, s.heap.get? b = some o → ∃ o', s'.heap.get? b = some o'

section
variable {X Y : List Addr} {ρ ρ₁ ρ₂ : Rho} {s s₁ s₂ : Shared}
theorem Stp.dm (t : Stp X ρ s ρ₁ s₁) {d : Addr} (hd : d ∈ Dm ρ₁) : d ∈ Dm ρ ∨ s.heap.get? d = none := by
  obtain ⟨more, rfl, hm⟩ := t.more
  rw [Dm_append] at hd
  rcases List.mem_append.mp hd with q | q
  · exact .inl q
  · exact .inr (hm d q)
theorem Stp.dm' (t : Stp X ρ s ρ₁ s₁) {d : Addr} (hd : d ∈ Dm ρ) : d ∈ Dm ρ₁ := by
  obtain ⟨more, rfl, _⟩ := t.more
  rw [Dm_append]; exact List.mem_append_left _ hd
theorem Stp.out (t : Stp X ρ s ρ₁ s₁) {d : Addr} {o : Obj} (e : s.heap.get? d = some o) (hd : d ∉ Dm ρ) : d ∉ Dm ρ₁ := fun q => by
  rcases t.dm q with q | q
  · exact hd q
  · rw [q] at e; cases e
theorem Stp.refl (ρ : Rho) (s : Shared) : Stp X ρ s ρ s :=
  ⟨⟨_, _, rfl⟩, Keeps.refl _ _, fun _ _ e _ _ => e, ⟨[], by simp, by simp [Dm]⟩, fun _ o e _ f => ⟨o, e, f⟩, fun _ o e => ⟨o, e⟩⟩
theorem Stp.trans (t : Stp X ρ s ρ₁ s₁) (t' : Stp Y ρ₁ s₁ ρ₂ s₂) (hy : ∀ y ∈ Y, y ∈ X ∨ y ∈ Dm ρ ∨ s.heap.get? y = none) : Stp X ρ s ρ₂ s₂ := by
  refine ⟨?_, t.keeps.trans t'.keeps fun d hd => ?_, t.vals.trans t'.vals fun d hd => t.dm hd, ?_, fun b o e hb f => ?_, fun b o e => ?_⟩
  · obtain ⟨h1, t1, rfl⟩ := t.same
    obtain ⟨h2, t2, e⟩ := t'.same
    exact ⟨h2, t2, by rw [e]⟩
  · rcases List.mem_append.mp hd with q | q
    · rcases hy d q with z | z | z
      · exact .inl (List.mem_append_left _ z)
      · exact .inl (List.mem_append_right _ z)
      · exact .inr z
    · rcases t.dm q with z | z
      · exact .inl (List.mem_append_right _ z)
      · exact .inr z
  · obtain ⟨m1, rfl, h1⟩ := t.more
    obtain ⟨m2, rfl, h2⟩ := t'.more
    refine ⟨m1 ++ m2, by simp, fun d hd => ?_⟩
    rw [Dm_append] at hd
    rcases List.mem_append.mp hd with q | q
    · exact h1 d q
    · cases e : s.heap.get? d with
      | none => rfl
      | some o => obtain ⟨o', e'⟩ := t.ex d o e; rw [h2 d q] at e'; cases e'
  · obtain ⟨o1, e1, f1⟩ := t.frs b o e hb f
    exact t'.frs b o1 e1 (t.out e hb) f1
  · obtain ⟨o1, e1⟩ := t.ex b o e
    exact t'.ex b o1 e1
theorem Stp.trans0 (t : Stp X ρ s ρ₁ s₁) (t' : Stp [] ρ₁ s₁ ρ₂ s₂) : Stp X ρ s ρ₂ s₂ := t.trans t' (by simp)
theorem Stp.tr (t : Stp X ρ s ρ₁ s₁) (t' : Stp X ρ₁ s₁ ρ₂ s₂) : Stp X ρ s ρ₂ s₂ := t.trans t' fun y hy => .inl hy
theorem Stp.weak (t : Stp [] ρ s ρ₁ s₁) : Stp X ρ s ρ₁ s₁ := ⟨t.same, t.keeps.mono (by simp; intro d hd; exact .inr hd), t.vals, t.more, t.frs, t.ex⟩
theorem Stp.mono (t : Stp X ρ s ρ₁ s₁) (h : ∀ x ∈ X, x ∈ Y) : Stp Y ρ s ρ₁ s₁ :=
  ⟨t.same, t.keeps.mono (by intro d hd; rcases List.mem_append.mp hd with q | q; exact List.mem_append_left _ (h _ q); exact List.mem_append_right _ q), t.vals, t.more, t.frs, t.ex⟩
theorem Stp.rp (t : Stp X ρ s ρ₁ s₁) {d : V} {v : Value} (r : Rp ρ s.heap d v) : Rp ρ₁ s₁.heap d v := by
  obtain ⟨m1, rfl, h1⟩ := t.more
  exact r.mono t.vals h1
theorem Stp.rps (t : Stp X ρ s ρ₁ s₁) {d : List V} {v : List Value} (r : Rps ρ s.heap d v) : Rps ρ₁ s₁.heap d v := by
  obtain ⟨m1, rfl, h1⟩ := t.more
  exact r.mono t.vals h1
/-- nothing that stood is changed -/
theorem Stp.all {h' : Heap} {t' : Nat} (k : ∀ b o, s.heap.get? b = some o → h'.get? b = some o) : Stp X ρ s ρ { s with heap := h', toks := t' } :=
  ⟨⟨_, _, rfl⟩, Keeps.of_all k, KeepsV.of_all k, ⟨[], by simp, by simp [Dm]⟩, fun b o e _ f => ⟨o, k b o e, f⟩, fun b o e => ⟨o, k b o e⟩⟩
theorem Stp.tok {t' : Nat} : Stp X ρ s ρ { s with toks := t' } := Stp.all fun _ _ e => e
/-- one object of the ledger is changed -/
theorem Stp.set {h' : Heap} {t' : Nat} {a : Addr} (ha : a ∈ Dm ρ) (hs : Heap.SameBut a s.heap h') (hx : ∃ o, h'.get? a = some o) : Stp X ρ s ρ { s with heap := h', toks := t' } :=
  have k : ∀ b o, s.heap.get? b = some o → b ≠ a → h'.get? b = some o := fun b o e hb => (hs.2 b hb).trans e
  ⟨⟨_, _, rfl⟩, fun b o e hb => .inl (k b o e fun q => hb (List.mem_append_right _ (q ▸ ha))), fun b o e hb _ => k b o e fun q => hb (q ▸ ha), ⟨[], by simp, by simp [Dm]⟩,
    fun b o e hb f => ⟨o, k b o e fun q => hb (q ▸ ha), f⟩, fun b o e => by
      by_cases hb : b = a
      · subst hb; exact hx
      · exact ⟨o, k b o e hb⟩⟩
/-- a new object onto the ledger -/
theorem Stp.new {h' : Heap} {t' : Nat} {l : Loc} (k : ∀ b o, s.heap.get? b = some o → h'.get? b = some o) (hn : ∀ d ∈ l.addrs, s.heap.get? d = none) : Stp X ρ s (ρ ++ [l]) { s with heap := h', toks := t' } :=
  ⟨⟨_, _, rfl⟩, Keeps.of_all k, KeepsV.of_all k, ⟨[l], rfl, by simpa [Dm] using hn⟩, fun b o e _ f => ⟨o, k b o e, f⟩, fun b o e => ⟨o, k b o e⟩⟩
end

structure Room (n : Nat) (A : Around) : Prop where
  depth : A.depth + 8 * n + 8 < recursionLimit
  units : A.units + 60 * n + 60 < cLine
theorem Room.mono {n m : Nat} {A : Around} (r : Room n A) (h : m ≤ n) : Room m A := ⟨by have := r.depth; omega, by have := r.units; omega⟩
noncomputable def FrsOk (W : Wd) (ρ : Rho) (h : Heap) (l : List Env) : Prop :=
  ∀ env ∈ l, env.scope.kind ≠ .module ∧ ∃ L o, env.frame = some L ∧ W.h₀.get? L = none ∧ L ∉ Dm ρ ∧ h.get? L = some o ∧ isFr o

structure Pre (W : Wd) (n : Nat) (A : Around) (ρ : Rho) (σ : St) (s : Shared) : Prop where
  room : Room n A
  hand : A.handled = none
  frs : ∃ l, A.frames = some l ∧ FrsOk W ρ s.heap l
  inv : Inv W ρ σ s.heap
theorem FrsOk.step {W : Wd} {X : List Addr} {ρ ρ' : Rho} {s s' : Shared} {l : List Env} (F : FrsOk W ρ s.heap l) (t : Stp X ρ s ρ' s') : FrsOk W ρ' s'.heap l := fun env he => by
  obtain ⟨a, L, o, b, c, d, e, f⟩ := F env he
  obtain ⟨o', e', f'⟩ := t.frs L o e d f
  exact ⟨a, L, o', b, c, t.out e d, e', f'⟩
theorem Pre.step {W : Wd} {n : Nat} {A : Around} {X : List Addr} {ρ ρ' : Rho} {σ σ' : St} {s s' : Shared} (P : Pre W n A ρ σ s) (t : Stp X ρ s ρ' s') (I : Inv W ρ' σ' s'.heap) : Pre W n A ρ' σ' s' :=
  ⟨P.room, P.hand, let ⟨l, a, F⟩ := P.frs; ⟨l, a, F.step t⟩, I⟩
theorem Pre.down {W : Wd} {n m : Nat} {A : Around} {ρ : Rho} {σ : St} {s : Shared} (P : Pre W n A ρ σ s) (h : m ≤ n) : Pre W m A ρ σ s := ⟨P.room.mono h, P.hand, P.frs, P.inv⟩
theorem Pre.in1 {W : Wd} {n : Nat} {A : Around} {ρ : Rho} {σ : St} {s : Shared} (P : Pre W n A ρ σ s) (h : 0 < n) : Pre W (n - 1) A.in1 ρ σ s :=
  ⟨⟨by have := P.room.depth; show A.depth + _ + _ < _; omega, by have := P.room.units; show A.units + 1 + _ + _ < _; omega⟩, P.hand, P.frs, P.inv⟩
theorem Pre.kin {W : Wd} {n : Nat} {A : Around} {ρ : Rho} {σ : St} {s : Shared} (P : Pre W n A ρ σ s) : W.K.In s.heap := P.inv.kin
theorem Pre.lim {W : Wd} {n : Nat} {A : Around} {ρ : Rho} {σ : St} {s : Shared} (P : Pre W n A ρ σ s) : s.heap.NoLimit := W.lim.keeps P.inv.keep
theorem Pre.u {W : Wd} {n : Nat} {A : Around} {ρ : Rho} {σ : St} {s : Shared} (P : Pre W n A ρ σ s) : A.units < cLine := by have := P.room.units; omega
theorem Pre.d {W : Wd} {n : Nat} {A : Around} {ρ : Rho} {σ : St} {s : Shared} (P : Pre W n A ρ σ s) : A.depth < recursionLimit := by have := P.room.depth; omega

/-- the exception at e is under way (it and its trace were not there in hb) -/
noncomputable def Fly (hb : Heap) (ρ : Rho) (e : Addr) (h : Heap) : Prop :=
  ∃ oe vs a0, h.get? e = some oe ∧ oe.cls = .ref 52 ∧ oe.data = .fields vs ∧ vs[0]? = some a0 ∧ hb.get? e = none ∧ e ∉ Dm ρ ∧
    (vs[1]? = some .none ∨ ∃ T oT ts, vs[1]? = some (.ref T) ∧ hb.get? T = none ∧ T ∉ Dm ρ ∧ T ≠ e ∧ h.get? T = some oT ∧ oT.data = .fields ts ∧ ts[3]? = some .none)
theorem Fly.base {hb hb' : Heap} {ρ : Rho} {e : Addr} {h : Heap} (f : Fly hb' ρ e h) (k : ∀ b o, hb.get? b = some o → ∃ o', hb'.get? b = some o') : Fly hb ρ e h := by
  have n : ∀ b, hb'.get? b = none → hb.get? b = none := fun b hn => by
    cases q : hb.get? b with
    | none => rfl
    | some o => obtain ⟨o', e⟩ := k b o q; rw [hn] at e; cases e
  obtain ⟨oe, vs, a0, h1, h2, h3, h4, h5, h6, h7⟩ := f
  refine ⟨oe, vs, a0, h1, h2, h3, h4, n e h5, h6, h7.imp id ?_⟩
  rintro ⟨T, oT, ts, g1, g2, r⟩
  exact ⟨T, oT, ts, g1, n T g2, r⟩

noncomputable def own (env : Env) : List Addr := env.locals :: env.cells.map (·.2)

/-- the names of a frame -/
structure EnvOk (W : Wd) (sc : Scope) (ρ : Rho) (h : Heap) (env : Env) (loc : Lc) : Prop where
  scope : env.scope = sc
  kind : sc.kind = .function
  glob : env.globals = mainGlobals
  bi : env.builtins = builtinsNs
  lo : env.locals ∉ Dm ρ ∧ W.h₀.get? env.locals = none
  ns : ∃ m, h.Ns env.locals m ∧ ∀ x v, loc.lookup x = some v → sc.names.lookup x = some .local → ∃ r, m x = some r ∧ Rp ρ h v r
  cells : ∀ x c, env.cells.lookup x = some c → c ∉ Dm ρ ∧ c ≠ env.locals ∧ W.h₀.get? c = none ∧ ∃ v, h.IsCell c v
  inj : ∀ x y c, env.cells.lookup x = some c → env.cells.lookup y = some c → x = y
  cn : ∀ y, sc.names.lookup y = some .cell → (env.cells.lookup y).isSome = true
  cvals : ∀ x v, loc.lookup x = some v → sc.names.lookup x ≠ some .local → (sc.names.lookup x = some .cell ∨ sc.names.lookup x = some .free) ∧ ∃ c r, env.cells.lookup x = some c ∧ h.IsCell c (some r) ∧ Rp ρ h v r
  there : ∀ d ∈ own env, ∃ o, h.get? d = some o

theorem Keeps.cell {D : List Addr} {h h' : Heap} {c : Addr} {v : Option Value} (k : Keeps D h h') (x : h.IsCell c v) (hc : c ∉ D) : h'.IsCell c v := by
  obtain ⟨o, ho, hd⟩ := x
  rcases k c o ho hc with q | ⟨⟨_, es, n, f⟩, _⟩
  · exact ⟨o, q, hd⟩
  · rw [hd] at f; cases f

theorem EnvOk.step {W : Wd} {sc : Scope} {ρ ρ' : Rho} {s s' : Shared} {env : Env} {loc : Lc} (N : EnvOk W sc ρ s.heap env loc) (t : Stp [] ρ s ρ' s') : EnvOk W sc ρ' s'.heap env loc := by
  obtain ⟨m, hn, hm⟩ := N.ns
  refine ⟨N.scope, N.kind, N.glob, N.bi, ⟨?_, N.lo.2⟩, ⟨m, t.keeps.ns hn (by simpa using N.lo.1), fun x v e l => ?_⟩, fun x c e => ?_, N.inj, N.cn, fun x v e l => ?_, fun d hd => let ⟨o, e⟩ := N.there d hd; t.ex d o e⟩
  · obtain ⟨o, _, _, ho, _⟩ := hn
    exact t.out ho N.lo.1
  · obtain ⟨r, a, b⟩ := hm x v e l
    exact ⟨r, a, t.rp b⟩
  · obtain ⟨a, b, b', v, y⟩ := N.cells x c e
    obtain ⟨o, ho, hd⟩ := y
    exact ⟨t.out ho a, b, b', v, t.keeps.cell ⟨o, ho, hd⟩ (by simpa using a)⟩
  · obtain ⟨k, c, r, a, b, d⟩ := N.cvals x v e l
    exact ⟨k, c, r, a, t.keeps.cell b (by simpa using (N.cells x c a).1), t.rp d⟩
theorem EnvOk.sub {W : Wd} {sc : Scope} {ρ : Rho} {h : Heap} {env : Env} {loc loc' : Lc} (N : EnvOk W sc ρ h env loc) (hs : ∀ x v, loc'.lookup x = some v → loc.lookup x = some v) : EnvOk W sc ρ h env loc' :=
  ⟨N.scope, N.kind, N.glob, N.bi, N.lo, let ⟨m, a, b⟩ := N.ns; ⟨m, a, fun x v e l => b x v (hs x v e) l⟩, N.cells, N.inj, N.cn, fun x v e l => N.cvals x v (hs x v e) l, N.there⟩

/-- the exceptional end, of a tree in no frame; of one in the frame env -/
noncomputable def EX (W : Wd) (ρ : Rho) (s : Shared) (X : St → Prop) (E : Value → Shared → Prop) : Prop :=
  ∀ e σ' ρ' s', X σ' → Stp [] ρ s ρ' s' → Inv W ρ' σ' s'.heap → Fly s.heap ρ' e s'.heap → E (.ref e) s'
structure EOk (W : Wd) (A : Around) (env : Env) (ρ : Rho) (s : Shared) (X : St → Prop) (E : Value → Shared → Prop) : Prop where
  pass : PassesOwn W.M A env E
  ex : ∀ e σ' ρ' s', X σ' → Stp (own env) ρ s ρ' s' → Inv W ρ' σ' s'.heap → Fly s.heap ρ' e s'.heap → E (.ref e) s'
theorem EOk.step {W : Wd} {A : Around} {env : Env} {ρ ρ' : Rho} {s s' : Shared} {X : St → Prop} {E : Value → Shared → Prop} (H : EOk W A env ρ s X E) (t : Stp (Mine.own env) ρ s ρ' s') : EOk W A env ρ' s' X E :=
  ⟨H.pass, fun e σ₂ ρ₂ s₂ hx t₂ I f => H.ex e σ₂ ρ₂ s₂ hx (t.tr t₂) I (f.base t.ex)⟩
theorem EOk.toEX {W : Wd} {A : Around} {env : Env} {ρ : Rho} {s : Shared} {X : St → Prop} {E : Value → Shared → Prop} (H : EOk W A env ρ s X E) : EX W ρ s X E :=
  fun e σ₂ ρ₂ s₂ hx t₂ I f => H.ex e σ₂ ρ₂ s₂ hx t₂.weak I f
theorem EX.step {W : Wd} {ρ ρ' : Rho} {s s' : Shared} {X : St → Prop} {E : Value → Shared → Prop} (H : EX W ρ s X E) (t : Stp [] ρ s ρ' s') : EX W ρ' s' X E :=
  fun e σ₂ ρ₂ s₂ hx t₂ I f => H e σ₂ ρ₂ s₂ hx (t.tr t₂) I (f.base t.ex)
theorem EOk.step0 {W : Wd} {A : Around} {env : Env} {ρ ρ' : Rho} {s s' : Shared} {X : St → Prop} {E : Value → Shared → Prop} (H : EOk W A env ρ s X E) (t : Stp [] ρ s ρ' s') : EOk W A env ρ' s' X E := H.step t.weak

/-- the plain end, with a value; with a list of values; with a flow -/
noncomputable def PV (W : Wd) (ρ : Rho) (s : Shared) (K : V → St → Prop) (x : Value) (s' : Shared) : Prop :=
  ∃ v σ' ρ', K v σ' ∧ Stp [] ρ s ρ' s' ∧ Inv W ρ' σ' s'.heap ∧ Rp ρ' s'.heap v x
noncomputable def PVs (W : Wd) (ρ : Rho) (s : Shared) (K : List V → St → Prop) (x : List Value) (s' : Shared) : Prop :=
  ∃ v σ' ρ', K v σ' ∧ Stp [] ρ s ρ' s' ∧ Inv W ρ' σ' s'.heap ∧ Rps ρ' s'.heap v x
theorem PV.elim {W : Wd} {ρ : Rho} {s s' : Shared} {K : V → St → Prop} {x : Value} {P : Prop} (q : PV W ρ s K x s') (h : ∀ v σ' ρ', K v σ' → Stp [] ρ s ρ' s' → Inv W ρ' σ' s'.heap → Rp ρ' s'.heap v x → P) : P := by
  obtain ⟨v, σ', ρ', a, b, c, d⟩ := q; exact h v σ' ρ' a b c d
theorem PVs.elim {W : Wd} {ρ : Rho} {s s' : Shared} {K : List V → St → Prop} {x : List Value} {P : Prop} (q : PVs W ρ s K x s') (h : ∀ v σ' ρ', K v σ' → Stp [] ρ s ρ' s' → Inv W ρ' σ' s'.heap → Rps ρ' s'.heap v x → P) : P := by
  obtain ⟨v, σ', ρ', a, b, c, d⟩ := q; exact h v σ' ρ' a b c d
theorem ex5 {α β : Type} {A B C : α → β → Prop} {P : Prop} (q : ∃ a b, A a b ∧ B a b ∧ C a b) (h : ∀ a b, A a b → B a b → C a b → P) : P := by
  obtain ⟨a, b, x, y, z⟩ := q; exact h a b x y z
theorem PV.lift {W : Wd} {ρ ρ₁ : Rho} {s s₁ s' : Shared} {K : V → St → Prop} {x : Value} (t : Stp [] ρ s ρ₁ s₁) (p : PV W ρ₁ s₁ K x s') : PV W ρ s K x s' :=
  let ⟨v, σ', ρ', k, t', r⟩ := p; ⟨v, σ', ρ', k, t.tr t', r⟩
theorem PVs.lift {W : Wd} {ρ ρ₁ : Rho} {s s₁ s' : Shared} {K : List V → St → Prop} {x : List Value} (t : Stp [] ρ s ρ₁ s₁) (p : PVs W ρ₁ s₁ K x s') : PVs W ρ s K x s' :=
  let ⟨v, σ', ρ', k, t', r⟩ := p; ⟨v, σ', ρ', k, t.tr t', r⟩
inductive Fl where
  | next | brk | cont | ret (v : V)
noncomputable def FlR (ρ : Rho) (h : Heap) : Fl → Flow → Prop
  | .next, f => f = .next
  | .brk, f => f = .brk
  | .cont, f => f = .cont
  | .ret v, f => ∃ x, f = .ret x ∧ Rp ρ h v x
noncomputable def PF (W : Wd) (sc : Scope) (env : Env) (ρ : Rho) (s : Shared) (K : Fl → Lc → St → Prop) (f : Flow) (s' : Shared) : Prop :=
  ∃ fl loc' σ' ρ', K fl loc' σ' ∧ Stp (own env) ρ s ρ' s' ∧ Inv W ρ' σ' s'.heap ∧ EnvOk W sc ρ' s'.heap env loc' ∧ FlR ρ' s'.heap fl f
theorem PF.elim {W : Wd} {sc : Scope} {env : Env} {ρ : Rho} {s s' : Shared} {K : Fl → Lc → St → Prop} {f : Flow} {P : Prop} (q : PF W sc env ρ s K f s')
    (h : ∀ fl loc' σ' ρ', K fl loc' σ' → Stp (own env) ρ s ρ' s' → Inv W ρ' σ' s'.heap → EnvOk W sc ρ' s'.heap env loc' → FlR ρ' s'.heap fl f → P) : P := by
  obtain ⟨fl, l, σ', ρ', a, b, c, d, e⟩ := q; exact h fl l σ' ρ' a b c d e
theorem PF.lift {W : Wd} {sc : Scope} {env : Env} {ρ ρ₁ : Rho} {s s₁ s' : Shared} {K : Fl → Lc → St → Prop} {f : Flow} (t : Stp (own env) ρ s ρ₁ s₁) (p : PF W sc env ρ₁ s₁ K f s') : PF W sc env ρ s K f s' :=
  let ⟨v, l, σ', ρ', k, t', r⟩ := p; ⟨v, l, σ', ρ', k, t.tr t', r⟩

/-- a tree over values -/
noncomputable def OKt (W : Wd) (n : Nat) (t : List Value → Sem Value) (args : List V) (σ : St) (K : V → St → Prop) (X : St → Prop) : Prop :=
  ∀ A ρ s vs E, Pre W n A ρ σ s → Rps ρ s.heap args vs → EX W ρ s X E → wpAny W.M A (t vs) (PV W ρ s K) E s
/-- an expression, some expressions, a statement, some statements in a frame -/
noncomputable def OKe (W : Wd) (n : Nat) (sc : Scope) (e : Expr) (loc : Lc) (σ : St) (K : V → St → Prop) (X : St → Prop) : Prop :=
  ∀ A env ρ s E, Pre W n A ρ σ s → EnvOk W sc ρ s.heap env loc → EOk W A env ρ s X E → wpAny W.M A (eval e env) (PV W ρ s K) E s
noncomputable def OKb (W : Wd) (n : Nat) (sc : Scope) (e : Expr) (loc : Lc) (σ : St) (K : Bool → St → Prop) (X : St → Prop) : Prop :=
  ∀ A env ρ s E, Pre W n A ρ σ s → EnvOk W sc ρ s.heap env loc → EOk W A env ρ s X E → wpAny W.M A (isTrue e env (eval e env)) (fun b s' => ∃ σ' ρ', K b σ' ∧ Stp [] ρ s ρ' s' ∧ Inv W ρ' σ' s'.heap) E s
noncomputable def OKa (W : Wd) (n : Nat) (sc : Scope) (es : List Expr) (loc : Lc) (σ : St) (K : List V → St → Prop) (X : St → Prop) : Prop :=
  ∀ A env ρ s E pos, Pre W n A ρ σ s → EnvOk W sc ρ s.heap env loc → EOk W A env ρ s X E → wpAny W.M A (spliced (backTo pos (starEach es env))) (PVs W ρ s K) E s
noncomputable def OKx (W : Wd) (n : Nat) (sc : Scope) (st : Stmt) (loc : Lc) (σ : St) (K : Fl → Lc → St → Prop) (X : St → Prop) : Prop :=
  ∀ A env ρ s E, Pre W n A ρ σ s → EnvOk W sc ρ s.heap env loc → EOk W A env ρ s X E → wpAny W.M A (exec st env) (PF W sc env ρ s K) E s
noncomputable def OKs (W : Wd) (n : Nat) (sc : Scope) (ss : List Stmt) (loc : Lc) (σ : St) (K : Fl → Lc → St → Prop) (X : St → Prop) : Prop :=
  ∀ A env ρ s E, Pre W n A ρ σ s → EnvOk W sc ρ s.heap env loc → EOk W A env ρ s X E → wpAny W.M A (execs ss env) (PF W sc env ρ s K) E s
/-- a call of the value f -/
noncomputable abbrev OKc (W : Wd) (n : Nat) (f : Value) (args : List V) (σ : St) (K : V → St → Prop) (X : St → Prop) : Prop := OKt W n (fun vs => call f vs) args σ K X

section
variable {W : Wd} {n : Nat} {sc : Scope} {loc : Lc} {σ : St} {K : V → St → Prop} {X : St → Prop}

theorem OKt.mono {t : List Value → Sem Value} {args : List V} {K' : V → St → Prop} (h : OKt W n t args σ K X) (hk : ∀ v σ', K v σ' → K' v σ') : OKt W n t args σ K' X :=
  fun A ρ s vs E P R H => wpAny_mono (h A ρ s vs E P R H) (fun _ _ ⟨v, σ', ρ', k, r⟩ => ⟨v, σ', ρ', hk _ _ k, r⟩) fun _ _ x => x
theorem OKt.down {t : List Value → Sem Value} {args : List V} {m : Nat} (h : OKt W m t args σ K X) (hm : m ≤ n) : OKt W n t args σ K X :=
  fun A ρ s vs E P R H => h A ρ s vs E (P.down hm) R H
theorem OKt.exc {t : List Value → Sem Value} {args : List V} {X' : St → Prop} (h : OKt W n t args σ K X) (hx : ∀ σ', X σ' → X' σ') : OKt W n t args σ K X' :=
  fun A ρ s vs E P R H => h A ρ s vs E P R fun e σ' ρ' s' q => H e σ' ρ' s' (hx _ q)
theorem OKe.mono {e : Expr} {K' : V → St → Prop} (h : OKe W n sc e loc σ K X) (hk : ∀ v σ', K v σ' → K' v σ') : OKe W n sc e loc σ K' X :=
  fun A env ρ s E P N H => wpAny_mono (h A env ρ s E P N H) (fun _ _ ⟨v, σ', ρ', k, r⟩ => ⟨v, σ', ρ', hk _ _ k, r⟩) fun _ _ x => x
theorem OKs.mono {ss : List Stmt} {K K' : Fl → Lc → St → Prop} (h : OKs W n sc ss loc σ K X) (hk : ∀ f l σ', K f l σ' → K' f l σ') : OKs W n sc ss loc σ K' X :=
  fun A env ρ s E P N H => wpAny_mono (h A env ρ s E P N H) (fun _ _ ⟨v, l, σ', ρ', k, r⟩ => ⟨v, l, σ', ρ', hk _ _ _ k, r⟩) fun _ _ x => x
/-- what follows, by a name -/
theorem OKs.gen {ss : List Stmt} {K : Fl → Lc → St → Prop} (h : ∀ K' : Fl → Lc → St → Prop, (∀ f l σ', K f l σ' → K' f l σ') → OKs W n sc ss loc σ K' X) : OKs W n sc ss loc σ K X := h K fun _ _ _ x => x
theorem OKe.gen {e : Expr} {K : V → St → Prop} (h : ∀ K' : V → St → Prop, (∀ v σ', K v σ' → K' v σ') → OKe W n sc e loc σ K' X) : OKe W n sc e loc σ K X := h K fun _ _ x => x
theorem OKs.sub {ss : List Stmt} {loc' : Lc} {K : Fl → Lc → St → Prop} (h : OKs W n sc ss loc' σ K X) (hs : ∀ x v, loc'.lookup x = some v → loc.lookup x = some v) : OKs W n sc ss loc σ K X :=
  fun A env ρ s E P N H => h A env ρ s E P (N.sub hs) H
end

end Mine
end

section
namespace Mine
open PySem PySem.W PySem.Calls PyProof.Rows

section
variable {W : Wd} {n : Nat} {sc : Scope} {loc : Lc} {σ : St} {K : V → St → Prop} {X : St → Prop}

/-- trees over values, by name -/
noncomputable def binT (op : Operator) : List Value → Sem Value
  | [a, b] => binaryOp op a b
  | _ => unsupported "binT"
noncomputable def cmpT (op : CmpOp) : List Value → Sem Value
  | [a, b] => compareOp op a b
  | _ => unsupported "cmpT"
noncomputable def unT (op : UnaryOp) : List Value → Sem Value
  | [a] => unaryOp op a
  | _ => unsupported "unT"
noncomputable def inpT (op : Operator) : List Value → Sem Value
  | [a, b] => inplaceOp op a b
  | _ => unsupported "inpT"

theorem e_int {i : Int} {k : Nat} {pos : Pos} (h : K (.int i) σ) : OKe W n sc (.Constant (.int i) k pos) loc σ K X :=
  fun _ _ ρ _ _ P _ _ => wpAny_Constant_int ⟨_, _, ρ, h, Stp.tok, P.inv, ⟨_, rfl⟩⟩
theorem e_str {x : Str} {k : Nat} {pos : Pos} (h : K (.str x) σ) : OKe W n sc (.Constant (.str x) k pos) loc σ K X :=
  fun _ _ ρ _ _ P _ _ => wpAny_Constant_str ⟨_, _, ρ, h, Stp.tok, P.inv, ⟨_, rfl⟩⟩
theorem e_none {k : Nat} {pos : Pos} (h : K .none σ) : OKe W n sc (.Constant .none k pos) loc σ K X :=
  fun _ _ ρ _ _ P _ _ => PySem.wpAny_Constant_none ⟨_, _, ρ, h, Stp.refl _ _, P.inv, rfl⟩
theorem e_bool {b : Bool} {k : Nat} {pos : Pos} (h : K (.bool b) σ) : OKe W n sc (.Constant (.bool b) k pos) loc σ K X :=
  fun _ _ ρ _ _ P _ _ => PySem.wpAny_Constant_bool ⟨_, _, ρ, h, Stp.refl _ _, P.inv, rfl⟩

theorem EnvOk.hk {ρ : Rho} {h : Heap} {env : Env} (N : EnvOk W sc ρ h env loc) : env.scope.kind = .function := N.scope ▸ N.kind
theorem EnvOk.kindOf {ρ : Rho} {h : Heap} {env : Env} (N : EnvOk W sc ρ h env loc) (x : Str) : env.kindOf x = sc.names.lookup x := by rw [← N.scope]; rfl

theorem load_loc {M : Model} {A : Around} {E : Value → Shared → Prop} {ρ : Rho} {s : Shared} {env : Env} {x : Str} {v : V} {Q : Value → Shared → Prop} (N : EnvOk W sc ρ s.heap env loc) (hv : loc.lookup x = some v)
    (h : ∀ r, Rp ρ s.heap v r → Q r s) (hc : (x == ("__classdict__" : Str)) = false) : wpAny M A (loadName env x) Q E s := by
  by_cases hl : sc.names.lookup x = some .local
  · obtain ⟨m, hn, hm⟩ := N.ns
    obtain ⟨r, e, q⟩ := hm x v hv hl
    exact wpAny_loadName_local N.hk ((N.kindOf x).trans hl) hn e (h r q)
  · obtain ⟨k, c, r, e1, e2, q⟩ := N.cvals x v hv hl
    rcases k with k | k
    · exact wpAny_loadName_cell N.hk ((N.kindOf x).trans k) e1 e2 (h r q)
    · exact wpAny_loadName_free N.hk ((N.kindOf x).trans k) e1 e2 (h r q) hc

theorem e_loc {x : Str} {pos : Pos} (v : V) (hv : loc.lookup x = some v) (h : K v σ) (hd : (x == ("__debug__" : Str)) = false := by decide) (hc : (x == ("__classdict__" : Str)) = false := by decide) :
    OKe W n sc (.Name x pos) loc σ K X :=
  fun _ _ ρ s _ P N _ => wpAny_Name (load_loc N hv (fun r q => ⟨_, _, ρ, h, Stp.refl _ _, P.inv, q⟩) hc) hd

/-- what a global name is -/
noncomputable def glb (W : Wd) (x : Str) : Option Value := match nsIn W.K mainGlobals x with
  | some (some v) => some v
  | some none => if x == ("__name__" : Str) then none else bootBuiltins x
  | none => none
theorem load_glb {A : Around} {E : Value → Shared → Prop} {ρ : Rho} {s : Shared} {env : Env} {x : Str} {v : Value} {Q : Value → Shared → Prop} (P : Pre W n A ρ σ s) (N : EnvOk W sc ρ s.heap env loc)
    (hk : sc.names.lookup x = some .globalImplicit) (hg : glb W x = some v) (h : Q v s) (hd : (x == ("__debug__" : Str)) = false) {pos : Pos} : wpAny W.M A (eval (.Name x pos) env) Q E s := by
  refine Name_function_global N.hk ((N.kindOf x).trans hk) ?_ hd
  unfold loadGlobal
  rw [N.glob, N.bi]
  unfold glb at hg
  split at hg
  · rename_i u e
    cases hg
    exact wpAny_bind ((looks_nsIn P.kin e).here (wpAny_pure h))
  · rename_i e
    refine wpAny_bind ((looks_nsIn P.kin e).here ?_)
    split at hg
    · cases hg
    · rename_i ne
      refine wpAny_bind (wpAny_nsGet (W.b.keeps P.inv.keep) ?_)
      rw [W.hb x (by intro q; rw [q] at ne; exact ne (by decide)), hg]
      exact wpAny_pure h
  · cases hg
theorem e_glb {x : Str} {pos : Pos} (v : Value) (hg : glb W x = some v) (h : K (.con v) σ) (hk : sc.names.lookup x = some .globalImplicit := by rfl) (hd : (x == ("__debug__" : Str)) = false := by decide) :
    OKe W n sc (.Name x pos) loc σ K X :=
  fun _ _ ρ s _ P N _ => load_glb P N hk hg ⟨_, _, ρ, h, Stp.refl _ _, P.inv, rfl⟩ hd
theorem e_glbI {x : Str} {pos : Pos} (i : Int) (t : Tok) (hg : glb W x = some (.int i t)) (h : K (.int i) σ) (hk : sc.names.lookup x = some .globalImplicit := by rfl) (hd : (x == ("__debug__" : Str)) = false := by decide) :
    OKe W n sc (.Name x pos) loc σ K X :=
  fun _ _ ρ s _ P N _ => load_glb P N hk hg ⟨_, _, ρ, h, Stp.refl _ _, P.inv, ⟨_, rfl⟩⟩ hd

theorem e_bin {l r : Expr} {op : Operator} {pos : Pos} (h : OKe W n sc l loc σ (fun a σ₁ => OKe W n sc r loc σ₁ (fun b σ₂ => OKt W n (binT op) [a, b] σ₂ K X) X) X) :
    OKe W n sc (.BinOp l op r pos) loc σ K X := by
  intro A env ρ s E P N H
  refine wpAny_BinOp (wpAny_mono (h A env ρ s E P N H) (fun va s₁ q_ => q_.elim fun a σ₁ ρ₁ k₁ t₁ I₁ r₁ => ?_) fun _ _ x => x)
  refine wpAny_mono (k₁ A env ρ₁ s₁ E (P.step t₁ I₁) (N.step t₁) (H.step0 t₁)) (fun vb s₂ q_ => q_.elim fun b σ₂ ρ₂ k₂ t₂ I₂ r₂ => ?_) fun _ _ x => x
  have t := t₁.tr t₂
  exact wpAny_mono (k₂ A ρ₂ s₂ [va, vb] E (P.step t I₂) (Rps.cons (t₂.rp r₁) (Rps.one r₂)) (H.toEX.step t)) (fun _ _ p => p.lift t) fun _ _ x => x

theorem e_cmp {l r : Expr} {op : CmpOp} {pos : Pos} (h : OKe W n sc l loc σ (fun a σ₁ => OKe W n sc r loc σ₁ (fun b σ₂ => OKt W n (cmpT op) [a, b] σ₂ K X) X) X)
    (hm : behindInMarks op r = false := by with_unfolding_all rfl) : OKe W n sc (.Compare l [op] [r] pos) loc σ K X := by
  intro A env ρ s E P N H
  refine wpAny_Compare1 (wpAny_mono (h A env ρ s E P N H) (fun va s₁ q_ => q_.elim fun a σ₁ ρ₁ k₁ t₁ I₁ r₁ => ?_) fun _ _ x => x) hm
  refine wpAny_mono (k₁ A env ρ₁ s₁ E (P.step t₁ I₁) (N.step t₁) (H.step0 t₁)) (fun vb s₂ q_ => q_.elim fun b σ₂ ρ₂ k₂ t₂ I₂ r₂ => ?_) fun _ _ x => x
  have t := t₁.tr t₂
  exact wpAny_mono (k₂ A ρ₂ s₂ [va, vb] E (P.step t I₂) (Rps.cons (t₂.rp r₁) (Rps.one r₂)) (H.toEX.step t)) (fun _ _ p => p.lift t) fun _ _ x => x

theorem e_un {e : Expr} {op : UnaryOp} {pos : Pos} (h : OKe W n sc e loc σ (fun a σ₁ => OKt W n (unT op) [a] σ₁ K X) X) : OKe W n sc (.UnaryOp op e pos) loc σ K X := by
  intro A env ρ s E P N H
  refine PySem.wpAny_UnaryOp (wpAny_mono (h A env ρ s E P N H) (fun va s₁ q_ => q_.elim fun a σ₁ ρ₁ k₁ t₁ I₁ r₁ => ?_) fun _ _ x => x)
  exact wpAny_mono (k₁ A ρ₁ s₁ [va] E (P.step t₁ I₁) (Rps.one r₁) (H.toEX.step t₁)) (fun _ _ p => p.lift t₁) fun _ _ x => x

/-- truth of plain values -/
theorem b_cmp {Kb : Bool → St → Prop} {l r : Expr} {op : CmpOp} {pos : Pos}
    (h : OKe W n sc l loc σ (fun a σ₁ => OKe W n sc r loc σ₁ (fun b σ₂ => OKt W n (cmpT op) [a, b] σ₂ (fun v σ₃ => ∃ c, v = .bool c ∧ Kb c σ₃) X) X) X)
    (hm : behindInMarks op r = false := by with_unfolding_all rfl) : OKb W n sc (.Compare l [op] [r] pos) loc σ Kb X := by
  intro A env ρ s E P N H
  refine wpAny_isTrue_Compare1 (wpAny_mono (h A env ρ s E P N H) (fun va s₁ q_ => q_.elim fun a σ₁ ρ₁ k₁ t₁ I₁ r₁ => ?_) fun _ _ x => x) hm
  refine wpAny_mono (k₁ A env ρ₁ s₁ E (P.step t₁ I₁) (N.step t₁) (H.step0 t₁)) (fun vb s₂ q_ => q_.elim fun b σ₂ ρ₂ k₂ t₂ I₂ r₂ => ?_) fun _ _ x => x
  have t := t₁.tr t₂
  refine wpAny_mono (k₂ A ρ₂ s₂ [va, vb] E (P.step t I₂) (Rps.cons (t₂.rp r₁) (Rps.one r₂)) (H.toEX.step t)) (fun v s₃ q_ => q_.elim fun c σ₃ ρ₃ k₃ t₃ I₃ r₃ => ?_) fun _ _ x => x
  obtain ⟨d, rfl, k₃⟩ := k₃
  unfold Rp at r₃
  subst r₃
  exact wpAny_truthy_bool ⟨σ₃, ρ₃, k₃, t.tr t₃, I₃⟩
theorem b_not {Kb : Bool → St → Prop} {e : Expr} {pos : Pos} (h : OKb W n sc e loc σ (fun b σ₁ => Kb (!b) σ₁) X) : OKb W n sc (.UnaryOp .Not e pos) loc σ Kb X :=
  fun A env ρ s E P N H => wpAny_isTrue_Not (h A env ρ s E P N H)
theorem b_boolV {Kb : Bool → St → Prop} {e : Expr} (h : OKe W n sc e loc σ (fun v σ₁ => ∃ c, v = .bool c ∧ Kb c σ₁) X)
    (he : ∀ env whole, isTrue e env whole = (do let v ← whole; standAt e.pos; holding [v] (truthy v)) := by intro _ _; rfl) : OKb W n sc e loc σ Kb X := by
  intro A env ρ s E P N H
  refine PySem.wpAny_isTrue_value (wpAny_mono (h A env ρ s E P N H) (fun v s₁ q_ => q_.elim fun c σ₁ ρ₁ k₁ t₁ I₁ r₁ => ?_) fun _ _ x => x) (he _ _)
  obtain ⟨d, rfl, k₁⟩ := k₁
  unfold Rp at r₁
  subst r₁
  exact wpAny_truthy_bool ⟨σ₁, ρ₁, k₁, t₁, I₁⟩
/-- all, any -/
noncomputable def OKor (W : Wd) (n : Nat) (sc : Scope) (es : List Expr) (loc : Lc) (σ : St) (K : Bool → St → Prop) (X : St → Prop) : Prop :=
  ∀ A env ρ s E, Pre W n A ρ σ s → EnvOk W sc ρ s.heap env loc → EOk W A env ρ s X E → wpAny W.M A (allTrue .Or es env) (fun b s' => ∃ σ' ρ', K b σ' ∧ Stp [] ρ s ρ' s' ∧ Inv W ρ' σ' s'.heap) E s
theorem or_nil {Kb : Bool → St → Prop} (h : Kb false σ) : OKor W n sc [] loc σ Kb X := fun _ _ ρ _ _ P _ _ => wpAny_allTrue_Or_nil ⟨_, ρ, h, Stp.refl _ _, P.inv⟩
theorem or_cons {Kb : Bool → St → Prop} {e : Expr} {r : List Expr} (h : OKb W n sc e loc σ (fun b σ₁ => (b = true → Kb true σ₁) ∧ (b = false → OKor W n sc r loc σ₁ Kb X)) X) : OKor W n sc (e :: r) loc σ Kb X := by
  intro A env ρ s E P N H
  refine wpAny_allTrue_Or_cons (wpAny_mono (h A env ρ s E P N H) (fun b s₁ q_ => ex5 q_ fun σ₁ ρ₁ k₁ t₁ I₁ => ?_) fun _ _ x => x)
  cases b with
  | true => exact ⟨_, _, k₁.1 rfl, t₁, I₁⟩
  | false => exact wpAny_mono (k₁.2 rfl A env ρ₁ s₁ E (P.step t₁ I₁) (N.step t₁) (H.step0 t₁)) (fun _ _ q_ => ex5 q_ fun σ₂ ρ₂ k₂ t₂ I₂ => ⟨σ₂, ρ₂, k₂, t₁.tr t₂, I₂⟩) fun _ _ x => x
theorem b_or {Kb : Bool → St → Prop} {es : List Expr} {pos : Pos} (h : OKor W n sc es loc σ Kb X) : OKb W n sc (.BoolOp .Or es pos) loc σ Kb X :=
  fun A env ρ s E P N H => wpAny_isTrue_BoolOp (h A env ρ s E P N H)

theorem e_ife {t b o : Expr} {pos : Pos} (h : OKb W n sc t loc σ (fun c σ₁ => (c = true → OKe W n sc b loc σ₁ K X) ∧ (c = false → OKe W n sc o loc σ₁ K X)) X) : OKe W n sc (.IfExp t b o pos) loc σ K X := by
  intro A env ρ s E P N H
  refine wpAny_IfExp (wpAny_mono (h A env ρ s E P N H) (fun c s₁ q_ => ex5 q_ fun σ₁ ρ₁ k₁ t₁ I₁ => ?_) fun _ _ x => x)
  cases c with
  | true => exact wpAny_mono (k₁.1 rfl A env ρ₁ s₁ E (P.step t₁ I₁) (N.step t₁) (H.step0 t₁)) (fun _ _ p => p.lift t₁) fun _ _ x => x
  | false => exact wpAny_mono (k₁.2 rfl A env ρ₁ s₁ E (P.step t₁ I₁) (N.step t₁) (H.step0 t₁)) (fun _ _ p => p.lift t₁) fun _ _ x => x

theorem a_nil {Ka : List V → St → Prop} (h : Ka [] σ) : OKa W n sc [] loc σ Ka X := fun _ _ ρ _ _ _ P _ _ => wpAny_pure ⟨_, _, ρ, h, Stp.refl _ _, P.inv, Rps.nil⟩
theorem a_cons {Ka : List V → St → Prop} {e : Expr} {r : List Expr} (h : OKe W n sc e loc σ (fun v σ₁ => OKa W n sc r loc σ₁ (fun vs σ₂ => Ka (v :: vs) σ₂) X) X)
    (he : ∀ env, starEach (e :: r) env = (false, eval e env) :: starEach r env := by intro _; rfl) : OKa W n sc (e :: r) loc σ Ka X := by
  intro A env ρ s E pos P N H
  refine wpAny_items_cons (wpAny_mono (h A env ρ s E P N H) (fun v s₁ q_ => q_.elim fun d σ₁ ρ₁ k₁ t₁ I₁ r₁ => ?_) fun _ _ x => x) (he env)
  refine wpAny_mono (k₁ A env ρ₁ s₁ E pos (P.step t₁ I₁) (N.step t₁) (H.step0 t₁)) (fun vs s₂ q_ => q_.elim fun ds σ₂ ρ₂ k₂ t₂ I₂ r₂ => ?_) fun _ _ x => x
  exact ⟨_, _, _, k₂, t₁.tr t₂, I₂, Rps.cons (t₂.rp r₁) r₂⟩

theorem none_at_size (h : Heap) : h.get? h.objs.size = none := Heap.get?_none_of_le (Nat.le_refl _)
theorem Inv.out {ρ : Rho} {h : Heap} (I : Inv W ρ σ h) {d : Addr} (hd : h.get? d = none) : d ∉ Dm ρ := fun q => by
  obtain ⟨o, e, _⟩ := I.there q
  rw [hd] at e; cases e

theorem e_tup {es : List Expr} {k : Nat} {pos : Pos} (h : OKa W n sc es loc σ (fun vs σ₁ => vs.length ≤ 1000000 ∧ K (.tup vs) σ₁) X) : OKe W n sc (.Tuple es k pos) loc σ K X := by
  intro A env ρ s E P N H
  refine PySem.wpAny_Tuple (wpAny_mono (h A env ρ s E pos P N H) (fun vs s₁ q_ => q_.elim fun ds σ₁ ρ₁ hk_ t₁ I₁ r₁ => have hz := hk_.1; have k₁ := hk_.2; ⟨by rw [r₁.length, sizeLine_eq]; omega, ?_⟩) fun _ _ x => x)
  have k : ∀ b o, s₁.heap.get? b = some o → (s₁.heap.push { cls := .type "tuple", data := .seq vs.toArray }).get? b = some o := fun b o e => Heap.get?_push_of_some _ e
  have t₂ : Stp [] ρ₁ s₁ ρ₁ { s₁ with heap := s₁.heap.push { cls := .type "tuple", data := .seq vs.toArray } } := Stp.all (s := s₁) k
  refine ⟨_, _, ρ₁, k₁, t₁.tr t₂, I₁.all k, ?_⟩
  unfold Rp
  exact ⟨_, _, _, _, rfl, Heap.get?_push_size _ rfl, rfl, rfl, I₁.out (none_at_size _), by simpa using t₂.rps r₁⟩
theorem e_lst {es : List Expr} {pos : Pos} (h : OKa W n sc es loc σ (fun vs σ₁ => vs.length ≤ 1000000 ∧ K (.lst vs) σ₁) X) : OKe W n sc (.List es pos) loc σ K X := by
  intro A env ρ s E P N H
  refine PySem.wpAny_List (wpAny_mono (h A env ρ s E pos P N H) (fun vs s₁ q_ => q_.elim fun ds σ₁ ρ₁ hk_ t₁ I₁ r₁ => have hz := hk_.1; have k₁ := hk_.2; ⟨by rw [r₁.length, sizeLine_eq]; omega, ?_⟩) fun _ _ x => x)
  have k : ∀ b o, s₁.heap.get? b = some o → (s₁.heap.push { cls := .type "list", data := .seq vs.toArray }).get? b = some o := fun b o e => Heap.get?_push_of_some _ e
  have t₂ : Stp [] ρ₁ s₁ ρ₁ { s₁ with heap := s₁.heap.push { cls := .type "list", data := .seq vs.toArray } } := Stp.all (s := s₁) k
  refine ⟨_, _, ρ₁, k₁, t₁.tr t₂, I₁.all k, ?_⟩
  unfold Rp
  exact ⟨_, _, _, _, rfl, Heap.get?_push_size _ rfl, rfl, rfl, I₁.out (none_at_size _), by simpa using t₂.rps r₁⟩
/-- a list that will be changed -/
theorem e_lstM {es : List Expr} {pos : Pos} (h : OKa W n sc es loc σ (fun vs σ₁ => vs.length ≤ 1000000 ∧ K (.obj σ₁.length) (σ₁ ++ [.list vs])) X) : OKe W n sc (.List es pos) loc σ K X := by
  intro A env ρ s E P N H
  refine PySem.wpAny_List (wpAny_mono (h A env ρ s E pos P N H) (fun vs s₁ q_ => q_.elim fun ds σ₁ ρ₁ hk_ t₁ I₁ r₁ => have hz := hk_.1; have k₁ := hk_.2; ⟨by rw [r₁.length, sizeLine_eq]; omega, ?_⟩) fun _ _ x => x)
  have k : ∀ b o, s₁.heap.get? b = some o → (s₁.heap.push { cls := .type "list", data := .seq vs.toArray }).get? b = some o := fun b o e => Heap.get?_push_of_some _ e
  have hn : ∀ d ∈ (Loc.one s₁.heap.objs.size).addrs, s₁.heap.get? d = none := by simp [Loc.addrs]; exact none_at_size _
  have t₂ : Stp [] ρ₁ s₁ (ρ₁ ++ [.one s₁.heap.objs.size]) { s₁ with heap := s₁.heap.push { cls := .type "list", data := .seq vs.toArray } } := Stp.new (s := s₁) k hn
  refine ⟨_, _, ρ₁ ++ [.one s₁.heap.objs.size], k₁, t₁.tr t₂, I₁.push k hn (by simp [Loc.addrs]) ?_, ?_⟩
  · exact ⟨_, ⟨_, Heap.get?_push_size _ rfl⟩, by simpa using t₂.rps r₁⟩
  · unfold Rp
    exact ⟨.one s₁.heap.objs.size, by rw [← I₁.len]; simp, rfl⟩

/-- calls -/
noncomputable def keepOk (K : Frag) : Value → Bool
  | .ref a => keepIn K (.ref a)
  | _ => true
theorem keeps_any {M : Model} {K : Frag} {f : Value} (hk : keepOk K f = true) (h : Heap) (Y : K.In h) : ∃ k, (k = Keeper.frame ∨ k = Keeper.machine ∨ k = Keeper.boundFrame) ∧ Looks M h (keeperOf f) k := by
  cases f with
  | ref a => exact keeps_K (f := .ref a) hk h Y
  | _ => exact ⟨.machine, .inr (.inl rfl), Looks.of_pure rfl⟩

theorem plain_backTo {pos : Pos} {env : Env} : ∀ {es : List Expr}, (es.all fun e => match e with | .Starred .. => false | _ => true) = true → (backTo pos (starEach es env)).any (·.1) = false
  | [], _ => rfl
  | e :: r, h => by
    simp only [List.all_cons, Bool.and_eq_true] at h
    have ih := plain_backTo (pos := pos) (env := env) h.2
    cases e <;> first
      | (simp at h; done)
      | (show (false || (backTo pos (starEach r env)).any (·.1)) = false; rw [ih]; rfl)

theorem evalArgs_any {M : Model} {A : Around} {E : Value → Shared → Prop} {s : Shared} {f : Value} {pos : Pos} {env : Env} {es : List Expr} {Q : Args → Shared → Prop}
    (hp : (es.all fun e => match e with | .Starred .. => false | _ => true) = true)
    (h : wpAny M A (spliced (backTo pos (starEach es env))) (fun vs s' => Q ⟨vs, []⟩ s') E s) : wpAny M A (evalArgs f true (backTo pos (starEach es env)) []) Q E s := by
  cases es with
  | nil =>
    intro Γ p hΓ
    have h' : Q ⟨[], []⟩ s := h Γ p hΓ
    exact PyProof.Rows.evalArgs_nil3 h' Γ p hΓ
  | cons e r =>
    have he : starEach (e :: r) env = (false, eval e env) :: starEach r env := by
      simp only [List.all_cons, Bool.and_eq_true] at hp
      cases e <;> first | rfl | (simp at hp; done)
    rw [he] at h ⊢
    exact evalArgs_plain h

theorem callWith_any {A : Around} {E : Value → Shared → Prop} {s : Shared} {f : Value} {first : List Value} {pos : Pos} {env : Env} {es : List Expr} {Q : Value → Shared → Prop}
    (hk : keepOk W.K f = true) (hp : (es.all fun e => match e with | .Starred .. => false | _ => true) = true)
    (h : wpAny W.M A (spliced (backTo pos (starEach es env))) (fun vs s' => W.K.In s'.heap ∧ wpAny W.M A (call f (first ++ vs)) Q E s') E s) : wpAny W.M A (callWith pos f first (backTo pos (starEach es env)) []) Q E s :=
  callWith_of (by rw [plain_backTo hp]; rfl) (keeps_any hk) (evalArgs_any hp h)

theorem e_call {x : Str} {p pos : Pos} {es : List Expr} (f : Value) (hg : glb W x = some f) (h : OKa W n sc es loc σ (fun vs σ₁ => OKc W n f vs σ₁ K X) X)
    (hk : keepOk W.K f = true := by rfl) (hsc : sc.names.lookup x = some .globalImplicit := by rfl)
    (hp : (es.all fun e => match e with | .Starred .. => false | _ => true) = true := by rfl) (hd : (x == ("__debug__" : Str)) = false := by decide) :
    OKe W n sc (.Call (.Name x p) es [] pos) loc σ K X := by
  intro A env ρ s E P N H
  refine wpAny_Call_Name_kw (load_glb P N hsc hg ?_ hd)
  refine callWith_any hk hp (wpAny_mono (h A env ρ s E pos P N H) (fun vs s₁ q_ => q_.elim fun ds σ₁ ρ₁ k₁ t₁ I₁ r₁ => ⟨I₁.kin, ?_⟩) fun _ _ x => x)
  exact wpAny_mono (k₁ A ρ₁ s₁ vs E (P.step t₁ I₁) r₁ (H.toEX.step t₁)) (fun _ _ p => p.lift t₁) fun _ _ x => x

/-- the method of a value: what is called, with it first -/
noncomputable def OKm (W : Wd) (n : Nat) (o : V) (name : Str) (σ : St) (f : Value) : Prop :=
  ∀ A ρ s v pl (Q : Value × List Value → Shared → Prop) E, Pre W n A ρ σ s → Rp ρ s.heap o v → Q (f, [v]) s → wpAny W.M A (getMethod v name pl) Q E s
theorem e_callm {o : Expr} {name : Str} {ap pos : Pos} {es : List Expr} {pl : Env → Sem Bool}
    (h : OKe W n sc o loc σ (fun ov σ₁ => ∃ f, OKm W n ov name σ₁ f ∧ keepOk W.K f = true ∧ OKa W n sc es loc σ₁ (fun vs σ₂ => OKc W n f (ov :: vs) σ₂ K X) X) X)
    (he : ∀ env, eval (.Call (.Attribute o name ap) es [] pos) env = (do
      let ov ← eval o env
      standAt ap.atName
      let (f, first) ← holding [ov] (getMethod ov name (pl env))
      callWith pos f first (backTo pos (starEach es env)) []) := by intro _; rfl)
    (hp : (es.all fun e => match e with | .Starred .. => false | _ => true) = true := by rfl) :
    OKe W n sc (.Call (.Attribute o name ap) es [] pos) loc σ K X := by
  intro A env ρ s E P N H
  refine MethodCall_ (pl := pl env) (wpAny_mono (h A env ρ s E P N H) (fun v s₁ q_ => q_.elim fun ov σ₁ ρ₁ k₁ t₁ I₁ r₁ => ?_) fun _ _ x => x) (he env)
  obtain ⟨f, hm, hk, ha⟩ := k₁
  refine hm A ρ₁ s₁ v _ _ _ (P.step t₁ I₁) r₁ ?_
  refine callWith_any hk hp (wpAny_mono (ha A env ρ₁ s₁ E pos (P.step t₁ I₁) (N.step t₁) (H.step0 t₁)) (fun vs s₂ q_ => q_.elim fun ds σ₂ ρ₂ k₂ t₂ I₂ r₂ => ⟨I₂.kin, ?_⟩) fun _ _ x => x)
  have t := t₁.tr t₂
  exact wpAny_mono (k₂ A ρ₂ s₂ (v :: vs) E (P.step t I₂) (Rps.cons (t₂.rp r₁) r₂) (H.toEX.step t)) (fun _ _ p => p.lift t) fun _ _ x => x

/-- an attribute -/
noncomputable def getT (name : Str) : List Value → Sem Value
  | [a] => getAttr a name true
  | _ => unsupported "getT"
theorem e_attr {o : Expr} {name : Str} {pos : Pos} (h : OKe W n sc o loc σ (fun ov σ₁ => OKt W n (getT name) [ov] σ₁ K X) X)
    (he : ∀ env, eval (.Attribute o name pos) env = (do
      let o' ← eval o env
      standAt pos.atName
      let r ← holding [o'] (getAttr o' name true)
      letTemporaryGo o o' r
      pure r) := by intro _; with_unfolding_all rfl) : OKe W n sc (.Attribute o name pos) loc σ K X := by
  intro A env ρ s E P N H
  refine Attribute_any_ (wpAny_mono (h A env ρ s E P N H) (fun v s₁ q_ => q_.elim fun ov σ₁ ρ₁ k₁ t₁ I₁ r₁ => ?_) fun _ _ x => x) (he env)
  exact wpAny_mono (k₁ A ρ₁ s₁ [v] E (P.step t₁ I₁) (Rps.one r₁) (H.toEX.step t₁)) (fun _ _ p => p.lift t₁) fun _ _ x => x

/-- an item -/
noncomputable def OKi (W : Wd) (n : Nat) (o i : V) (σ : St) (K : V → St → Prop) (X : St → Prop) : Prop :=
  ∀ A ρ s vo vi E, Pre W n A ρ σ s → Rp ρ s.heap o vo → Rp ρ s.heap i vi → EX W ρ s X E →
    ∃ T id, s.TypeIs vo T ∧ typeLookup (.type T) "__getitem__" = pure (some (.builtin id)) ∧ wpAny W.M A (getItem vo vi) (PV W ρ s K) E s
noncomputable def notSlice : Expr → Bool
  | .Slice .. => false
  | _ => true
theorem subscripted_plain {e : Expr} (h : notSlice e = true) (o i : Value) : subscripted e false o i = operate [o, i] (getItem o i) := by
  cases e <;> first | rfl | cases h
theorem e_idx {v i : Expr} {pos : Pos} (h : OKe W n sc v loc σ (fun o σ₁ => OKe W n sc i loc σ₁ (fun j σ₂ => OKi W n o j σ₂ K X) X) X) (hs : notSlice i = true := by rfl) :
    OKe W n sc (.Subscript v i pos) loc σ K X := by
  intro A env ρ s E P N H
  refine Subscript_ (wpAny_mono (h A env ρ s E P N H) (fun va s₁ q_ => q_.elim fun a σ₁ ρ₁ k₁ t₁ I₁ r₁ => ?_) fun _ _ x => x)
  refine wpAny_mono (k₁ A env ρ₁ s₁ E (P.step t₁ I₁) (N.step t₁) (H.step0 t₁)) (fun vb s₂ q_ => q_.elim fun b σ₂ ρ₂ k₂ t₂ I₂ r₂ => ?_) fun _ _ x => x
  have t := t₁.tr t₂
  obtain ⟨T, id, hT, hl, hg⟩ := k₂ A ρ₂ s₂ va vb E (P.step t I₂) (t₂.rp r₁) r₂ (H.toEX.step t)
  exact tail_any hT hl (wpAny_mono hg (fun _ _ p => p.lift t) fun _ _ x => x) (subscripted_plain hs _ _)

/-- a cut -/
noncomputable def isSliceAt (h : Heap) (i : Addr) (l u : Value) : Prop := h.get? i = some { cls := .type "slice", data := .fields #[l, u, .none] }
noncomputable def OKcut (W : Wd) (n : Nat) (o l u : V) (σ : St) (K : V → St → Prop) (X : St → Prop) : Prop :=
  ∀ A ρ s vo vl vu i E, Pre W n A ρ σ s → Rp ρ s.heap o vo → Rp ρ s.heap l vl → Rp ρ s.heap u vu → isSliceAt s.heap i vl vu → EX W ρ s X E →
    ∃ T id, s.TypeIs vo T ∧ typeLookup (.type T) "__getitem__" = pure (some (.builtin id)) ∧ wpAny W.M A (getItem vo (.ref i)) (PV W ρ s K) E s
/-- a bound that may be missing -/
noncomputable def OKo (W : Wd) (n : Nat) (sc : Scope) (e : Option Expr) (loc : Lc) (σ : St) (K : V → St → Prop) (X : St → Prop) : Prop := match e with
  | some e => OKe W n sc e loc σ K X
  | none => K .none σ
theorem OKo.run {e : Option Expr} (h : OKo W n sc e loc σ K X) {A : Around} {env : Env} {ρ : Rho} {s : Shared} {E : Value → Shared → Prop} (P : Pre W n A ρ σ s) (N : EnvOk W sc ρ s.heap env loc) (H : EOk W A env ρ s X E) :
    wpAny W.M A (valueOrNone (evalOpt e env)) (PV W ρ s K) E s := by
  cases e with
  | some e => exact h A env ρ s E P N H
  | none => exact wpAny_pure ⟨_, _, ρ, h, Stp.refl _ _, P.inv, by unfold Rp; rfl⟩
theorem eval_Slice2 (l u : Option Expr) (p : Pos) (env : Env) : eval (.Slice l u none p) env = (do
    let a ← valueOrNone (evalOpt l env)
    let b ← holding [a] (valueOrNone (evalOpt u env))
    let c ← holding [a, b] (valueOrNone (evalOpt none env))
    newFields "slice" [a, b, c]) := rfl
theorem e_cut {v : Expr} {l u : Option Expr} {p pos : Pos} (h : OKe W n sc v loc σ (fun o σ₁ => OKo W n sc l loc σ₁ (fun a σ₂ => OKo W n sc u loc σ₂ (fun b σ₃ => OKcut W n o a b σ₃ K X) X) X) X) :
    OKe W n sc (.Subscript v (.Slice l u none p) pos) loc σ K X := by
  intro A env ρ s E P N H
  refine Subscript_ (wpAny_mono (h A env ρ s E P N H) (fun va s₁ q_ => q_.elim fun a σ₁ ρ₁ k₁ t₁ I₁ r₁ => ?_) fun _ _ x => x)
  rw [eval_Slice2]
  refine wpAny_bind (wpAny_mono (OKo.run k₁ (P.step t₁ I₁) (N.step t₁) (H.step0 t₁)) (fun vb s₂ q_ => q_.elim fun b σ₂ ρ₂ k₂ t₂ I₂ r₂ => ?_) fun _ _ x => x)
  have t := t₁.tr t₂
  refine wpAny_bind (wpAny_holding (wpAny_mono (OKo.run k₂ (P.step t I₂) (N.step t) (H.step0 t)) (fun vc s₃ q_ => q_.elim fun c σ₃ ρ₃ k₃ t₃ I₃ r₃ => ?_) fun _ _ x => x))
  have t' := t.tr t₃
  refine wpAny_bind (wpAny_holding (wpAny_pure ?_))
  refine wpAny_newObj_type ?_ (by show (3 : Nat) ≤ sizeLine + 2; rw [sizeLine_eq]; omega)
  have k : ∀ b o, s₃.heap.get? b = some o → (s₃.heap.push { cls := .type "slice", data := .fields #[vb, vc, .none] }).get? b = some o := fun b o e => Heap.get?_push_of_some _ e
  have t₄ : Stp [] ρ₃ s₃ ρ₃ { s₃ with heap := s₃.heap.push { cls := .type "slice", data := .fields #[vb, vc, .none] } } := Stp.all (s := s₃) k
  have T' := t'.tr t₄
  have I₄ := I₃.all k
  obtain ⟨T, id, hT, hl, hg⟩ := k₃ A ρ₃ _ va vb vc s₃.heap.objs.size E (P.step T' I₄) (t₄.rp (t₃.rp (t₂.rp r₁))) (t₄.rp (t₃.rp r₂)) (t₄.rp r₃) (Heap.get?_push_size _ rfl) (H.toEX.step T')
  exact tail_any hT hl (wpAny_mono hg (fun _ _ p => p.lift T') fun _ _ x => x) rfl
end

end Mine
end

section
namespace Mine
open PySem PySem.W PySem.Calls PyProof.Rows
/-- what follows a row: k when the row goes on, K when it leaves -/
noncomputable abbrev Then (k : Lc → St → Prop) (K : Fl → Lc → St → Prop) (f : Fl) (l : Lc) (σ : St) : Prop := match f with | .next => k l σ | f => K f l σ
/-- what follows a turn of a loop -/
noncomputable abbrev Loop (k : Lc → St → Prop) (K : Fl → Lc → St → Prop) (f : Fl) (l : Lc) (σ : St) : Prop := match f with | .next => k l σ | .cont => k l σ | .brk => K .next l σ | .ret v => K (.ret v) l σ

theorem put_get {h : Heap} {a : Addr} {o o' : Obj} {f : Obj → Obj} (ho : h.get? a = some o) (e : f o = o') (hf : o'.isFreed = false) : (h.update a f).get? a = some o' :=
  e ▸ Heap.get?_update_self f ho (e ▸ hf)
theorem ns_put {M : Model} {A : Around} {E : Value → Shared → Prop} {s : Shared} {a : Addr} {o : Obj} {es : Array DictEntry} {ep : Nat} {name : Str} {v : Value} {Q : Unit → Shared → Prop}
    (ho : s.heap.get? a = some o) (hd : o.data = .dict es ep) (hk : StrKeys es)
    (h : ∀ h' es' ep', h'.get? a = some { o with data := .dict es' ep' } → StrKeys es' → (∀ x, nsFind es' x = if x = name then some v else nsFind es x) →
      es'.size = (if (nsFind es name).isSome then es.size else es.size + 1) → Heap.SameBut a s.heap h' → Q () { s with heap := h', toks := s.toks + 1 }) :
    wpAny M A (nsSet a name v) Q E s := by
  intro Γ p _
  simp only [nsSet, strHash, Sem.wp_bind', Sem.wp_cmd_ask, Sem.wp_pure', Sem.wp_cmd_mkText]
  rw [Sem.wp_loadPart_of M Γ _ p { s with toks := s.toks + 1 } (o := o) _ ho]
  have hany : es.any (·.refKey) = false := by
    rw [Array.any_eq_false']; intro e he; obtain ⟨n, t, h⟩ := hk e he; simp [DictEntry.refKey, h]
  simp only [hd, aRefKeyMayBeTheName_eq, aRefKeyMayBeTheNameByArray, hany, Bool.and_false, Bool.false_eq_true, if_false, Sem.wp_cmd_updatePart]
  refine ⟨by rw [ho]; rfl, ?_⟩
  obtain ⟨c, d, dt, sl⟩ := o
  subst hd
  have hf : nsFind es name = (es.find? fun e => e.key.isStr name).map (·.val) := rfl
  cases hi : es.findIdx? (·.key.isStr name) with
  | some i =>
    have hsome : (nsFind es name).isSome = true := by
      rw [hf, Option.isSome_map, Array.find?_isSome]
      obtain ⟨hlt, hp, _⟩ := Array.findIdx?_eq_some_iff_getElem.mp hi
      exact ⟨_, Array.getElem_mem hlt, hp⟩
    refine h _ (es.modify i fun e => { e with val := v }) ep (put_get ho (by simp only [Obj.putName_eq, Obj.putNameByArray, hi]) rfl) (hk.modify _ _) (fun x => ?_) ?_ (Heap.SameBut.update ..)
    · exact findBy_modify (fun n v => v.isStr n) Value.isStr_inj es name x v i hi
    · rw [if_pos hsome]; simp
  | none =>
    have hnone : ¬ (nsFind es name).isSome = true := by
      rw [hf, Option.isSome_map, Array.find?_isSome]
      rintro ⟨e, he, hp⟩
      have := Array.findIdx?_eq_none_iff.mp hi e he
      rw [this] at hp; cases hp
    refine h _ (es.push ⟨if name.cps.isEmpty = true then 0 else reduceHash (M.w.params.strHash name.cps), .str name s.toks, v⟩) (ep + 1) (put_get ho (by simp only [Obj.putName_eq, Obj.putNameByArray, hi]) rfl) (hk.push _ _ _ _) (fun x => ?_) ?_ (Heap.SameBut.update ..)
    · exact findBy_push (fun n v => v.isStr n) es name x _ _ v (fun y => by
        show (name == y) = decide (y = name)
        by_cases h : y = name
        · subst h; simp
        · have : ¬ name = y := fun e => h e.symm
          simp [h, this]) hi
    · rw [if_neg hnone]; simp

section
variable {W : Wd} {n : Nat} {sc : Scope} {loc : Lc} {σ : St} {X : St → Prop} {K : Fl → Lc → St → Prop}

theorem own_locals (env : Env) : env.locals ∈ own env := List.mem_cons_self
theorem mem_of_lk {x : Str} {c : Addr} : ∀ {l : List (Str × Addr)}, l.lookup x = some c → c ∈ l.map (·.2)
  | [], h => by cases h
  | (y, d) :: r, h => by
    rw [List.lookup_cons] at h
    cases hb : x == y with
    | true => rw [hb] at h; cases h; exact List.mem_cons_self
    | false => rw [hb] at h; exact List.mem_cons_of_mem _ (mem_of_lk h)
theorem own_cell {env : Env} {x : Str} {c : Addr} (h : env.cells.lookup x = some c) : c ∈ own env := List.mem_cons_of_mem _ (mem_of_lk h)
theorem lk_cons {x y : Str} {v w : V} {l : Lc} (h : ((y, v) :: l).lookup x = some w) : (x = y ∧ w = v) ∨ (x ≠ y ∧ l.lookup x = some w) := by
  rw [List.lookup_cons] at h
  cases hb : x == y with
  | true => rw [hb] at h; cases h; exact .inl ⟨eq_of_beq hb, rfl⟩
  | false => rw [hb] at h; exact .inr ⟨fun e => by rw [e] at hb; simp at hb, h⟩

/-- a local name is bound -/
theorem store_loc {A : Around} {E : Value → Shared → Prop} {ρ : Rho} {s : Shared} {env : Env} {y : Str} {v : V} {x : Value} {Q : Unit → Shared → Prop}
    (I : Inv W ρ σ s.heap) (N : EnvOk W sc ρ s.heap env loc) (r : Rp ρ s.heap v x) (hy : sc.names.lookup y = some .local)
    (h : ∀ s', Stp [env.locals] ρ s ρ s' → Inv W ρ σ s'.heap → EnvOk W sc ρ s'.heap env ((y, v) :: loc) → Q () s') : wpAny W.M A (storeName env y x) Q E s := by
  rw [storeName_local ((N.kindOf y).trans hy) (by rw [N.hk]; rfl)]
  obtain ⟨m, ⟨o, es, ep, ho, hd, hk, hm⟩, hv⟩ := N.ns
  refine ns_put ho hd hk fun h' es' ep' ho' hk' hf' hz' hs => ?_
  have kp : ∀ b ob, s.heap.get? b = some ob → b ≠ env.locals → h'.get? b = some ob := fun b ob e hb => (hs.2 b hb).trans e
  have nv : ¬ isVal o := by
    rintro (⟨xs, k, e⟩ | ⟨vs, e, _⟩) <;> rw [hd] at e <;> cases e
  have kv : KeepsV (Dm ρ) s.heap h' := fun b ob e _ z => kp b ob e fun q => by subst q; rw [ho] at e; cases e; exact nv z
  have t : Stp [env.locals] ρ s ρ { s with heap := h', toks := s.toks + 1 } := by
    refine ⟨⟨_, _, rfl⟩, fun b ob e hb => .inl (kp b ob e fun q => hb (List.mem_append_left _ (by rw [q]; exact List.mem_cons_self))), kv, ⟨[], by simp, by simp [Dm]⟩, fun b ob e hb f => ?_, fun b ob e => ?_⟩
    · by_cases q : b = env.locals
      · subst q
        rw [ho] at e; cases e
        exact ⟨_, ho', f.1, es', ep', rfl⟩
      · exact ⟨ob, kp b ob e q, f⟩
    · by_cases q : b = env.locals
      · subst q; exact ⟨_, ho'⟩
      · exact ⟨ob, kp b ob e q⟩
  have I' : Inv W ρ σ h' := by
    refine ⟨fun b ob e => kp b ob (I.keep b ob e) (fun q => by rw [q, N.lo.2] at e; cases e), I.fresh, I.nodup, I.len, fun i l ob h1 h2 => ?_⟩
    have R := I.objs i l ob h1 h2
    have := R.mono (more := []) kv (by simp [Dm]) (h' := h') fun d hd' => by
      obtain ⟨oo, e, _⟩ := R.there d hd'
      rw [e]
      exact kp d oo e fun q => N.lo.1 (q ▸ Dm_mem h1 hd')
    rwa [List.append_nil] at this
  refine h _ t I' ⟨N.scope, N.kind, N.glob, N.bi, N.lo, ⟨fun x' => if x' = y then some x else m x', ⟨_, es', ep', ho', rfl, hk', fun x' => by rw [hf', hm]⟩, fun x' v' e l => ?_⟩, fun x' c e => ?_, N.inj, N.cn, fun x' v' e l => ?_, fun d hd => let ⟨o, e⟩ := N.there d hd; t.ex d o e⟩
  · rcases lk_cons e with ⟨rfl, rfl⟩ | ⟨hne, e⟩
    · exact ⟨x, by simp, t.rp r⟩
    · obtain ⟨r', a, b⟩ := hv x' v' e l
      exact ⟨r', by simp [hne, a], t.rp b⟩
  · obtain ⟨a, b, b', w, oc, hoc, hdc⟩ := N.cells x' c e
    exact ⟨a, b, b', w, oc, kp c oc hoc b, hdc⟩
  · rcases lk_cons e with ⟨rfl, rfl⟩ | ⟨hne, e⟩
    · exact absurd hy l
    · obtain ⟨k, c, r', a, ⟨oc, hoc, hdc⟩, b⟩ := N.cvals x' v' e l
      exact ⟨k, c, r', a, ⟨oc, kp c oc hoc (N.cells x' c a).2.1, hdc⟩, t.rp b⟩

/-- a name in a cell is bound -/
theorem store_cel {A : Around} {E : Value → Shared → Prop} {ρ : Rho} {s : Shared} {env : Env} {y : Str} {v : V} {x : Value} {c : Addr} {Q : Unit → Shared → Prop}
    (I : Inv W ρ σ s.heap) (N : EnvOk W sc ρ s.heap env loc) (r : Rp ρ s.heap v x) (hy : sc.names.lookup y = some .cell) (hc : env.cells.lookup y = some c)
    (h : ∀ s', Stp [c] ρ s ρ s' → Inv W ρ σ s'.heap → EnvOk W sc ρ s'.heap env ((y, v) :: loc) → Q () s') : wpAny W.M A (storeName env y x) Q E s := by
  obtain ⟨c1, c2, c3, v₀, oc, hoc, hdc⟩ := N.cells y c hc
  refine wpAny_storeName_cell N.hk ((N.kindOf y).trans hy) hc ⟨oc, hoc, hdc⟩ fun h' ⟨oc', hoc', hdc'⟩ hs => ?_
  have kp : ∀ b ob, s.heap.get? b = some ob → b ≠ c → h'.get? b = some ob := fun b ob e hb => (hs.2 b hb).trans e
  have nv : ¬ isVal oc := by
    rintro (⟨xs, k, e⟩ | ⟨vs, e, _⟩) <;> rw [hdc] at e <;> cases e
  have nf : ¬ isFr oc := by
    rintro ⟨_, es, ep, e⟩; rw [hdc] at e; cases e
  have kv : KeepsV (Dm ρ) s.heap h' := fun b ob e _ z => kp b ob e fun q => by subst q; rw [hoc] at e; cases e; exact nv z
  have t : Stp [c] ρ s ρ { s with heap := h' } := by
    refine ⟨⟨_, _, rfl⟩, fun b ob e hb => .inl (kp b ob e fun q => hb (List.mem_append_left _ (by rw [q]; exact List.mem_cons_self))), kv, ⟨[], by simp, by simp [Dm]⟩, fun b ob e hb f => ?_, fun b ob e => ?_⟩
    · exact ⟨ob, kp b ob e fun q => (by subst q; rw [hoc] at e; cases e; exact nf f), f⟩
    · by_cases q : b = c
      · subst q; exact ⟨_, hoc'⟩
      · exact ⟨ob, kp b ob e q⟩
  have I' : Inv W ρ σ h' := by
    refine ⟨fun b ob e => kp b ob (I.keep b ob e) (fun q => by rw [q, c3] at e; cases e), I.fresh, I.nodup, I.len, fun i l ob h1 h2 => ?_⟩
    have R := I.objs i l ob h1 h2
    have := R.mono (more := []) kv (by simp [Dm]) (h' := h') fun d hd' => by
      obtain ⟨oo, e, _⟩ := R.there d hd'
      rw [e]
      exact kp d oo e fun q => c1 (q ▸ Dm_mem h1 hd')
    rwa [List.append_nil] at this
  obtain ⟨m, hn, hv⟩ := N.ns
  refine h _ t I' ⟨N.scope, N.kind, N.glob, N.bi, N.lo, ⟨m, hn.sameBut hs (Ne.symm c2), fun x' v' e l => ?_⟩, fun x' c' e => ?_, N.inj, N.cn, fun x' v' e l => ?_, fun d hd => let ⟨o, e⟩ := N.there d hd; t.ex d o e⟩
  · rcases lk_cons e with ⟨rfl, rfl⟩ | ⟨hne, e⟩
    · rw [hy] at l; cases l
    · obtain ⟨r', a, b⟩ := hv x' v' e l
      exact ⟨r', a, t.rp b⟩
  · obtain ⟨a, b, b', w, oo, hoo, hdo⟩ := N.cells x' c' e
    by_cases q : c' = c
    · subst q; exact ⟨a, b, b', _, oc', hoc', hdc'⟩
    · exact ⟨a, b, b', w, oo, kp c' oo hoo q, hdo⟩
  · rcases lk_cons e with ⟨rfl, rfl⟩ | ⟨hne, e⟩
    · exact ⟨.inl hy, c, x, hc, ⟨oc', hoc', hdc'⟩, t.rp r⟩
    · obtain ⟨k, c', r', a, ⟨oo, hoo, hdo⟩, b⟩ := N.cvals x' v' e l
      exact ⟨k, c', r', a, ⟨oo, kp c' oo hoo (fun q => hne (N.inj x' y c (q ▸ a) hc)), hdo⟩, t.rp b⟩

/-- a name is bound -/
theorem store_any {A : Around} {E : Value → Shared → Prop} {ρ : Rho} {s : Shared} {env : Env} {y : Str} {v : V} {x : Value} {Q : Unit → Shared → Prop}
    (I : Inv W ρ σ s.heap) (N : EnvOk W sc ρ s.heap env loc) (r : Rp ρ s.heap v x) (hy : sc.names.lookup y = some .local ∨ sc.names.lookup y = some .cell)
    (h : ∀ s', Stp (own env) ρ s ρ s' → Inv W ρ σ s'.heap → EnvOk W sc ρ s'.heap env ((y, v) :: loc) → Q () s') : wpAny W.M A (storeName env y x) Q E s := by
  rcases hy with hy | hy
  · exact store_loc I N r hy fun s' t I' N' => h s' (t.mono fun d hd => by rw [List.mem_singleton.mp hd]; exact own_locals env) I' N'
  · obtain ⟨c, hc⟩ := Option.isSome_iff_exists.mp (N.cn y hy)
    exact store_cel I N r hy hc fun s' t I' N' => h s' (t.mono fun d hd => by rw [List.mem_singleton.mp hd]; exact own_cell hc) I' N'

theorem PF.of {env : Env} {ρ ρ' : Rho} {s s' : Shared} {fl : Fl} {loc' : Lc} {σ' : St} {f : Flow} (k : K fl loc' σ') (t : Stp (own env) ρ s ρ' s') (I : Inv W ρ' σ' s'.heap) (N : EnvOk W sc ρ' s'.heap env loc') (r : FlR ρ' s'.heap fl f) :
    PF W sc env ρ s K f s' := ⟨fl, loc', σ', ρ', k, t, I, N, r⟩

theorem s_nil (h : K .next loc σ) : OKs W n sc [] loc σ K X := fun _ _ _ _ _ P N _ => wpAny_execs_nil (.of h (Stp.refl _ _) P.inv N rfl)
theorem s_cons {st : Stmt} {r : List Stmt}
    (h : OKx W n sc st loc σ (Then (fun l σ₁ => OKs W n sc r l σ₁ K X) K) X) : OKs W n sc (st :: r) loc σ K X := by
  intro A env ρ s E P N H
  refine wpAny_execs_cons (wpAny_mono (h A env ρ s E P N H) (fun f s₁ q_ => q_.elim fun fl l₁ σ₁ ρ₁ k₁ t₁ I₁ N₁ r₁ => ?_) fun _ _ x => x)
  cases fl with
  | next =>
    unfold FlR at r₁; subst r₁
    exact wpAny_mono (k₁ A env ρ₁ s₁ E (P.step t₁ I₁) N₁ (H.step t₁)) (fun _ _ p => p.lift t₁) fun _ _ x => x
  | brk => unfold FlR at r₁; subst r₁; exact .of k₁ t₁ I₁ N₁ rfl
  | cont => unfold FlR at r₁; subst r₁; exact .of k₁ t₁ I₁ N₁ rfl
  | ret v => unfold FlR at r₁; obtain ⟨x, rfl, q⟩ := r₁; exact .of k₁ t₁ I₁ N₁ ⟨x, rfl, q⟩

theorem x_ret {e : Expr} {pos : Pos} (h : OKe W n sc e loc σ (fun v σ₁ => K (.ret v) loc σ₁) X) : OKx W n sc (.Return (some e) pos) loc σ K X :=
  fun A env ρ s E P N H => wpAny_Return_some (wpAny_mono (h A env ρ s E P N H) (fun x _ q_ => q_.elim fun _ _ _ k t I r => .of k t.weak I (N.step t) ⟨x, rfl, r⟩) fun _ _ x => x)
theorem x_ret0 {pos : Pos} (h : K (.ret .none) loc σ) : OKx W n sc (.Return none pos) loc σ K X :=
  fun _ _ _ _ _ P N _ => wpAny_Return_none (.of h (Stp.refl _ _) P.inv N ⟨.none, rfl, rfl⟩)
theorem x_cont {pos : Pos} (h : K .cont loc σ) : OKx W n sc (.Continue pos) loc σ K X :=
  fun _ _ _ _ _ P N _ => PySem.wpAny_Continue (.of h (Stp.refl _ _) P.inv N rfl)
theorem x_expr {e : Expr} {pos : Pos} (h : OKe W n sc e loc σ (fun _ σ₁ => K .next loc σ₁) X) (hs : ∀ env, swapsWith e none pos.line env = pure false := by intro _; rfl) : OKx W n sc (.Expr e pos) loc σ K X := by
  intro A env ρ s E P N H
  have hi : interactive env = false := by
    unfold interactive
    rw [N.hk]; rfl
  exact wpAny_Expr_any (wpAny_mono (h A env ρ s E P N H) (fun x _ q_ => q_.elim fun _ _ _ k t I r => .of k t.weak I (N.step t) rfl) fun _ _ x => x) hi (hs env)
theorem x_if {t : Expr} {b o : List Stmt} {pos : Pos} (h : OKb W n sc t loc σ (fun c σ₁ => (c = true → OKs W n sc b loc σ₁ K X) ∧ (c = false → OKs W n sc o loc σ₁ K X)) X) : OKx W n sc (.If t b o pos) loc σ K X := by
  intro A env ρ s E P N H
  refine wpAny_If (wpAny_mono (h A env ρ s E P N H) (fun c s₁ q_ => ex5 q_ fun σ₁ ρ₁ k₁ t₁ I₁ => ?_) fun _ _ x => x)
  cases c with
  | true => exact wpAny_mono (k₁.1 rfl A env ρ₁ s₁ E (P.step t₁ I₁) (N.step t₁) (H.step0 t₁)) (fun _ _ p => p.lift t₁.weak) fun _ _ x => x
  | false => exact wpAny_mono (k₁.2 rfl A env ρ₁ s₁ E (P.step t₁ I₁) (N.step t₁) (H.step0 t₁)) (fun _ _ p => p.lift t₁.weak) fun _ _ x => x

theorem x_set {y : Str} {e : Expr} {p pos : Pos} (h : OKe W n sc e loc σ (fun v σ₁ => K .next ((y, v) :: loc) σ₁) X) (hy : sc.names.lookup y = some .local := by rfl)
    (hs : ∀ env, swapsWith e (some (.Name y p)) pos.line env = pure false := by intro _; rfl) : OKx W n sc (.Assign [.Name y p] e pos) loc σ K X := by
  intro A env ρ s E P N H
  refine wpAny_Assign_Name (wpAny_mono (h A env ρ s E P N H) (fun x s₁ q_ => q_.elim fun v σ₁ ρ₁ k₁ t₁ I₁ r₁ => ?_) fun _ _ x => x) (hs env)
  exact store_any I₁ (N.step t₁) r₁ (.inl hy) fun s' t' I' N' => .of k₁ (t₁.weak.tr t') I' N' rfl
theorem x_setC {y : Str} {e : Expr} {p pos : Pos} (h : OKe W n sc e loc σ (fun v σ₁ => K .next ((y, v) :: loc) σ₁) X) (hy : sc.names.lookup y = some .cell)
    (hs : ∀ env, swapsWith e (some (.Name y p)) pos.line env = pure false := by intro _; rfl) : OKx W n sc (.Assign [.Name y p] e pos) loc σ K X := by
  intro A env ρ s E P N H
  refine wpAny_Assign_Name (wpAny_mono (h A env ρ s E P N H) (fun x s₁ q_ => q_.elim fun v σ₁ ρ₁ k₁ t₁ I₁ r₁ => ?_) fun _ _ x => x) (hs env)
  exact store_any I₁ (N.step t₁) r₁ (.inr hy) fun s' t' I' N' => .of k₁ (t₁.weak.tr t') I' N' rfl

theorem x_aug {y : Str} {e : Expr} {op : Operator} {p pos : Pos} (v₀ : V) (hv : loc.lookup y = some v₀)
    (h : OKe W n sc e loc σ (fun v σ₁ => OKt W n (inpT op) [v₀, v] σ₁ (fun r σ₂ => K .next ((y, r) :: loc) σ₂) X) X) (hy : sc.names.lookup y = some .local := by rfl)
    (hcd : (y == ("__classdict__" : Str)) = false := by decide) : OKx W n sc (.AugAssign (.Name y p) op e pos) loc σ K X := by
  intro A env ρ s E P N H
  refine wpAny_AugAssign_Name (load_loc N hv (fun x₀ r₀ => ?_) hcd)
  refine wpAny_mono (h A env ρ s E P N H) (fun x s₁ q_ => q_.elim fun v σ₁ ρ₁ k₁ t₁ I₁ r₁ => ?_) fun _ _ x => x
  refine wpAny_mono (k₁ A ρ₁ s₁ [x₀, x] E (P.step t₁ I₁) (Rps.cons (t₁.rp r₀) (Rps.one r₁)) (H.toEX.step t₁)) (fun z s₂ q_ => q_.elim fun w σ₂ ρ₂ k₂ t₂ I₂ r₂ => ?_) fun _ _ x => x
  exact store_any I₂ (N.step (t₁.tr t₂)) r₂ (.inl hy) fun s' t' I' N' => .of k₂ ((t₁.tr t₂).weak.tr t') I' N' rfl
end

end Mine
end

section
namespace Mine
open PySem PySem.W PySem.Calls PyProof.Rows

section
variable {W : Wd} {n : Nat} {sc : Scope} {loc : Lc} {σ : St} {X : St → Prop} {K : V → St → Prop}

theorem funFrames_of {W : Wd} {ρ : Rho} {h B : Heap} : ∀ {l : List Env}, FrsOk W ρ h l → (∀ env ∈ l, ∀ a, env.frame = some a → B.get? a = none) → h.FunFrames B l
  | [], _, _ => trivial
  | env :: r, F, hb => by
    obtain ⟨a, L, o, b, c, d, e, f⟩ := F env (.head _)
    refine ⟨a, ⟨L, o, b, hb env (.head _) L b, e, fun vs q => ?_⟩, funFrames_of (fun e he => F e (.tail _ he)) fun e he => hb e (.tail _ he)⟩
    obtain ⟨_, es, k, hd⟩ := f
    rw [hd] at q; cases q

theorem fields_notFr {o : Obj} {vs : Array Value} (h : o.data = .fields vs) (f : isFr o) : False := by
  obtain ⟨_, es, k, hd⟩ := f
  rw [hd] at h; cases h

/-- a new trace entry; what it leaves behind -/
theorem tail_fly {A : Around} {E : Value → Shared → Prop} {env : Env} {outer : List Env} {ρ : Rho} {s : Shared} {e L : Addr} {oe : Obj} {vs : Array Value} {head : Value} {hadNext : Bool} {Q : Unit → Shared → Prop}
    (hA : A.frames = some (env :: outer)) (F : FrsOk W ρ s.heap (env :: outer)) (hf : env.frame = some L) (he : s.heap.get? e = some oe) (hd : oe.data = .fields vs) (hsz : 1 < vs.size)
    (h : ∀ h' T oT ts, (∀ b o, s.heap.get? b = some o → b ≠ e → h'.get? b = some o ∨ (isFr o ∧ W.h₀.get? b = none ∧ ∃ sl, h'.get? b = some { o with slots := sl })) →
      h'.get? e = some (oe.mapFields (·.setIfInBounds 1 (.ref T))) → s.heap.get? T = none → h'.get? T = some oT → oT.data = .fields ts → ts[3]? = some .none → Q () { s with heap := h' }) :
    wpAny W.M A (do let a ← frameOf env; let pl ← entryPlaceOf L hadNext; let b ← EntryCells.newEntry head a .none (rawInt L) .none pl; setField (.ref e) 1 b) (fun _ s' => wpAny W.M A (setFlight (.ref e) none) Q E s') E s := by
  have frm : ∀ b, b ∈ (env :: outer).filterMap (·.frame) → ∃ o, s.heap.get? b = some o ∧ isFr o ∧ W.h₀.get? b = none := fun b hm => by
    obtain ⟨en, hen, hfr⟩ := List.mem_filterMap.mp hm
    obtain ⟨_, L', o', q1, q2, q3, q4, q5⟩ := F en hen
    rw [hfr] at q1; cases q1
    exact ⟨o', q4, q5, q2⟩
  have hB := funFrames_of (B := ({} : Heap)) F fun _ _ _ _ => rfl
  refine wpAny_bind (wpAny_frameOf_fun hA hB hf fun h₁ hs₁ => ?_)
  refine wpAny_bind (wpAny_entryPlaceOf fun pl hpl => ?_)
  unfold EntryCells.newEntry newFields
  refine wpAny_bind (wpAny_newObj_type ?_ (hpl.sizeOk5 _ _ _ _ _))
  have hene : e ∉ (env :: outer).filterMap (·.frame) := fun hm => by
    obtain ⟨o, ho, f, _⟩ := frm e hm
    rw [he] at ho; cases ho
    exact fields_notFr hd f
  have he₁ : h₁.get? e = some oe := (hs₁.2.1 e hene).trans he
  have he₂ := Heap.get?_push_of_some (h := h₁) { cls := .type "traceback", dict := none, data := .fields ([head, .ref L, .none, rawInt L, .none] ++ (if pl.isEmpty then List.replicate 6 Value.none else pl)).toArray } he₁
  refine wpAny_setField he₂ hd hsz ?_
  have hTe : h₁.objs.size ≠ e := Nat.ne_of_gt (Heap.lt_size he₁)
  have hd₃ := Obj.data_mapFields hd (·.setIfInBounds 1 (Value.ref h₁.objs.size))
  have he₃ := Heap.get?_update_self (Obj.mapFields (·.setIfInBounds 1 (Value.ref h₁.objs.size))) he₂ (Obj.isFreed_of_fields hd₃)
  have hT₃ := (Heap.get?_update_other (h₁.push { cls := .type "traceback", dict := none, data := .fields ([head, .ref L, .none, rawInt L, .none] ++ (if pl.isEmpty then List.replicate 6 Value.none else pl)).toArray })
    (Obj.mapFields (·.setIfInBounds 1 (Value.ref h₁.objs.size))) (Ne.symm hTe)).trans (Heap.get?_push_size h₁ rfl)
  unfold setFlight
  refine wpAny_bind (wpAny_field he₃ hd₃ (x := .ref h₁.objs.size) (by simp [hsz]) ?_)
  rw [if_pos (show (Value.ref h₁.objs.size != Value.none) = true from by simp)]
  have hsz3 : 3 < ([head, .ref L, .none, rawInt L, .none] ++ (if pl.isEmpty then List.replicate 6 Value.none else pl)).toArray.size := by simp only [List.size_toArray, List.length_append, List.length_cons, List.length_nil] <;> omega
  refine wpAny_setField hT₃ rfl hsz3 (h _ h₁.objs.size _ _ (fun b o hb hbe => ?_) ?_ ?_ (Heap.get?_update_self _ hT₃ (Obj.isFreed_of_fields (Obj.data_mapFields rfl _))) (Obj.data_mapFields rfl _) ?_)
  · obtain ⟨sl, z⟩ := hs₁.2.2 b o hb
    have hbT : h₁.objs.size ≠ b := Nat.ne_of_gt (Heap.lt_size z)
    have up : ∀ {o' : Obj}, h₁.get? b = some o' → (((h₁.push { cls := .type "traceback", dict := none, data := .fields ([head, .ref L, .none, rawInt L, .none] ++ (if pl.isEmpty then List.replicate 6 Value.none else pl)).toArray }).update e (Obj.mapFields (·.setIfInBounds 1 (Value.ref h₁.objs.size)))).update h₁.objs.size
        (Obj.mapFields (·.setIfInBounds 3 ((none : Option Addr).elim Value.none fun f => rawInt f)))).get? b = some o' := fun z' => by
      rw [Heap.get?_update_other _ _ hbT, Heap.get?_update_other _ _ (Ne.symm hbe)]
      exact Heap.get?_push_of_some _ z'
    by_cases hm : b ∈ (env :: outer).filterMap (·.frame)
    · obtain ⟨o', q, f, f0⟩ := frm b hm
      rw [hb] at q; cases q
      exact .inr ⟨f, f0, sl, up z⟩
    · exact .inl (up ((hs₁.2.1 b hm).trans hb))
  · rw [Heap.get?_update_other _ _ hTe]; exact he₃
  · rw [hs₁.1]; exact none_at_size _
  · first | (simp; done) | (rcases hpl with rfl | ⟨_, _, _, _, _, _, _, rfl⟩ <;> simp)

/-- an exception leaves a frame -/
theorem leave_fly {A : Around} {E : Value → Shared → Prop} {env : Env} {outer : List Env} {hb : Heap} {ρ : Rho} {s : Shared} {e : Addr} {Q : Unit → Shared → Prop} (hA : A.frames = some (env :: outer))
    (F : FrsOk W ρ s.heap (env :: outer)) (I : Inv W ρ σ s.heap) (f : Fly hb ρ e s.heap) (hbk : ∀ b o, hb.get? b = some o → ∃ o', s.heap.get? b = some o') (hb0 : ∀ b o, W.h₀.get? b = some o → ∃ o', hb.get? b = some o')
    (h : ∀ h' Y, (∀ y ∈ Y, hb.get? y = none) → Stp Y ρ s ρ { s with heap := h' } → Inv W ρ σ h' → Fly hb ρ e h' → Q () { s with heap := h' }) : wpAny W.M A (leaving env (.ref e)) Q E s := by
  obtain ⟨_, L, oL, hf, _⟩ := F env (.head _)
  obtain ⟨oe, vs, a0, he, hc, hd, h0, hbe, heD, h1⟩ := f
  have hbn : ∀ b, s.heap.get? b = none → hb.get? b = none := fun b q => by
    cases z : hb.get? b with
    | none => rfl
    | some o => obtain ⟨o', z'⟩ := hbk b o z; rw [q] at z'; cases z'
  have h0n : ∀ b, hb.get? b = none → W.h₀.get? b = none := fun b q => by
    cases z : W.h₀.get? b with
    | none => rfl
    | some o => obtain ⟨o', z'⟩ := hb0 b o z; rw [q] at z'; cases z'
  -- what is left behind, whatever the old trace T₀ was
  have fin : ∀ (Ts : List Addr) h' T oT ts, (∀ t ∈ Ts, hb.get? t = none ∧ t ∉ Dm ρ ∧ (∃ o, h'.get? t = some o) ∧ ∃ oT ts, s.heap.get? t = some oT ∧ oT.data = .fields ts ∧ ts[3]? = some .none) →
      (∀ b o, s.heap.get? b = some o → b ≠ e → b ∉ Ts → h'.get? b = some o ∨ (isFr o ∧ W.h₀.get? b = none ∧ ∃ sl, h'.get? b = some { o with slots := sl })) →
      h'.get? e = some (oe.mapFields (·.setIfInBounds 1 (.ref T))) → s.heap.get? T = none → h'.get? T = some oT → oT.data = .fields ts → ts[3]? = some .none → Q () { s with heap := h' } := by
    intro Ts h' T oT ts hTs kp he' hT0 hT hTd hT3
    have kp' : Keeps ((e :: Ts) ++ Dm ρ) s.heap h' := fun b o eb hbn => by
      simp only [List.cons_append, List.mem_cons, List.mem_append, not_or] at hbn
      exact (kp b o eb hbn.1 hbn.2.1).imp id fun ⟨a, _, r⟩ => ⟨a, r⟩
    have kv : KeepsV (Dm ρ) s.heap h' := fun b o eb hbD v => by
      have ne : b ≠ e := fun q => by
        subst q
        rw [he] at eb; cases eb
        rcases v with ⟨xs, k, z⟩ | ⟨ws, z, z', _⟩
        · rw [hd] at z; cases z
        · rw [hc] at z'; cases z'
      have nT : b ∉ Ts := fun q => by
        obtain ⟨_, _, _, oT', ts', t1, t2, t3⟩ := hTs b q
        rw [eb] at t1; cases t1
        rcases v with ⟨xs, k, z⟩ | ⟨ws, z, _, z3⟩
        · rw [t2] at z; cases z
        · rw [t2] at z; cases z
          have := (Array.getElem?_eq_some_iff.mp t3).1
          omega
      rcases kp b o eb ne nT with q | ⟨q, _⟩
      · exact q
      · exact (v.notFr q).elim
    have st : Stp (e :: Ts) ρ s ρ { s with heap := h' } := by
      refine ⟨⟨h', s.toks, rfl⟩, kp', kv, ⟨[], by simp, by simp [Dm]⟩, fun b o eb hbD fr => ?_, fun b o eb => ?_⟩
      · have ne : b ≠ e := fun q => by subst q; rw [he] at eb; cases eb; exact fields_notFr hd fr
        have nT : b ∉ Ts := fun q => by
          obtain ⟨_, _, _, oT', ts', t1, t2, t3⟩ := hTs b q
          rw [eb] at t1; cases t1
          exact fields_notFr t2 fr
        rcases kp b o eb ne nT with q | ⟨q, _, sl, z⟩
        · exact ⟨o, q, fr⟩
        · exact ⟨_, z, fr⟩
      · by_cases q : b = e
        · subst q; exact ⟨_, he'⟩
        · by_cases q' : b ∈ Ts
          · exact (hTs b q').2.2.1
          · rcases kp b o eb q q' with z | ⟨_, _, sl, z⟩ <;> exact ⟨_, z⟩
    have I' : Inv W ρ σ h' := by
      refine ⟨fun b o eb => ?_, I.fresh, I.nodup, I.len, fun i l o h1 h2 => ?_⟩
      · have eb' := I.keep b o eb
        have nb : hb.get? b ≠ none := fun q => by rw [h0n b q] at eb; cases eb
        rcases kp b o eb' (fun q => nb (q ▸ hbe)) (fun q => nb (hTs b q).1) with z | ⟨_, z, _⟩
        · exact z
        · rw [z] at eb; cases eb
      · have R := I.objs i l o h1 h2
        have := R.mono (more := []) kv (by simp [Dm]) (h' := h') fun d hd' => by
          obtain ⟨oo, ed, ncls⟩ := R.there d hd'
          rw [ed]
          have hD := Dm_mem h1 hd'
          rcases kp d oo ed (fun q => heD (q ▸ hD)) (fun q => (hTs d q).2.1 hD) with z | ⟨z, _⟩
          · exact z
          · exact absurd z.1 ncls
        rwa [List.append_nil] at this
    refine h h' (e :: Ts) (fun y hy => ?_) st I' ⟨_, _, a0, he', (Obj.cls_mapFields _ _).trans hc, Obj.data_mapFields hd _, ?_, hbe, heD, .inr ⟨T, oT, ts, ?_, hbn T hT0, I.out hT0, ?_, hT, hTd, hT3⟩⟩
    · rcases List.mem_cons.mp hy with rfl | q
      · exact hbe
      · exact (hTs y q).1
    · rw [Array.getElem?_setIfInBounds_ne (by decide)]; exact h0
    · have : 1 < vs.size := by
        rcases h1 with q | ⟨_, _, _, q, _⟩ <;> exact (Array.getElem?_eq_some_iff.mp q).1
      simp [this]
    · intro q; subst q; rw [he] at hT0; cases hT0
  unfold leaving noteFrame
  simp only [hf]
  rcases h1 with h1 | ⟨T, oT, ts, h1, hbT, hTD, hTe, hT, hTd, hT3⟩
  · refine wpAny_bind (wpAny_bind (wpAny_field he hd h1 ?_))
    rw [if_neg (by decide)]
    exact tail_fly hA F hf he hd (Array.getElem?_eq_some_iff.mp h1).1 fun h' T oT ts k he' a b c d => fin [] h' T oT ts (by simp) (fun b o eb ne _ => k b o eb ne) he' a b c d
  · refine wpAny_bind (wpAny_bind (wpAny_field he hd h1 ?_))
    rw [if_pos (show (Value.ref T != Value.none) = true from by simp)]
    refine wpAny_bind (wpAny_field hT hTd hT3 ?_)
    rw [if_neg (show ¬ ((Value.none == rawInt L) = true) from by simp [rawInt])]
    refine wpAny_bind (wpAny_setField hT hTd (Array.getElem?_eq_some_iff.mp hT3).1 ?_)
    have other : ∀ b, b ≠ T → (s.heap.update T (Obj.mapFields (·.setIfInBounds 3 Value.none))).get? b = s.heap.get? b := fun b hb => Heap.get?_update_other _ _ (Ne.symm hb)
    have hT' := Heap.get?_update_self (Obj.mapFields (·.setIfInBounds 3 Value.none)) hT (Obj.isFreed_of_fields (Obj.data_mapFields hTd _))
    have F' : FrsOk W ρ (s.heap.update T (Obj.mapFields (·.setIfInBounds 3 Value.none))) (env :: outer) := fun en hen => by
      obtain ⟨a, L', o', q1, q2, q3, q4, q5⟩ := F en hen
      exact ⟨a, L', o', q1, q2, q3, (other L' fun q => by subst q; rw [hT] at q4; cases q4; exact fields_notFr hTd q5).trans q4, q5⟩
    refine tail_fly (s := { s with heap := s.heap.update T (Obj.mapFields (·.setIfInBounds 3 Value.none)) }) hA F' hf ((other e (Ne.symm hTe)).trans he) hd (Array.getElem?_eq_some_iff.mp h1).1 fun h' T' oT' ts' k he' a b c d => ?_
    refine fin [T] h' T' oT' ts' (fun t ht => ?_) (fun b o eb ne nT => ?_) he' ?_ b c d
    · simp only [List.mem_singleton] at ht; subst ht
      refine ⟨hbT, hTD, ?_, oT, ts, hT, hTd, hT3⟩
      rcases k t _ hT' hTe with z | ⟨_, _, sl, z⟩ <;> exact ⟨_, z⟩
    · exact k b o ((other b (by simpa using nT)).trans eb) ne
    · by_cases q : T' = T
      · subst q; rw [hT'] at a; cases a
      · rw [← other T' q]; exact a
end

end Mine
end

section
namespace Mine
open PySem PySem.W PySem.Calls PyProof.Rows

section
variable {W : Wd} {n : Nat} {sc : Scope} {loc : Lc} {σ : St} {X : St → Prop} {K : V → St → Prop}

/-- a call, as the code that it starts -/
noncomputable def OKd (W : Wd) (n : Nat) (f : Value) (args : List V) (σ : St) (K : V → St → Prop) (X : St → Prop) : Prop :=
  ∀ A ρ s vs R, Pre W n A ρ σ s → Rps ρ s.heap args vs → (∀ v s', PV W ρ s K v s' → R (.ok (.ret v)) s') → EX W ρ s X (fun e s' => R (.error e) s') → codeAny W.M A (.call f ⟨vs, []⟩) R s
theorem OKd.call {f : Value} {args : List V} (h : OKd W n f args σ K X) : OKc W n f args σ K X :=
  fun A ρ s vs E P r H => wpAny_call (h A ρ s vs _ P r (fun _ _ p => p) H)
theorem OKd.mono {f : Value} {args : List V} {K' : V → St → Prop} (h : OKd W n f args σ K X) (hk : ∀ v σ', K v σ' → K' v σ') : OKd W n f args σ K' X :=
  fun A ρ s vs R P r HR H => h A ρ s vs R P r (fun v s' ⟨d, σ', ρ', k, q⟩ => HR v s' ⟨d, σ', ρ', hk _ _ k, q⟩) H
theorem OKd.down {f : Value} {args : List V} {m : Nat} (h : OKd W m f args σ K X) (hm : m ≤ n) : OKd W n f args σ K X :=
  fun A ρ s vs R P r HR H => h A ρ s vs R (P.down hm) r HR H
theorem OKd.exc {f : Value} {args : List V} {X' : St → Prop} (h : OKd W n f args σ K X) (hx : ∀ σ', X σ' → X' σ') : OKd W n f args σ K X' :=
  fun A ρ s vs R P r HR H => h A ρ s vs R P r HR fun e σ' ρ' s' q => H e σ' ρ' s' (hx _ q)

theorem cellsFrom_some : ∀ (names : List (Str × NameKind)) (k : Nat) (acc : List (Str × Addr)) (y : Str), (acc.lookup y).isSome = true ∨ (y, NameKind.cell) ∈ names → ((cellsFrom k names acc).lookup y).isSome = true
  | [], _, _, _, h => by rcases h with h | h; exact h; cases h
  | (x, kd) :: r, k, acc, y, h => by
    unfold cellsFrom
    by_cases hk : (kd == NameKind.cell) = true
    · rw [if_pos hk]
      refine cellsFrom_some r _ _ y ?_
      by_cases hy : y = x
      · subst hy; left; simp
      · rcases h with h | h
        · left
          rw [List.lookup_cons, show (y == x) = false from by simp [hy]]; exact h
        · rcases List.mem_cons.mp h with e | e
          · cases e; exact absurd rfl hy
          · exact .inr e
    · rw [if_neg hk]
      refine cellsFrom_some r _ _ y (h.imp id fun h => ?_)
      rcases List.mem_cons.mp h with e | e
      · cases e; exact absurd rfl hk
      · exact e
theorem mem_of_look {x : Str} {k : NameKind} : ∀ {l : List (Str × NameKind)}, l.lookup x = some k → (x, k) ∈ l
  | [], h => by cases h
  | (y, d) :: r, h => by
    rw [List.lookup_cons] at h
    cases hb : x == y with
    | true => rw [hb] at h; cases h; rw [eq_of_beq hb]; exact List.mem_cons_self
    | false => rw [hb] at h; exact List.mem_cons_of_mem _ (mem_of_look h)

/-- the names are bound one behind the other -/
theorem store_all {A : Around} {E : Value → Shared → Prop} {ρ : Rho} {env : Env} {Q : PUnit → Shared → Prop} (f : Str × Value → PUnit → Sem (ForInStep PUnit)) (hf : ∀ n v u, f (n, v) u = (do storeName env n v; pure (.yield ⟨⟩))) :
    ∀ (names : List Str) (args : List V) (vs : List Value) (loc : Lc) (s : Shared), names.length = args.length → Rps ρ s.heap args vs → Inv W ρ σ s.heap → EnvOk W sc ρ s.heap env loc →
      (∀ y ∈ names, sc.names.lookup y = some .local ∨ sc.names.lookup y = some .cell) →
      (∀ s', Stp (own env) ρ s ρ s' → Inv W ρ σ s'.heap → EnvOk W sc ρ s'.heap env ((names.zip args).reverse ++ loc) → Q ⟨⟩ s') → wpAny W.M A (forIn (names.zip vs) ⟨⟩ f) Q E s := by
  intro names
  induction names with
  | nil =>
    intro args vs loc s hl _ I N _ h
    cases args with
    | cons a as => exact absurd hl (by simp)
    | nil =>
      rw [List.zip_nil_left, List.forIn_nil]
      exact wpAny_pure (h s (Stp.refl _ _) I N)
  | cons y ys ih =>
    intro args vs loc s hl r I N hy h
    cases args with
    | nil => exact absurd hl (by simp)
    | cons a as =>
      unfold Rps at r
      obtain ⟨v, vr, rfl, ra, rr⟩ := r
      rw [List.zip_cons_cons, List.forIn_cons, hf]
      refine wpAny_bind (wpAny_bind (store_any I N ra (hy y List.mem_cons_self) fun s₁ t₁ I₁ N₁ => wpAny_pure ?_))
      refine ih as vr _ s₁ (by simpa using hl) (t₁.rps rr) I₁ N₁ (fun z hz => hy z (List.mem_cons_of_mem _ hz)) fun s₂ t₂ I₂ N₂ => h s₂ (t₁.tr t₂) I₂ ?_
      simpa using N₂

noncomputable def flv : Fl → V
  | .ret v => v
  | _ => .none

theorem Room.deeper {n : Nat} {A : Around} {env : Env} (r : Room (n + 1) A) : Room n (A.deeper env) :=
  ⟨by have := r.depth; show A.depth + 1 + _ + _ < _; omega, by have := r.units; show A.units + 3 + _ + _ < _; omega⟩

/-- what a call of a function meets ahead of its body -/
theorem def_core {f : Addr} {name qual : Str} {params : Arguments} {body : List Stmt} {scope : Scope} {dV kV doc pm : Value} {an : Option Addr} {cdv ct : Value} {args : List V} (names : List Str)
    (hl : names.length = args.length)
    (hb : ∀ (s : Shared) (vs : List Value), W.K.In s.heap → vs.length = args.length → BindsTo s (fnOf name qual params body scope dV kV doc pm an cdv ct) ⟨vs, []⟩ (names.zip vs))
    (hy : ∀ y ∈ names, scope.names.lookup y = some .local ∨ scope.names.lookup y = some .cell) (hk : scope.kind = .function)
    {A : Around} {ρ : Rho} {s : Shared} {vs : List Value} {Z : Env → Shared → Prop} {E₁ : Value → Shared → Prop} (P : Pre W (n + 1) A ρ σ s) (r : Rps ρ s.heap args vs)
    (h : ∀ env s₁, Pre W n (A.deeper env) ρ σ s₁ → EnvOk W scope ρ s₁.heap env (names.zip args).reverse → (∀ ρ' s', Stp (own env) ρ s₁ ρ' s' → Stp [] ρ s ρ' s') →
      (∀ e σ' ρ' s' (Q : Unit → Shared → Prop) E', Stp (own env) ρ s₁ ρ' s' → Inv W ρ' σ' s'.heap → Fly s₁.heap ρ' e s'.heap →
        (∀ h', Stp [] ρ s ρ' { s' with heap := h' } → Inv W ρ' σ' h' → Fly s.heap ρ' e h' → Q () { s' with heap := h' }) → wpAny W.M (A.deeper env) (leaving env (.ref e)) Q E' s') → Z env s₁) :
    wpAny W.M A.in1 (bindArgs (fnOf name qual params body scope dV kV doc pm an cdv ct) ⟨vs, []⟩) (fun binds s₁ =>
      wpAny W.M A.in1 (newFunctionEnv scope mainGlobals [] binds (qual ++ ".<locals>.") (some f) cdv none builtinsNs) (fun env s₂ => s₂.heap.NoLimit ∧ Z env s₂) E₁ s₁) E₁ s := by
  refine hb s vs P.kin r.length _ _ _ _ ?_
  simp only [newFunctionEnv, Option.isSome_none, Bool.false_eq_true, if_false]
  refine wpAny_bind (wpAny_alloc ?_)
  refine wpAny_bind (wpAny_layCells _ (fun name kind cells => by cases hkc : kind == NameKind.cell <;> simp [hkc]) _ _ _ _ ?_)
  have ok := cellsFrom_ok scope.names (s.heap.push { cls := .type "frame", data := .dict #[] }) (s.heap.objs.size + 1) [] ⟨fun _ _ hm => (nomatch hm), List.Pairwise.nil⟩ (by rw [Heap.size_push]; exact Nat.le_refl _)
  rw [Heap.size_push] at ok
  rw [show ({ s with heap := s.heap.push { cls := .type "frame", data := .dict #[] } } : Shared).heap.objs.size = s.heap.objs.size + 1 from Heap.size_push ..]
  -- the new heap
  have k₀ : ∀ b o, s.heap.get? b = some o → (pushCells (s.heap.push { cls := .type "frame", data := .dict #[] }) scope.names).get? b = some o := fun b o e => pushCells_keeps _ _ b o (Heap.get?_push_of_some _ e)
  have t₀ : Stp [] ρ s ρ { s with heap := pushCells (s.heap.push { cls := .type "frame", data := .dict #[] }) scope.names } := Stp.all (s := s) k₀
  have I₀ := P.inv.all k₀
  have hn : ∀ d, s.heap.objs.size ≤ d → s.heap.get? d = none := fun d hd => Heap.get?_none_of_le hd
  have hw : ∀ d, s.heap.objs.size ≤ d → W.h₀.get? d = none := fun d hd => by
    cases q : W.h₀.get? d with
    | none => rfl
    | some o => have := P.inv.keep d o q; rw [hn d hd] at this; cases this
  have hdm : ∀ d, s.heap.objs.size ≤ d → d ∉ Dm ρ := fun d hd => P.inv.out (hn d hd)
  refine wpAny_bind ?_
  have hL : (pushCells (s.heap.push { cls := .type "frame", data := .dict #[] }) scope.names).get? s.heap.objs.size = some { cls := .type "frame", data := .dict #[] } := pushCells_keeps _ _ _ _ (Heap.get?_push_size _ rfl)
  generalize henv : ({ scope := scope, locals := s.heap.objs.size, globals := mainGlobals, cells := cellsFrom (s.heap.objs.size + 1) scope.names [], qual := qual ++ ".<locals>.", func := some f, code := cdv, frame := some s.heap.objs.size, builtins := builtinsNs } : Env) = env
  have lkc : ∀ x c, env.cells.lookup x = some c → (x, c) ∈ cellsFrom (s.heap.objs.size + 1) scope.names [] := fun x c e => by subst henv; exact mem_of_lookup e
  have N₀ : EnvOk W scope ρ (pushCells (s.heap.push { cls := .type "frame", data := .dict #[] }) scope.names) env [] := by
    refine ⟨by subst henv; rfl, hk, by subst henv; rfl, by subst henv; rfl, ?_, ⟨fun _ => none, ?_, fun x v e => by cases e⟩, fun x c e => ?_, fun x y c e e' => ?_, fun y e => ?_, fun x v e => (by cases e), fun d hd => ?_⟩
    · subst henv; exact ⟨hdm _ (Nat.le_refl _), hw _ (Nat.le_refl _)⟩
    · subst henv; exact (Heap.Ns.new s.heap (.type "frame")).keeps (pushCells_keeps _ _)
    · have hm := ok.empty x c (lkc x c e)
      refine ⟨hdm c (Nat.le_of_succ_le hm.2), ?_, hw c (Nat.le_of_succ_le hm.2), _, hm.1⟩
      subst henv; exact Nat.ne_of_gt hm.2
    · exact name_of_addr ok.apart (lkc x c e) (lkc y c e')
    · subst henv; exact cellsFrom_some _ _ _ y (.inr (mem_of_look e))
    · rcases List.mem_cons.mp hd with rfl | hm
      · subst henv; exact ⟨_, hL⟩
      · obtain ⟨⟨a, c⟩, hm', rfl⟩ := List.mem_map.mp hm
        have hm2 : (a, c) ∈ cellsFrom (s.heap.objs.size + 1) scope.names [] := by subst henv; exact hm'
        obtain ⟨o, ho, _⟩ := (ok.empty a c hm2).1
        exact ⟨o, ho⟩
  have hown : ∀ y ∈ own env, s.heap.get? y = none := fun y hy => by
    refine hn y ?_
    rcases List.mem_cons.mp hy with rfl | hm
    · subst henv; exact Nat.le_refl _
    · obtain ⟨⟨a, c⟩, hm', rfl⟩ := List.mem_map.mp hm
      have hm2 : (a, c) ∈ cellsFrom (s.heap.objs.size + 1) scope.names [] := by subst henv; exact hm'
      exact Nat.le_of_succ_le (ok.empty a c hm2).2
  refine store_all (W := W) (σ := σ) (sc := scope) (env := env) (ρ := ρ) _ (fun _ _ _ => rfl) names args vs [] _ hl (t₀.rps r) I₀ N₀ hy fun s₁ t₁ I₁ N₁ => wpAny_pure ?_
  rw [List.append_nil] at N₁
  have hnl : s₁.heap.NoLimit := W.lim.keeps I₁.keep
  refine ⟨hnl, ?_⟩
  have up : ∀ {ρ' : Rho} {s' : Shared}, Stp (own env) ρ s₁ ρ' s' → Stp [] ρ s ρ' s' := fun t => t₀.trans (t₁.tr t) fun y hy => .inr (.inr (hown y hy))
  obtain ⟨l, hl₀, FF⟩ := P.frs
  have hfr : (A.deeper env).frames = some (env :: l) := by show A.frames.map (env :: ·) = _; rw [hl₀]; rfl
  have frs : ∀ {ρ' : Rho} {s' : Shared}, Stp (own env) ρ s₁ ρ' s' → FrsOk W ρ' s'.heap (env :: l) := fun {ρ' s'} t => by
    intro en hen
    rcases List.mem_cons.mp hen with rfl | hen
    · obtain ⟨o1, e1, f1⟩ := t₁.frs _ _ hL (hdm _ (Nat.le_refl _)) ⟨rfl, _, _, rfl⟩
      obtain ⟨o2, e2, f2⟩ := t.frs _ _ e1 (hdm _ (Nat.le_refl _)) f1
      refine ⟨by subst henv; show scope.kind ≠ _; rw [hk]; decide, s.heap.objs.size, o2, by subst henv; rfl, hw _ (Nat.le_refl _), ?_, e2, f2⟩
      exact t.out e1 (hdm _ (Nat.le_refl _))
    · exact (FF.step (up t)) en hen
  have P₁ : Pre W n (A.deeper env) ρ σ s₁ := ⟨P.room.deeper, P.hand, ⟨_, hfr, frs (Stp.refl _ _)⟩, I₁⟩
  refine h env s₁ P₁ N₁ (fun ρ' s' t => up t) fun e σ' ρ' s' Q E' t I fl hQ => ?_
  have tt := up t
  exact leave_fly (hb := s.heap) hfr (frs t) I (fl.base (t₀.trans0 (Stp.refl _ _) |>.trans t₁ fun y hy => .inr (.inr (hown y hy))).ex) tt.ex (fun b o e => ⟨o, P.inv.keep b o e⟩) fun h' Y hY tY IY fY =>
    hQ h' (tt.trans tY fun y hy => .inr (.inr (hY y hy))) IY fY

theorem flv_rp {ρ : Rho} {h : Heap} {fl : Fl} {f : Flow} : FlR ρ h fl f → Rp ρ h (flv fl) (match f with | .ret v => v | _ => .none) := by
  intro rf
  cases fl with
  | next => unfold FlR at rf; subst rf; rfl
  | brk => unfold FlR at rf; subst rf; rfl
  | cont => unfold FlR at rf; subst rf; rfl
  | ret v => unfold FlR at rf; obtain ⟨x, rfl, q⟩ := rf; exact q

theorem c_defD {f : Addr} {oc od : _} {osl : Array (Option Value)} {name qual : Str} {params : Arguments} {body : List Stmt} {scope : Scope} {dV kV doc pm : Value} {an : Option Addr} {cdv ct : Value} {args : List V} (names : List Str)
    (ho : W.K.lookup f = some ⟨oc, od, .func (fnOf name qual params body scope dV kV doc pm an cdv ct), osl⟩) (hcd : codeIn W.K cdv qual = true)
    (hl : names.length = args.length)
    (hb : ∀ (s : Shared) (vs : List Value), W.K.In s.heap → vs.length = args.length → BindsTo s (fnOf name qual params body scope dV kV doc pm an cdv ct) ⟨vs, []⟩ (names.zip vs))
    (hy : ∀ y ∈ names, scope.names.lookup y = some .local ∨ scope.names.lookup y = some .cell)
    (h : OKs W n scope body (names.zip args).reverse σ (fun fl _ σ' => K (flv fl) σ') X)
    (hco : scope.isCoroutine = false := by rfl) (hgen : scope.isGenerator = false := by rfl) (hk : scope.kind = .function := by rfl) : OKd W (n + 1) (.ref f) args σ K X := by
  intro A ρ s vs R P r HR H
  refine codeAny_call_function (fd := fnOf name qual params body scope dV kV doc pm an cdv ct) (body := body) P.d (P.kin _ _ ho) rfl hco hgen rfl (codeRec_of P.kin hcd) ?_
  refine def_core names hl hb hy hk P r fun env s₁ P₁ N₁ up lv => codeAny_func ?_
  refine wpAny_mono (h (A.deeper env) env ρ s₁ _ P₁ N₁ ⟨PassesOwn.leaving (Q₁ := fun e s'' => R (.error e) s'') (E₁ := fun e' s'' => R (.error e') s''), fun e σ' ρ' s' hx t I fl => lv e σ' ρ' s' _ _ t I fl fun h' tt IY fY => H e σ' ρ' _ hx tt IY fY⟩)
    (fun fl s' q_ => q_.elim fun fl' _ σ' ρ' k t I N rf => HR _ _ ⟨flv fl', σ', ρ', k, up _ _ t, I, flv_rp rf⟩) fun _ _ x => x
theorem c_def {f : Addr} {oc od : _} {osl : Array (Option Value)} {name qual : Str} {params : Arguments} {body : List Stmt} {scope : Scope} {dV kV doc pm : Value} {an : Option Addr} {cdv ct : Value} {args : List V} (names : List Str)
    (ho : W.K.lookup f = some ⟨oc, od, .func (fnOf name qual params body scope dV kV doc pm an cdv ct), osl⟩) (hcd : codeIn W.K cdv qual = true)
    (hl : names.length = args.length)
    (hb : ∀ vs : List Value, vs.length = args.length → bindArgs (fnOf name qual params body scope dV kV doc pm an cdv ct) ⟨vs, []⟩ = pure (names.zip vs))
    (hy : ∀ y ∈ names, scope.names.lookup y = some .local ∨ scope.names.lookup y = some .cell)
    (h : OKs W n scope body (names.zip args).reverse σ (fun fl _ σ' => K (flv fl) σ') X)
    (hco : scope.isCoroutine = false := by rfl) (hgen : scope.isGenerator = false := by rfl) (hk : scope.kind = .function := by rfl) : OKd W (n + 1) (.ref f) args σ K X :=
  c_defD names ho hcd hl (fun s vs _ h => BindsTo.of_eq (hb vs h)) hy h hco hgen hk
end

end Mine
end

section
namespace Mine
open PySem PySem.W PySem.Calls PyProof.Rows

section
variable {W : Wd} {n : Nat} {sc : Scope} {loc : Lc} {σ : St} {X : St → Prop} {K : V → St → Prop}

/-- a new object of a class -/
theorem c_new {C fI : Addr} {args : List V} (hm : makesIn W.K C = true) (hi : findIn W.K (.ref C) "__init__" = some (some (.ref fI))) (hf : typeIn W.K (.ref fI) = some (.type "function"))
    (h : OKd W n (.ref fI) (.obj σ.length :: args) (σ ++ [.inst C []]) (fun v σ' => v = .none ∧ K (.obj σ.length) σ') X) : OKd W (n + 1) (.ref C) args σ K X := by
  intro A ρ s vs R P r HR H
  obtain ⟨hh, g, d, t, os⟩ := s
  refine make_core (makes_of P.kin hm) (looks_findIn P.kin hi) (fun self => bind_fn P.kin self hf) (.inl rfl) ?_
  have k : ∀ b o, hh.get? b = some o → ((hh.push emptyDict).push (instObj C hh.objs.size)).get? b = some o := fun b o e => Heap.get?_push_of_some _ (Heap.get?_push_of_some _ e)
  have hn : ∀ a ∈ (Loc.two (hh.objs.size + 1) hh.objs.size).addrs, hh.get? a = none := by
    intro a ha
    simp only [Loc.addrs, List.mem_cons, List.not_mem_nil, or_false] at ha
    rcases ha with rfl | rfl
    · exact Heap.get?_none_of_le (Nat.le_succ _)
    · exact Heap.get?_none_of_le (Nat.le_refl _)
  have hx : ((hh.push emptyDict).push (instObj C hh.objs.size)).get? (hh.objs.size + 1) = some (instObj C hh.objs.size) := by heap_get
  have hd : ((hh.push emptyDict).push (instObj C hh.objs.size)).get? hh.objs.size = some emptyDict := Heap.get?_push_of_some _ (Heap.get?_push_size _ rfl)
  have t₁ : Stp [] ρ ⟨hh, g, d, t, os⟩ (ρ ++ [Loc.two (hh.objs.size + 1) hh.objs.size]) ⟨(hh.push emptyDict).push (instObj C hh.objs.size), g, d, t, os⟩ := Stp.new (s := ⟨hh, g, d, t, os⟩) k hn
  have I₁ : Inv W (ρ ++ [Loc.two (hh.objs.size + 1) hh.objs.size]) (σ ++ [.inst C []]) ((hh.push emptyDict).push (instObj C hh.objs.size)) := by
    refine P.inv.push k hn (by simp [Loc.addrs]) ⟨⟨_, hx, rfl, rfl, rfl⟩, _, #[], 0, fun _ => none, hd, rfl, rfl, ?_, fun _ => rfl, Nat.le_refl _, fun x => rfl⟩
    intro e he; simp at he
  have P₁ := P.step t₁ I₁
  refine h (A.under (.builtin "type.__call__" ⟨.ref C :: vs, []⟩)) _ _ (.ref (hh.objs.size + 1) :: vs) _ ?_ (Rps.cons ?_ (t₁.rps r)) (fun v s' ⟨v', σ', ρ', ⟨hv, kv⟩, t', I', r'⟩ => ?_) (fun e σ' ρ' s' hx t' I' f => ?_)
  · refine ⟨⟨?_, ?_⟩, P₁.hand, ?_, I₁⟩
    · have := P.room.depth; show A.depth + 1 + _ + _ < _; omega
    · have := P.room.units; show A.units + 1 + _ + _ < _; omega
    · exact P₁.frs
  · unfold Rp
    have hl : ρ.length = σ.length := P.inv.len
    exact ⟨Loc.two (hh.objs.size + 1) hh.objs.size, by rw [← hl]; simp, rfl⟩
  · subst hv
    refine ⟨r', HR _ _ ⟨_, σ', ρ', kv, t₁.tr t', I', t'.rp ?_⟩⟩
    unfold Rp
    have hl : ρ.length = σ.length := P.inv.len
    exact ⟨Loc.two (hh.objs.size + 1) hh.objs.size, by rw [← hl]; simp, rfl⟩
  · exact H e σ' ρ' s' hx (t₁.tr t') I' (f.base t₁.ex)
end

end Mine
end

section
namespace Mine
open PySem PySem.W PySem.Calls PyProof.Rows

section
variable {W : Wd} {n : Nat} {sc : Scope} {loc : Lc} {σ : St} {X : St → Prop} {K : Fl → Lc → St → Prop}

/-- what a value holds that may be run through -/
noncomputable def rsz (a b c : Int) : Int := Builtin.Range.rangeSize a b c
noncomputable def rngL (a b c : Int) : List V := (List.range (rsz a b c).toNat).map fun (k : Nat) => .int (a + c * (k : Int))
noncomputable def Elems (σ : St) (v : V) (vs : List V) : Prop := match v with
  | .lst us => us = vs
  | .obj i => σ[i]? = some (.list vs)
  | .rng a b c => 0 < c ∧ c ≤ 1000000000 ∧ a.natAbs ≤ 1000000000 ∧ b.natAbs ≤ 1000000000 ∧ rngL a b c = vs
  | _ => False
noncomputable def ItJ (W : Wd) (ρ : Rho) (h : Heap) (it : Addr) (v : V) (k : Nat) : Prop :=
  it ∉ Dm ρ ∧ W.h₀.get? it = none ∧ match v with
  | .rng a b c => IsRangeIter h it (a + c * k) (rsz a b c - k) c
  | v => ∃ l, Rp ρ h v (.ref l) ∧ h.IsListIter it l k

theorem ItJ.step {X : List Addr} {ρ ρ' : Rho} {s s' : Shared} {it : Addr} {v : V} {k : Nat} (J : ItJ W ρ s.heap it v k) (t : Stp X ρ s ρ' s') (hx : it ∉ X) : ItJ W ρ' s'.heap it v k := by
  obtain ⟨a, b, c⟩ := J
  have stay : ∀ o, s.heap.get? it = some o → o.cls ≠ .type "frame" → s'.heap.get? it = some o ∧ it ∉ Dm ρ' := fun o e hc =>
    ⟨t.keeps.strict e (fun q => by rcases List.mem_append.mp q with q | q; exact hx q; exact a q) hc, t.out e a⟩
  have go : ∀ v, (∃ l, Rp ρ s.heap v (.ref l) ∧ s.heap.IsListIter it l k) → it ∉ Dm ρ' ∧ ∃ l, Rp ρ' s'.heap v (.ref l) ∧ s'.heap.IsListIter it l k := by
    rintro v ⟨l, r, o, ho, hc, hd⟩
    obtain ⟨z1, z2⟩ := stay o ho (by rw [hc]; decide)
    exact ⟨z2, l, t.rp r, o, z1, hc, hd⟩
  cases v with
  | rng x y z =>
    obtain ⟨z1, z2⟩ := stay _ c (by show Value.type "range_iterator" ≠ _; decide)
    exact ⟨z2, b, z1⟩
  | _ => obtain ⟨z1, z2⟩ := go _ c; exact ⟨z1, b, z2⟩

theorem lst_at {ρ : Rho} {h : Heap} {v : V} {val : Value} {vs : List V} (I : Inv W ρ σ h) (r : Rp ρ h v val) (e : Elems σ v vs) (hn : ∀ a b c, v ≠ .rng a b c) :
    ∃ l items, val = .ref l ∧ h.IsList l items ∧ Rps ρ h vs items.toList := by
  cases v with
  | lst us =>
    have e : us = vs := e
    subst e
    unfold Rp at r
    obtain ⟨a, o, items, m, rfl, ho, hc, hd, ha, hr⟩ := r
    exact ⟨a, items, rfl, ⟨o, ho, hc, m, hd⟩, hr⟩
  | obj i =>
    have e : σ[i]? = some (.list vs) := e
    unfold Rp at r
    obtain ⟨l, hl, rfl⟩ := r
    have R := I.objs i l _ hl e
    cases l with
    | one a =>
      obtain ⟨items, hp, hr⟩ := R
      exact ⟨a, items, rfl, hp.isList, hr⟩
    | two x d => exact R.elim
  | rng a b c => exact absurd rfl (hn a b c)
  | _ => exact False.elim e

theorem rsz_le {a b c : Int} (hc : 0 < c) (ha : a.natAbs ≤ 1000000000) (hb : b.natAbs ≤ 1000000000) : 0 ≤ rsz a b c ∧ rsz a b c ≤ 2000000001 := by
  unfold rsz Builtin.Range.rangeSize
  rw [if_pos hc]
  split
  · rename_i h
    have h1 : 0 ≤ (b - a - 1) / c := Int.ediv_nonneg (by omega) (by omega)
    have h2 : (b - a - 1) / c ≤ b - a - 1 := Int.ediv_le_self _ (by omega)
    omega
  · omega
theorem small_of {a b c : Int} (hc : 0 < c) (hc' : c ≤ 1000000000) (ha : a.natAbs ≤ 1000000000) (hb : b.natAbs ≤ 1000000000) : Builtin.Range.small a b c = true := by
  have fits : ∀ x : Int, x.natAbs ≤ 4000000000 → Builtin.Range.rangeFitsLong x = true := fun x hx => by
    unfold Builtin.Range.rangeFitsLong
    simp
    omega
  obtain ⟨h1, h2⟩ := rsz_le hc ha hb
  unfold rsz at h1 h2
  unfold Builtin.Range.small
  rw [fits a (by omega), fits b (by omega), fits c (by omega), fits (Builtin.Range.rangeSize a b c) (by omega), if_pos hc, fits (b + (c - 1)) (by omega)]
  simp

theorem it_start {A : Around} {E : Value → Shared → Prop} {ρ : Rho} {s : Shared} {v : V} {val : Value} {vs : List V} (P : Pre W n A ρ σ s) (e : Elems σ v vs) (r : Rp ρ s.heap v val) :
    wpAny W.M A (pyIter val) (fun x s' => ∃ it, x = .ref it ∧ Stp [] ρ s ρ s' ∧ Inv W ρ σ s'.heap ∧ ItJ W ρ s'.heap it v 0 ∧ s.heap.get? it = none) E s := by
  have hn := none_at_size s.heap
  have hw : W.h₀.get? s.heap.objs.size = none := by
    cases q : W.h₀.get? s.heap.objs.size with
    | none => rfl
    | some o => have := P.inv.keep _ o q; rw [hn] at this; cases this
  by_cases hr : ∃ a b c, v = .rng a b c
  · obtain ⟨a, b, c, rfl⟩ := hr
    obtain ⟨hc0, hc1, ha, hb, _⟩ := e
    have sm := small_of hc0 hc1 ha hb
    unfold Rp at r
    obtain ⟨x, t, u, w, rfl, hx, hd⟩ := r
    refine wpAny_pyIter_range hx sm ⟨_, rfl, Stp.all (s := s) fun _ _ e => Heap.get?_push_of_some _ e, P.inv.all fun _ _ e => Heap.get?_push_of_some _ e, ⟨P.inv.out hn, hw, ?_⟩, hn⟩
    show IsRangeIter _ _ _ _ _
    unfold IsRangeIter
    rw [Heap.get?_push_size _ rfl]
    simp [rsz]
  · have hr' : ∀ a b c, v ≠ .rng a b c := fun a b c q => hr ⟨a, b, c, q⟩
    obtain ⟨l, items, rfl, hl, hrs⟩ := lst_at P.inv r e hr'
    have k : ∀ b o, s.heap.get? b = some o → (s.heap.push { cls := .type "list_iterator", data := .fields #[.ref l, .int 0 0] }).get? b = some o := fun _ _ e => Heap.get?_push_of_some _ e
    have t : Stp [] ρ s ρ { s with heap := s.heap.push { cls := .type "list_iterator", data := .fields #[.ref l, .int 0 0] } } := Stp.all (s := s) k
    refine wpAny_pyIter_list hl ⟨_, rfl, t, P.inv.all k, ⟨P.inv.out hn, hw, ?_⟩, hn⟩
    have J : ∃ l', Rp ρ (s.heap.push { cls := .type "list_iterator", data := .fields #[.ref l, .int 0 0] }) v (.ref l') ∧ Heap.IsListIter (s.heap.push { cls := .type "list_iterator", data := .fields #[.ref l, .int 0 0] }) s.heap.objs.size l' 0 :=
      ⟨l, t.rp r, _, Heap.get?_push_size _ rfl, rfl, rfl⟩
    cases v with
    | rng a b c => exact absurd rfl (hr' a b c)
    | _ => exact J

theorem it_again {A : Around} {E : Value → Shared → Prop} {ρ : Rho} {s : Shared} {v : V} {it : Addr} {k : Nat} {Q : Value → Shared → Prop} (J : ItJ W ρ s.heap it v k) (h : Q (.ref it) s) : wpAny W.M A (pyIter (.ref it)) Q E s := by
  obtain ⟨_, _, J⟩ := J
  by_cases hr : ∃ a b c, v = .rng a b c
  · obtain ⟨a, b, c, rfl⟩ := hr
    exact wpAny_pyIter_rangeiter J h
  · have J : ∃ l, Rp ρ s.heap v (.ref l) ∧ s.heap.IsListIter it l k := by
      cases v with
      | rng a b c => exact absurd ⟨a, b, c, rfl⟩ hr
      | _ => exact J
    obtain ⟨l, _, hi⟩ := J
    exact wpAny_pyIter_listiter hi h

/-- but for the iterator nothing is changed -/
structure Turn (it : Addr) (ρ : Rho) (s s' : Shared) : Prop where
  same : ∃ h' t', s' = { s with heap := h', toks := t' }
  but : ∀ b o, s.heap.get? b = some o → b ≠ it → s'.heap.get? b = some o
  vals : KeepsV (Dm ρ) s.heap s'.heap
theorem Turn.of {ρ : Rho} {s : Shared} {it : Addr} {o : Obj} (ho : s.heap.get? it = some o) (hv : ¬ isVal o) {h' : Heap} {t' : Nat} (hs : ∀ b ob, s.heap.get? b = some ob → b ≠ it → h'.get? b = some ob) : Turn it ρ s { s with heap := h', toks := t' } :=
  ⟨⟨_, _, rfl⟩, hs, fun b ob e _ z => hs b ob e fun q => by subst q; rw [ho] at e; cases e; exact hv z⟩
theorem Turn.rp {ρ : Rho} {s s' : Shared} {it : Addr} (T : Turn it ρ s s') {d : V} {v : Value} (r : Rp ρ s.heap d v) : Rp ρ s'.heap d v := by
  have := r.mono (more := []) T.vals (by simp [Dm])
  rwa [List.append_nil] at this
theorem Turn.rps {ρ : Rho} {s s' : Shared} {it : Addr} (T : Turn it ρ s s') {d : List V} {v : List Value} (r : Rps ρ s.heap d v) : Rps ρ s'.heap d v := by
  have := r.mono (more := []) T.vals (by simp [Dm])
  rwa [List.append_nil] at this
theorem Turn.inv {ρ : Rho} {s s' : Shared} {it : Addr} (T : Turn it ρ s s') (I : Inv W ρ σ s.heap) (hD : it ∉ Dm ρ) (h0 : W.h₀.get? it = none) : Inv W ρ σ s'.heap := by
  refine ⟨fun b ob e => T.but b ob (I.keep b ob e) (fun q => by rw [q, h0] at e; cases e), I.fresh, I.nodup, I.len, fun i l ob h1 h2 => ?_⟩
  have R := I.objs i l ob h1 h2
  have := R.mono (more := []) T.vals (by simp [Dm]) (h' := s'.heap) fun d hd' => by
    obtain ⟨oo, e, _⟩ := R.there d hd'
    rw [e]
    exact T.but d oo e fun q => hD (q ▸ Dm_mem h1 hd')
  rwa [List.append_nil] at this
theorem Turn.stp {ρ ρ₀ : Rho} {s s' s₀ : Shared} {it : Addr} {X : List Addr} (T : Turn it ρ s s') (t : Stp X ρ₀ s₀ ρ s) (hi : s₀.heap.get? it = none) : Stp X ρ₀ s₀ ρ s' := by
  have ne : ∀ b o, s₀.heap.get? b = some o → b ≠ it := fun b o e q => by rw [q, hi] at e; cases e
  refine ⟨?_, fun b o e hb => ?_, fun b o e hb hv => ?_, t.more, fun b o e hb f => ?_, fun b o e => ?_⟩
  · obtain ⟨h1, t1, rfl⟩ := t.same
    obtain ⟨h2, t2, q⟩ := T.same
    exact ⟨h2, t2, q⟩
  · rcases t.keeps b o e hb with q | ⟨f, sl, q⟩
    · exact .inl (T.but b _ q (ne b o e))
    · exact .inr ⟨f, sl, T.but b _ q (ne b o e)⟩
  · exact T.but b o (t.vals b o e hb hv) (ne b o e)
  · obtain ⟨o', e', f'⟩ := t.frs b o e hb f
    exact ⟨o', T.but b o' e' (ne b o e), f'⟩
  · obtain ⟨o', e'⟩ := t.ex b o e
    exact ⟨o', T.but b o' e' (ne b o e)⟩
theorem Turn.env {ρ : Rho} {s s' : Shared} {it : Addr} {env : Env} (T : Turn it ρ s s') (N : EnvOk W sc ρ s.heap env loc) (hi : it ∉ own env) : EnvOk W sc ρ s'.heap env loc := by
  obtain ⟨m, ⟨o, es, ep, ho, hd, r⟩, hm⟩ := N.ns
  have ne : ∀ x c, env.cells.lookup x = some c → c ≠ it := fun x c e q => hi (q ▸ own_cell e)
  refine ⟨N.scope, N.kind, N.glob, N.bi, N.lo, ⟨m, ⟨o, es, ep, T.but _ _ ho fun q => hi (q ▸ own_locals env), hd, r⟩, fun x v e l => ?_⟩, fun x c e => ?_, N.inj, N.cn, fun x v e l => ?_, fun d hd => ?_⟩
  · obtain ⟨z, a, b⟩ := hm x v e l
    exact ⟨z, a, T.rp b⟩
  · obtain ⟨a, b, b', v, o', h1, h2⟩ := N.cells x c e
    exact ⟨a, b, b', v, o', T.but _ _ h1 (ne x c e), h2⟩
  · obtain ⟨k, c, z, a, ⟨o', h1, h2⟩, d⟩ := N.cvals x v e l
    exact ⟨k, c, z, a, ⟨o', T.but _ _ h1 (ne x c a), h2⟩, T.rp d⟩
  · obtain ⟨o', e⟩ := N.there d hd
    exact ⟨o', T.but d o' e fun q => hi (q ▸ hd)⟩

theorem fields_notVal {o : Obj} {vs : Array Value} (h : o.data = .fields vs) (hc : o.cls ≠ .type "range") : ¬ isVal o := by
  rintro (⟨xs, k, e⟩ | ⟨ws, e, e', _⟩)
  · rw [h] at e; cases e
  · exact hc e'

theorem it_next {A : Around} {E : Value → Shared → Prop} {ρ : Rho} {s : Shared} {v : V} {it : Addr} {vs : List V} {k : Nat} {x : V} (P : Pre W n A ρ σ s) (e : Elems σ v vs) (J : ItJ W ρ s.heap it v k) (hx : vs[k]? = some x) :
    wpAny W.M A (pyNext (.ref it)) (fun r s' => ∃ val, r = some val ∧ Turn it ρ s s' ∧ Rp ρ s'.heap x val ∧ ItJ W ρ s'.heap it v (k + 1)) E s := by
  obtain ⟨hD, h0, J⟩ := J
  by_cases hr : ∃ a b c, v = .rng a b c
  · obtain ⟨a, b, c, rfl⟩ := hr
    obtain ⟨hc0, hc1, ha, hb, rfl⟩ := e
    have J : IsRangeIter s.heap it (a + c * k) (rsz a b c - k) c := J
    obtain ⟨hk, hxx⟩ : k < (rsz a b c).toNat ∧ x = .int (a + c * k) := by
      unfold rngL at hx
      rw [List.getElem?_map] at hx
      obtain ⟨y, hy, rfl⟩ := Option.map_eq_some_iff.mp hx
      obtain ⟨h1, h2⟩ := List.getElem?_eq_some_iff.mp hy
      simp at h1 h2
      subst h2
      exact ⟨by omega, rfl⟩
    subst hxx
    refine wpAny_pyNext_range_item J (by omega) fun h' J' hs => ?_
    refine ⟨_, rfl, Turn.of (s := s) J (fields_notVal rfl (by show Value.type "range_iterator" ≠ _; decide)) (fun b ob e hb => (hs.2 b hb).trans e), ⟨_, rfl⟩, hD, h0, ?_⟩
    show IsRangeIter h' it (a + c * (k + 1 : Nat)) (rsz a b c - (k + 1 : Nat)) c
    rw [show a + c * ((k + 1 : Nat) : Int) = a + c * k + c by rw [Int.natCast_add, Int.mul_add]; omega, show rsz a b c - ((k + 1 : Nat) : Int) = rsz a b c - k - 1 by omega]
    exact J'
  · have hr' : ∀ a b c, v ≠ .rng a b c := fun a b c q => hr ⟨a, b, c, q⟩
    have J : ∃ l, Rp ρ s.heap v (.ref l) ∧ s.heap.IsListIter it l k := by
      cases v with
      | rng a b c => exact absurd rfl (hr' a b c)
      | _ => exact J
    obtain ⟨l, r, o, ho, hc, hd⟩ := J
    obtain ⟨l', items, e', hl, hrs⟩ := lst_at P.inv r e hr'
    cases e'
    obtain ⟨y, hy, ry⟩ := hrs.get hx
    refine wpAny_pyNext_list_item ⟨o, ho, hc, hd⟩ hl (by simpa using hy) fun h' J' hs => ?_
    obtain ⟨o', ho', hc', hd'⟩ := J'
    have t : Turn it ρ s { s with heap := h' } := Turn.of (s := s) ho (fields_notVal hd (by rw [hc]; decide)) (fun b ob e hb => (hs.2 b hb).trans e)
    have J' : ∃ l', Rp ρ h' v (.ref l') ∧ h'.IsListIter it l' (k + 1) := ⟨l, t.rp r, o', ho', hc', hd'⟩
    refine ⟨_, rfl, t, t.rp ry, hD, h0, ?_⟩
    cases v with
    | rng a b c => exact absurd rfl (hr' a b c)
    | _ => exact J'

theorem it_end {A : Around} {E : Value → Shared → Prop} {ρ : Rho} {s : Shared} {v : V} {it : Addr} {vs : List V} {k : Nat} (P : Pre W n A ρ σ s) (e : Elems σ v vs) (J : ItJ W ρ s.heap it v k) (hx : vs[k]? = none) :
    wpAny W.M A (pyNext (.ref it)) (fun r s' => r = none ∧ Turn it ρ s s') E s := by
  obtain ⟨hD, h0, J⟩ := J
  by_cases hr : ∃ a b c, v = .rng a b c
  · obtain ⟨a, b, c, rfl⟩ := hr
    obtain ⟨hc0, hc1, ha, hb, rfl⟩ := e
    have J : IsRangeIter s.heap it (a + c * k) (rsz a b c - k) c := J
    have hk : ¬ k < (rsz a b c).toNat := by
      intro q
      unfold rngL at hx
      rw [List.getElem?_map, List.getElem?_range q] at hx
      cases hx
    exact wpAny_pyNext_range_end P.hand J (by omega) fun h' hs => ⟨rfl, Turn.of (s := s) (t' := s.toks) J (fields_notVal rfl (by show Value.type "range_iterator" ≠ _; decide)) fun b ob e hb => hs b ob hb e⟩
  · have hr' : ∀ a b c, v ≠ .rng a b c := fun a b c q => hr ⟨a, b, c, q⟩
    have J : ∃ l, Rp ρ s.heap v (.ref l) ∧ s.heap.IsListIter it l k := by
      cases v with
      | rng a b c => exact absurd rfl (hr' a b c)
      | _ => exact J
    obtain ⟨l, r, o, ho, hc, hd⟩ := J
    obtain ⟨l', items, e', hl, hrs⟩ := lst_at P.inv r e hr'
    cases e'
    have hz : items[k]? = none := by
      have := hrs.length
      rw [List.getElem?_eq_none_iff] at hx
      rw [Array.getElem?_eq_none_iff]
      simp at this; omega
    exact wpAny_pyNext_list_end P.hand ⟨o, ho, hc, hd⟩ hl hz fun h' hs => ⟨rfl, Turn.of (s := s) (t' := s.toks) ho (fields_notVal hd (by rw [hc]; decide)) fun b ob e hb => hs b ob hb e⟩

/-- one of the names of loc at least as in the list -/
noncomputable def Sub : Lc → Lc → Prop
  | [], _ => True
  | (x, v) :: r, l => l.lookup x = some v ∧ Sub r l
theorem Sub.look : ∀ {c l : Lc}, Sub c l → ∀ x v, c.lookup x = some v → l.lookup x = some v
  | [], _, _, _, _, e => by cases e
  | (y, w) :: r, l, h, x, v, e => by
    rcases lk_cons e with ⟨rfl, rfl⟩ | ⟨_, e⟩
    · exact h.1
    · exact Sub.look h.2 x v e

theorem own_old {ρ : Rho} {s : Shared} {env : Env} {it : Addr} (N : EnvOk W sc ρ s.heap env loc) (h : s.heap.get? it = none) : it ∉ own env := fun q => by
  obtain ⟨o, e⟩ := N.there it q
  rw [h] at e; cases e

/-- what follows the value that a for goes over -/
noncomputable def ForOk (W : Wd) (n : Nat) (sc : Scope) (x : Str) (body : List Stmt) (loc : Lc) (K : Fl → Lc → St → Prop) (X : St → Prop) (v : V) (σ₁ : St) : Prop :=
  ∃ vs, ∃ I : Nat → Lc → St → Prop, I 0 loc σ₁ ∧ (∀ k l σ', I k l σ' → Elems σ' v vs) ∧
      (∀ J : Nat → Fl → Lc → St → Prop, (∀ k f l σ', Loop (I (k + 1)) K f l σ' → J k f l σ') → ∀ k l σ' y, I k l σ' → vs[k]? = some y → OKs W n sc body ((x, y) :: l) σ' (J k) X) ∧
      (∀ l σ', I vs.length l σ' → K .next l σ')
/-- for x in iter: body -/
theorem x_for {x : Str} {px pos : Pos} {iter : Expr} {body : List Stmt}
    (h : OKe W n sc iter loc σ (ForOk W n sc x body loc K X) X)
    (hx : sc.names.lookup x = some .local ∨ sc.names.lookup x = some .cell := by first | exact .inl rfl | exact .inr rfl)
    (hs : ∀ env v, foldedSetIterable iter env v = pure v := by intro _ _; rfl) : OKx W n sc (.For (.Name x px) iter body [] pos) loc σ K X := by
  intro A env ρ s E P N H
  refine wpAny_For (wpAny_mono (h A env ρ s E P N H) (fun val s₁ q_ => q_.elim fun v σ₁ ρ₁ hk_ t₁ I₁ r₁ => ?_) fun _ _ x => x) (hs env)
  obtain ⟨vs, I, i0, ie, it, iz⟩ := hk_
  have it := it (fun k => Loop (I (k + 1)) K) fun _ _ _ _ x => x
  refine wpAny_mono (it_start (P.step t₁ I₁) (ie _ _ _ i0) r₁) (fun b s₂ ⟨a, ea, t₂, I₂, J₂, hf⟩ => ?_) fun _ _ x => x
  subst ea
  have N₁ := N.step t₁
  have hao := own_old N₁ hf
  have hfs : s.heap.get? a = none := by
    cases q : s.heap.get? a with
    | none => rfl
    | some o => obtain ⟨o', e⟩ := t₁.ex a o q; rw [hf] at e; cases e
  refine codeAny_forLoop (fun m s' => ∃ k l σ' ρ', m = vs.length - k ∧ k ≤ vs.length ∧ I k l σ' ∧ Stp (own env) ρ s ρ' s' ∧ Inv W ρ' σ' s'.heap ∧ EnvOk W sc ρ' s'.heap env l ∧ ItJ W ρ' s'.heap a v k) ?_ vs.length
    ⟨0, loc, σ₁, ρ₁, rfl, Nat.zero_le _, i0, (t₁.tr t₂).weak, I₂, N₁.step t₂, J₂⟩
  rintro m s' ⟨k, l, σ', ρ', rfl, hk, ik, t, I', N', J⟩
  have P' := P.step t I'
  have D := J.1
  have D0 := J.2.1
  cases hv : vs[k]? with
  | none =>
    refine wpAny_passesOwn H.pass (wpAny_mono (it_end P' (ie _ _ _ ik) J hv) (fun r s₃ ⟨e, T⟩ => ?_) fun _ _ x => x)
    subst e
    have hkk : k = vs.length := by
      have := List.getElem?_eq_none_iff.mp hv
      omega
    subst hkk
    exact wpAny_execs_nil (.of (iz _ _ ik) (T.stp t hfs) (T.inv I' D D0) (T.env N' hao) rfl)
  | some y =>
    have hkl := (List.getElem?_eq_some_iff.mp hv).1
    refine wpAny_passesOwn H.pass (wpAny_mono (it_next P' (ie _ _ _ ik) J hv) (fun r s₃ ⟨val, e, T, ry, J₃⟩ => ?_) fun _ _ x => x)
    subst e
    have t₃ := T.stp t hfs
    refine wpAny_passesOwn H.pass (wpAny_assign_Name (store_any (T.inv I' D D0) (T.env N' hao) ry hx fun s₄ t₄ I₄ N₄ => ?_))
    have t₅ := t₃.tr t₄
    have J₄ := J₃.step t₄ hao
    refine wpAny_passesOwn H.pass (wpAny_mono (it k l σ' y ik hv A env ρ' s₄ E (P.step t₅ I₄) N₄ (H.step t₅)) (fun f s₅ q_ => q_.elim fun fl l' σ₅ ρ₅ kk t₆ I₆ N₆ rf => ?_) fun _ _ x => x)
    cases fl with
    | next => unfold FlR at rf; subst rf; exact ⟨_, by omega, k + 1, l', σ₅, ρ₅, rfl, hkl, kk, t₅.tr t₆, I₆, N₆, J₄.step t₆ hao⟩
    | cont => unfold FlR at rf; subst rf; exact ⟨_, by omega, k + 1, l', σ₅, ρ₅, rfl, hkl, kk, t₅.tr t₆, I₆, N₆, J₄.step t₆ hao⟩
    | brk => unfold FlR at rf; subst rf; exact .of kk (t₅.tr t₆) I₆ N₆ rfl
    | ret z => unfold FlR at rf; obtain ⟨q, rfl, rq⟩ := rf; exact .of kk (t₅.tr t₆) I₆ N₆ ⟨q, rfl, rq⟩

/-- while test: body -/
theorem x_while {test : Expr} {body : List Stmt} {pos : Pos} (I : Nat → Lc → St → Prop) (k₀ : Nat) (i0 : I k₀ loc σ)
    (turn : ∀ J : Nat → Fl → Lc → St → Prop, (∀ k f l σ', Loop (fun l' σ'' => ∃ m, m < k ∧ I m l' σ'') K f l σ' → J k f l σ') → ∀ k l σ', I k l σ' → OKb W n sc test l σ' (fun b σ₁ => (b = true → OKs W n sc body l σ₁ (J k) X) ∧
      (b = false → K .next l σ₁)) X) : OKx W n sc (.While test body [] pos) loc σ K X := by
  intro A env ρ s E P N H
  refine wpAny_While ?_
  refine codeAny_whileLoop (fun m s' => ∃ l σ' ρ', I m l σ' ∧ Stp (own env) ρ s ρ' s' ∧ Inv W ρ' σ' s'.heap ∧ EnvOk W sc ρ' s'.heap env l) ?_ k₀ ⟨loc, σ, ρ, i0, Stp.refl _ _, P.inv, N⟩
  rintro m s' ⟨l, σ', ρ', im, t, I', N'⟩
  refine wpAny_passesOwn H.pass (wpAny_mono (turn (fun k => Loop (fun l' σ'' => ∃ m, m < k ∧ I m l' σ'') K) (fun _ _ _ _ x => x) m l σ' im A env ρ' s' E (P.step t I') N' (H.step t)) (fun b s₁ q_ => ex5 q_ fun σ₁ ρ₁ kk t₁ I₁ => ?_) fun _ _ x => x)
  have t₂ := t.tr t₁.weak
  cases b with
  | false =>
    simp only [Bool.false_eq_true, if_false]
    exact wpAny_execs_nil (.of (kk.2 rfl) t₂ I₁ (N'.step t₁) rfl)
  | true =>
    simp only [if_true]
    refine wpAny_passesOwn H.pass (wpAny_mono (kk.1 rfl A env ρ₁ s₁ E (P.step t₂ I₁) (N'.step t₁) (H.step t₂)) (fun f s₅ q_ => q_.elim fun fl l' σ₅ ρ₅ kk t₆ I₆ N₆ rf => ?_) fun _ _ x => x)
    cases fl with
    | next => unfold FlR at rf; subst rf; obtain ⟨m', hm, im'⟩ := kk; exact ⟨m', hm, l', σ₅, ρ₅, im', t₂.tr t₆, I₆, N₆⟩
    | cont => unfold FlR at rf; subst rf; obtain ⟨m', hm, im'⟩ := kk; exact ⟨m', hm, l', σ₅, ρ₅, im', t₂.tr t₆, I₆, N₆⟩
    | brk => unfold FlR at rf; subst rf; exact .of kk (t₂.tr t₆) I₆ N₆ rfl
    | ret z => unfold FlR at rf; obtain ⟨q, rfl, rq⟩ := rf; exact .of kk (t₂.tr t₆) I₆ N₆ ⟨q, rfl, rq⟩
end

end Mine
end

section
namespace Mine
open PySem PySem.W PySem.Calls PyProof.Rows

noncomputable def fput (name : Str) (v : V) : List (Str × V) → List (Str × V)
  | [] => [(name, v)]
  | (y, w) :: r => if y == name then (y, v) :: r else (y, w) :: fput name v r
theorem fput_look (name : Str) (v : V) (x : Str) : ∀ fs : List (Str × V), (fput name v fs).lookup x = if x = name then some v else fs.lookup x
  | [] => by
    unfold fput
    by_cases h : x = name
    · subst h; simp
    · rw [List.lookup_cons, show (x == name) = false from by simp [h], if_neg h]
  | (y, w) :: r => by
    unfold fput
    by_cases hy : y = name
    · subst hy
      simp only [beq_self_eq_true, if_true]
      by_cases h : x = y
      · subst h; simp
      · rw [List.lookup_cons, show (x == y) = false from by simp [h], if_neg h, List.lookup_cons, show (x == y) = false from by simp [h]]
    · rw [if_neg (by simp [hy])]
      by_cases h : x = y
      · subst h; simp [hy]
      · rw [List.lookup_cons, show (x == y) = false from by simp [h], fput_look name v x r, List.lookup_cons, show (x == y) = false from by simp [h]]
theorem fput_len (name : Str) (v : V) : ∀ fs : List (Str × V), (fput name v fs).length = if (fs.lookup name).isSome then fs.length else fs.length + 1
  | [] => rfl
  | (y, w) :: r => by
    unfold fput
    by_cases hy : y = name
    · subst hy; simp
    · rw [if_neg (by simp [hy]), List.lookup_cons, show (name == y) = false from by simp [Ne.symm hy]]
      simp only [List.length_cons, fput_len name v r]
      split <;> rfl

theorem lookIn_of {o : Obj} {es : Array DictEntry} {n : Nat} (hd : o.data = .dict es n) (hk : StrKeys es) (name : Str) : lookIn name o = some (nsFind es name) := by
  unfold lookIn
  rw [hd]
  dsimp only
  have hr : es.toList.any (·.refKey) = false := by
    rw [List.any_eq_false]
    intro e he
    obtain ⟨n, t, h⟩ := hk e (by simpa using he)
    simp [DictEntry.refKey, h]
  have hf : nsFind es name = (es.find? fun e => e.key.isStr name).map (·.val) := rfl
  rw [hf, ← Array.find?_toList]
  cases es.toList.find? fun e => e.key.isStr name with
  | some e => rfl
  | none => simp [hr]

noncomputable def plainV : V → Bool
  | .con _ => false
  | _ => true
theorem handed_plain {ρ : Rho} {h : Heap} {v : V} {x : Value} (r : Rp ρ h v x) (hp : plainV v = true) : handedIn x = true := by
  cases v with
  | con c => cases hp
  | none => unfold Rp at r; subst r; rfl
  | bool b => unfold Rp at r; subst r; rfl
  | int b => unfold Rp at r; obtain ⟨t, rfl⟩ := r; rfl
  | str b => unfold Rp at r; obtain ⟨t, rfl⟩ := r; rfl
  | bytes b => unfold Rp at r; obtain ⟨t, rfl⟩ := r; rfl
  | tup b => unfold Rp at r; obtain ⟨a, o, i, n, rfl, _⟩ := r; rfl
  | lst b => unfold Rp at r; obtain ⟨a, o, i, n, rfl, _⟩ := r; rfl
  | rng a b c => unfold Rp at r; obtain ⟨a, t, u, w, rfl, _⟩ := r; rfl
  | obj i => unfold Rp at r; obtain ⟨l, _, rfl⟩ := r; rfl

section
variable {W : Wd} {n : Nat} {sc : Scope} {loc : Lc} {σ : St} {X : St → Prop} {K : Fl → Lc → St → Prop} {KV : V → St → Prop}

theorem inst_at {ρ : Rho} {h : Heap} {i : Nat} {C : Addr} {fs : List (Str × V)} {ov : Value} (I : Inv W ρ σ h) (ro : Rp ρ h (.obj i) ov) (hi : σ[i]? = some (.inst C fs)) :
    ∃ x d ox od es k m, ρ[i]? = some (.two x d) ∧ ov = .ref x ∧ InstAt h x ox C (some od) ∧ ox.dict = some d ∧ ox.data = .plain ∧ h.get? d = some od ∧ od.cls = .type "dict" ∧ od.data = .dict es k ∧ StrKeys es ∧ (∀ x, nsFind es x = m x) ∧ es.size ≤ fs.length ∧ FsR ρ h fs m := by
  unfold Rp at ro
  obtain ⟨l, hl, rfl⟩ := ro
  have R := I.objs i l _ hl hi
  cases l with
  | one a => exact R.elim
  | two x d =>
    obtain ⟨⟨ox, h1, h2, h3, h4⟩, od, es, k, m, h5, h6, h7, h8, h9, h10, h11⟩ := R
    refine ⟨x, d, ox, od, es, k, m, hl, rfl, ⟨h1, h2, ?_, ?_⟩, h3, h4, h5, h6, h7, h8, h9, h10, h11⟩
    · unfold notCls; rw [h4]
    · rw [h3]; exact h5

/-- a class whose instances keep plain fields under this name -/
noncomputable def SetOk (W : Wd) (C : Addr) (name : Str) : Prop := plainOver W.K C = true ∧ takerIn W.K C name = some none ∧ (clsIn W.K C).any (·.hasDict) = true ∧ findIn W.K (.ref C) "__setattr__" = some (some (.builtin "object.__setattr__"))
noncomputable def GetOk (W : Wd) (C : Addr) (name : Str) : Prop := plainGet W.K C name = true ∧ hasDictIn W.K C = true ∧ findIn W.K (.ref C) name = some none

theorem set_attr {A : Around} {E : Value → Shared → Prop} {ρ : Rho} {s : Shared} {i : Nat} {C : Addr} {fs : List (Str × V)} {name : Str} {v : V} {ov x : Value} {Q : Unit → Shared → Prop}
    (P : Pre W n A ρ σ s) (ro : Rp ρ s.heap (.obj i) ov) (rv : Rp ρ s.heap v x) (hi : σ[i]? = some (.inst C fs)) (hC : SetOk W C name) (hz : fs.length ≤ 900)
    (h : ∀ s', Stp [] ρ s ρ s' → Inv W ρ (σ.set i (.inst C (fput name v fs))) s'.heap → Q () s') : wpAny W.M A (setAttr ov name x) Q E s := by
  obtain ⟨hp, ht, hh, hs⟩ := hC
  obtain ⟨a, d, ox, od, es, k, m, hl, rfl, I, hdict, hplain, D, hcls, hdata, hk, hm, hsz, F⟩ := inst_at P.inv ro hi
  refine set_plain P.kin I hs (osa_open (s := { s with toks := s.toks + 1 }) P.kin I hp ht fun b => ?_)
  obtain ⟨cd, hc, hd'⟩ := any_some hh
  have I' := I
  obtain ⟨hx, hcl, hn, -⟩ := I
  obtain ⟨oc, odi, oda, osl⟩ := ox
  dsimp only at hcl hdict
  subst hcl hdict
  refine wpAny_bind (wpAny_pure (wpAny_bind (wpAny_bind (wpAny_loadPart hx (wpAny_bind (Looks.here (s := { s with toks := s.toks + 1 }) (looks_clsIn (h := s.heap) P.kin hc) ?_))))))
  rw [hd']
  refine wpAny_pure (a := some d) (wpAny_bind (wpAny_pure (wpAny_bind ?_)))
  refine ns_put D hdata hk fun h' es' ep' ho' hk' hf' hz' hsb => ?_
  refine wpAny_bind (wpAny_lookBehind ho' (pastItsLine_dict (by rw [hz', sizeLine_eq]; split <;> omega)) ?_)
  have hda : d ∈ (Loc.two a d).addrs := by simp [Loc.addrs]
  have t : Stp [] ρ s ρ { s with heap := h', toks := s.toks + 2 } := Stp.set (Dm_mem hl hda) hsb ⟨_, ho'⟩
  have kp : ∀ b o, s.heap.get? b = some o → b ∉ (Loc.two a d).addrs → h'.get? b = some o := fun b o e hb => (hsb.2 b fun q => hb (q ▸ hda)).trans e
  have had : a ≠ d := by
    have nd := P.inv.nodup
    have := (List.pairwise_flatMap.mp nd).1 (Loc.two a d) (List.mem_of_getElem? hl)
    simp [Loc.addrs] at this
    exact this
  refine wpAny_pure (h _ t (P.inv.set hl kp ⟨⟨_, (hsb.2 a had).trans hx, rfl, rfl, hplain⟩, _, es', ep', fun y => if y = name then some x else m y, ho', hcls, rfl, hk', fun y => by rw [hf', hm], ?_, fun y => ?_⟩))
  · have hmn : (nsFind es name).isSome = (fs.lookup name).isSome := by
      rw [hm]
      have := F name
      cases e : fs.lookup name with
      | some w =>
        rw [e] at this
        obtain ⟨r, e', _⟩ := this
        rw [e']; rfl
      | none =>
        rw [e] at this
        have this : m name = none := this
        rw [this]; rfl
    rw [hz', fput_len, hmn]
    split <;> omega
  · rw [fput_look]
    by_cases q : y = name
    · rw [if_pos q]
      exact ⟨x, if_pos q, t.rp rv⟩
    · rw [if_neg q]
      have := F y
      cases e : fs.lookup y with
      | some w =>
        rw [e] at this
        obtain ⟨r, e', rr⟩ := this
        exact ⟨r, (if_neg q).trans e', t.rp rr⟩
      | none =>
        rw [e] at this
        exact (if_neg q).trans this

theorem t_attr {i : Nat} {C : Addr} {fs : List (Str × V)} {name : Str} {v : V} (hi : σ[i]? = some (.inst C fs)) (hf : fs.lookup name = some v) (hv : plainV v = true) (hC : GetOk W C name) (h : KV v σ) : OKt W n (getT name) [.obj i] σ KV X := by
  intro A ρ s vs E P r H
  unfold Rps at r
  obtain ⟨ov, r', rfl, ro, rr⟩ := r
  unfold Rps at rr; subst rr
  obtain ⟨a, d, ox, od, es, k, m, hl, rfl, I, hdict, hplain, D, hcls, hdata, hk, hm, hsz, F⟩ := inst_at P.inv ro hi
  obtain ⟨hg, hh, ha⟩ := hC
  have := F name
  rw [hf] at this
  obtain ⟨x, e, rx⟩ := this
  refine get_value P.kin I (plainGet_of hg).1 (findObj_own hh ha rfl (by rw [lookIn_of hdata hk, hm, e])) (handed_plain rx hv) ⟨v, σ, ρ, h, Stp.tok, P.inv, rx⟩

/-- a method that the class keeps -/
theorem m_inst {i : Nat} {C f : Addr} {fs : List (Str × V)} {name : Str} (hi : σ[i]? = some (.inst C fs)) (hf : fs.lookup name = none) (hg : plainGet W.K C name = true) (hc : findIn W.K (.ref C) name = some (some (.ref f))) (ht : isFn W.K (.ref f) = true) :
    OKm W n (.obj i) name σ (.ref f) := by
  intro A ρ s v pl Q E P ro h
  obtain ⟨a, d, ox, od, es, k, m, hl, rfl, I, hdict, hplain, D, hcls, hdata, hk, hm, hsz, F⟩ := inst_at P.inv ro hi
  have := F name
  rw [hf] at this
  refine method_fn P.kin I (plainGet_of hg).1 (plainGet_of hg).2 hc (beq_iff_eq.mp ht) ?_ h
  show (lookIn name od).map _ = _
  rw [lookIn_of hdata hk, hm, this]; rfl

/-- o.name = value -/
theorem x_setA {o e : Expr} {name : Str} {p pos : Pos}
    (h : OKe W n sc e loc σ (fun v σ₁ => OKe W n sc o loc σ₁ (fun ov σ₂ => ∃ i C fs, ov = .obj i ∧ σ₂[i]? = some (.inst C fs) ∧ SetOk W C name ∧ fs.length ≤ 900 ∧ K .next loc (σ₂.set i (.inst C (fput name v fs)))) X) X)
    (hs : ∀ env, swapsWith e (some (.Attribute o name p)) pos.line env = pure false := by intro _; rfl) : OKx W n sc (.Assign [.Attribute o name p] e pos) loc σ K X := by
  intro A env ρ s E P N H
  refine plainObj_wpAny_Assign_Attribute (wpAny_mono (h A env ρ s E P N H) (fun x s₁ q_ => q_.elim fun v σ₁ ρ₁ k₁ t₁ I₁ r₁ => ?_) fun _ _ x => x) (hs env)
  refine wpAny_mono (k₁ A env ρ₁ s₁ E (P.step t₁ I₁) (N.step t₁) (H.step0 t₁)) (fun ov s₂ q_ => q_.elim fun w σ₂ ρ₂ k₂ t₂ I₂ r₂ => ?_) fun _ _ x => x
  obtain ⟨i, C, fs, rfl, hi, hC, hz, kk⟩ := k₂
  have t := t₁.tr t₂
  exact set_attr (P.step t I₂) r₂ (t₂.rp r₁) hi hC hz fun s₃ t₃ I₃ => .of kk (t.tr t₃).weak I₃ (N.step (t.tr t₃)) rfl
end

end Mine
end

section
namespace Mine
open PySem PySem.W PySem.Calls PyProof.Rows

section
variable {W : Wd} {n : Nat} {sc : Scope} {loc : Lc} {σ : St} {X : St → Prop} {K : Fl → Lc → St → Prop} {KV : V → St → Prop}

theorem new_step {ρ : Rho} {s : Shared} {h' : Heap} {t' : Nat} (I : Inv W ρ σ s.heap) (hs : Heap.ExtBut s.heap.objs.size s.heap h') : Stp [] ρ s ρ { s with heap := h', toks := t' } ∧ Inv W ρ σ h' := by
  have k : ∀ b o, s.heap.get? b = some o → h'.get? b = some o := fun b o e => hs b o (Nat.ne_of_lt (Heap.lt_size e)) e
  exact ⟨Stp.all (s := s) k, I.all k⟩

theorem store_rev {A : Around} {E : Value → Shared → Prop} {ρ : Rho} {env : Env} {Q : Unit → Shared → Prop} :
    ∀ (names : List (Str × Pos)) (args : List V) (vs : List Value) (loc : Lc) (s : Shared), names.length = args.length → Rps ρ s.heap args vs → Inv W ρ σ s.heap → EnvOk W sc ρ s.heap env loc →
      (∀ y ∈ names, sc.names.lookup y.1 = some .local ∨ sc.names.lookup y.1 = some .cell) →
      (∀ s', Stp (own env) ρ s ρ s' → Inv W ρ σ s'.heap → EnvOk W sc ρ s'.heap env (((names.map (·.1)).zip args).reverse ++ loc) → Q () s') →
      wpAny W.M A (assignInOrder (names.map fun y => assign (.Name y.1 y.2) env) vs) Q E s := by
  intro names
  induction names with
  | nil =>
    intro args vs loc s hl _ I N _ h
    exact assignInOrder_nil (h s (Stp.refl _ _) I (by cases args with | nil => exact N | cons a as => exact absurd hl (by simp)))
  | cons y ys ih =>
    intro args vs loc s hl r I N hy h
    cases args with
    | nil => exact absurd hl (by simp)
    | cons a as =>
      unfold Rps at r
      obtain ⟨v, vr, rfl, ra, rr⟩ := r
      refine assignInOrder_cons (wpAny_assign_Name (store_any I N ra (hy y List.mem_cons_self) fun s₁ t₁ I₁ N₁ => ?_))
      refine ih as vr _ s₁ (by simpa using hl) (t₁.rps rr) I₁ N₁ (fun z hz => hy z (List.mem_cons_of_mem _ hz)) fun s₂ t₂ I₂ N₂ => h s₂ (t₁.tr t₂) I₂ ?_
      simpa using N₂

/-- a, b = tuple -/
theorem x_unp {names : List (Str × Pos)} {elts : List Expr} {k : Nat} {tpos pos : Pos} {e : Expr} (he : elts = names.map fun y => .Name y.1 y.2)
    (h : OKe W n sc e loc σ (fun v σ₁ => ∃ vs, v = .tup vs ∧ vs.length = names.length ∧ K .next (((names.map (·.1)).zip vs).reverse ++ loc) σ₁) X)
    (hy : ∀ y ∈ names, sc.names.lookup y.1 = some .local ∨ sc.names.lookup y.1 = some .cell)
    (hs : ∀ env, swapsWithSole [.Tuple elts k tpos] e pos.line env = pure false := by intro _; rfl)
    (hw : ∀ env, swappedStores [.Tuple elts k tpos] e env = pure none := by intro _; rfl) : OKx W n sc (.Assign [.Tuple elts k tpos] e pos) loc σ K X := by
  intro A env ρ s E P N H
  refine Assign_Tuple (wpAny_mono (h A env ρ s E P N H) (fun x s₁ q_ => q_.elim fun v σ₁ ρ₁ k₁ t₁ I₁ r₁ => ?_) fun _ _ x => x) (hs env) (hw env)
  obtain ⟨vs, rfl, hlen, kk⟩ := k₁
  unfold Rp at r₁
  obtain ⟨a, o, items, m, rfl, ho, hc, hd, ha, hr⟩ := r₁
  have hea : ∀ l : List (Str × Pos), assignEach (l.map fun y => Expr.Name y.1 y.2) env = l.map fun y => (false, assign (.Name y.1 y.2) env) := by
    intro l
    induction l with
    | nil => rfl
    | cons y r ih => show (false, _) :: assignEach _ env = _; rw [ih]; rfl
  have hsz := hr.length
  subst he
  refine assign_Tuple_tuple P.hand ⟨o, ho, hc, m, hd⟩ (by rw [hea]; simp at hsz ⊢; omega) (by rw [hea]; simp) fun h' hx => ?_
  rw [hea]
  obtain ⟨t₂, I₂⟩ := new_step (t' := s₁.toks) I₁ hx
  have e2 : (names.map fun y => (false, assign (.Name y.1 y.2) env)).map (·.2) = names.map fun y => assign (.Name y.1 y.2) env := by simp
  rw [e2]
  have t := t₁.tr t₂
  exact store_rev names vs items.toList loc _ (by omega) (t₂.rps hr) I₂ (N.step t) hy fun s₃ t₃ I₃ N₃ => .of kk (t.weak.tr t₃) I₃ N₃ rfl

/-- o[i] op= e -/
noncomputable def setIT : List Value → Sem Unit
  | [o, i, v] => setItem o i v
  | _ => unsupported "setIT"
noncomputable def OKu (W : Wd) (n : Nat) (t : List Value → Sem Unit) (args : List V) (σ : St) (K : St → Prop) (X : St → Prop) : Prop :=
  ∀ A ρ s vs E, Pre W n A ρ σ s → Rps ρ s.heap args vs → EX W ρ s X E → wpAny W.M A (t vs) (fun _ s' => ∃ σ' ρ', K σ' ∧ Stp [] ρ s ρ' s' ∧ Inv W ρ' σ' s'.heap) E s
noncomputable def itemT : List Value → Sem Value
  | [o, i] => getItem o i
  | _ => unsupported "itemT"
theorem x_augI {o i e : Expr} {op : Operator} {tpos pos : Pos}
    (h : OKe W n sc o loc σ (fun ov σ₁ => OKe W n sc i loc σ₁ (fun iv σ₂ => OKt W n itemT [ov, iv] σ₂ (fun old σ₃ => OKe W n sc e loc σ₃ (fun v σ₄ => OKt W n (inpT op) [old, v] σ₄ (fun new σ₅ =>
      OKu W n setIT [ov, iv, new] σ₅ (K .next loc) X) X) X) X) X) X)
    (hi : ∀ ov iv new, augStore i ov iv new = (do holding [new, ov, iv] (setItem ov iv new); release [new, ov, iv] []; pure .next) := by intros; rfl) :
    OKx W n sc (.AugAssign (.Subscript o i tpos) op e pos) loc σ K X := by
  intro A env ρ s E P N H
  refine wpAny_AugAssign_SubscriptAny ?_ hi
  refine wpAny_mono (h A env ρ s E P N H) (fun x₁ s₁ q_ => q_.elim fun v₁ σ₁ ρ₁ k₁ t₁ I₁ r₁ => ?_) fun _ _ x => x
  refine wpAny_mono (k₁ A env ρ₁ s₁ E (P.step t₁ I₁) (N.step t₁) (H.step0 t₁)) (fun x₂ s₂ q_ => q_.elim fun v₂ σ₂ ρ₂ k₂ t₂' I₂ r₂ => ?_) fun _ _ x => x
  have t₂ := t₁.tr t₂'
  refine wpAny_mono (k₂ A ρ₂ s₂ [x₁, x₂] E (P.step t₂ I₂) (Rps.cons (t₂'.rp r₁) (Rps.one r₂)) (H.toEX.step t₂)) (fun x₃ s₃ q_ => q_.elim fun v₃ σ₃ ρ₃ k₃ t₃' I₃ r₃ => ?_) fun _ _ x => x
  have t₃ := t₂.tr t₃'
  refine wpAny_mono (k₃ A env ρ₃ s₃ E (P.step t₃ I₃) (N.step t₃) (H.step0 t₃)) (fun x₄ s₄ q_ => q_.elim fun v₄ σ₄ ρ₄ k₄ t₄' I₄ r₄ => ?_) fun _ _ x => x
  have t₄ := t₃.tr t₄'
  refine wpAny_mono (k₄ A ρ₄ s₄ [x₃, x₄] E (P.step t₄ I₄) (Rps.cons (t₄'.rp r₃) (Rps.one r₄)) (H.toEX.step t₄)) (fun x₅ s₅ q_ => q_.elim fun v₅ σ₅ ρ₅ k₅ t₅' I₅ r₅ => ?_) fun _ _ x => x
  have t₅ := t₄.tr t₅'
  have u := (t₂'.tr t₃').tr (t₄'.tr t₅')
  have u' := t₃'.tr (t₄'.tr t₅')
  refine wpAny_mono (k₅ A ρ₅ s₅ [x₁, x₂, x₅] E (P.step t₅ I₅) (Rps.cons (u.rp r₁) (Rps.cons (u'.rp r₂) (Rps.one r₅))) (H.toEX.step t₅)) (fun _ s₆ q_ => ex5 q_ fun σ₆ ρ₆ k₆ t₆ I₆ => ?_) fun _ _ x => x
  exact .of k₆ (t₅.tr t₆).weak I₆ (N.step (t₅.tr t₆)) rfl
end

end Mine
end

section
namespace Mine
open PySem PySem.W PySem.Calls PyProof.Rows

theorem cellsFrom_app : ∀ (names : List (Str × NameKind)) (k : Nat) (acc : List (Str × Addr)), cellsFrom k names acc = cellsFrom k names [] ++ acc
  | [], _, _ => rfl
  | (x, kd) :: r, k, acc => by
    unfold cellsFrom
    split
    · rw [cellsFrom_app r (k + 1) ((x, k) :: acc), cellsFrom_app r (k + 1) [(x, k)]]; simp
    · exact cellsFrom_app r k acc

noncomputable def closL : List (Str × NameKind) → List (Str × Addr) → List (Str × Addr) → List (Str × Addr)
  | [], _, acc => acc
  | (x, kd) :: r, cells, acc => if kd == .free then (match cells.lookup x with | some c => closL r cells ((x, c) :: acc) | none => closL r cells acc) else closL r cells acc

theorem closureFor_eq {scope : Scope} {env : Env} (hf : ∀ x ∈ scope.names, x.2 = .free → (env.cells.lookup x.1).isSome = true) : closureFor scope env = pure (closL scope.names env.cells []) := by
  have go : ∀ (l : List (Str × NameKind)) (acc : List (Str × Addr)), (∀ x ∈ l, x.2 = .free → (env.cells.lookup x.1).isSome = true) → ∀ f : Str × NameKind → List (Str × Addr) → Sem (ForInStep (List (Str × Addr))),
      (∀ name kind cs, f (name, kind) cs = if (kind == NameKind.free) = true then (do let c ← cellOf env name; pure (ForInStep.yield ((name, c) :: cs))) else pure (ForInStep.yield cs)) → forIn l acc f = pure (closL l env.cells acc) := by
    intro l
    induction l with
    | nil => intro acc _ f _; rfl
    | cons x r ih =>
      intro acc h f hf
      obtain ⟨name, kd⟩ := x
      have hr : ∀ x ∈ r, x.2 = .free → (env.cells.lookup x.1).isSome = true := fun x hx => h x (List.mem_cons_of_mem _ hx)
      rw [List.forIn_cons, hf]
      unfold closL
      by_cases hk : (kd == NameKind.free) = true
      · obtain ⟨c, hc⟩ := Option.isSome_iff_exists.mp (h (name, kd) List.mem_cons_self (by simpa using hk))
        have hc' : env.cells.lookup name = some c := hc
        rw [if_pos hk, if_pos hk, hc']
        have hco : cellOf env name = pure c := by unfold cellOf; rw [hc']
        rw [hco]
        exact ih _ hr f hf
      · rw [if_neg hk, if_neg hk]
        exact ih _ hr f hf
  unfold closureFor
  dsimp only
  rw [go scope.names [] hf _ fun name kind cs => by cases hkc : kind == NameKind.free <;> simp]
  rfl

theorem closL_look : ∀ {names : List (Str × NameKind)} {cells acc : List (Str × Addr)} {x : Str} {c : Addr}, (∀ y d, (y, d) ∈ acc → cells.lookup y = some d) → (x, c) ∈ closL names cells acc → cells.lookup x = some c
  | [], _, _, _, _, ha, h => ha _ _ h
  | (y, kd) :: r, cells, acc, x, c, ha, h => by
    unfold closL at h
    split at h
    · split at h
      · rename_i d hd
        refine closL_look (names := r) (fun z e hz => ?_) h
        rcases List.mem_cons.mp hz with q | q
        · cases q; exact hd
        · exact ha z e q
      · exact closL_look ha h
    · exact closL_look ha h
theorem closL_some : ∀ {names : List (Str × NameKind)} {cells acc : List (Str × Addr)} {x : Str}, (cells.lookup x).isSome = true → (acc.lookup x).isSome = true ∨ (x, NameKind.free) ∈ names → ((closL names cells acc).lookup x).isSome = true
  | [], _, _, _, _, h => by rcases h with h | h; exact h; cases h
  | (y, kd) :: r, cells, acc, x, hc, h => by
    unfold closL
    by_cases hk : (kd == NameKind.free) = true
    · rw [if_pos hk]
      by_cases hy : x = y
      · subst hy
        obtain ⟨c, hc'⟩ := Option.isSome_iff_exists.mp hc
        rw [hc']
        exact closL_some hc (.inl (by simp))
      · have h' : (acc.lookup x).isSome = true ∨ (x, NameKind.free) ∈ r := h.imp id fun h => by
          rcases List.mem_cons.mp h with e | e
          · cases e; exact absurd rfl hy
          · exact e
        split
        · refine closL_some hc (h'.imp (fun h => ?_) id)
          rw [List.lookup_cons, show (x == y) = false from by simp [hy]]; exact h
        · exact closL_some hc h'
    · rw [if_neg hk]
      refine closL_some hc (h.imp id fun h => ?_)
      rcases List.mem_cons.mp h with e | e
      · cases e; exact absurd rfl hk
      · exact e

theorem closL_free : ∀ {names : List (Str × NameKind)} {cells acc : List (Str × Addr)} {x : Str} {c : Addr}, (x, c) ∈ closL names cells acc → (x, c) ∈ acc ∨ (x, NameKind.free) ∈ names
  | [], _, _, _, _, h => .inl h
  | (y, kd) :: r, cells, acc, x, c, h => by
    unfold closL at h
    split at h
    · rename_i hk
      have hk : kd = .free := by simpa using hk
      subst hk
      split at h
      · rcases closL_free h with q | q
        · rcases List.mem_cons.mp q with q | q
          · cases q; exact .inr List.mem_cons_self
          · exact .inl q
        · exact .inr (List.mem_cons_of_mem _ q)
      · exact (closL_free h).imp id fun q => List.mem_cons_of_mem _ q
    · exact (closL_free h).imp id fun q => List.mem_cons_of_mem _ q

/-- the names of a comprehension, seen from a function with the names of sc -/
noncomputable def rl (scope sc : Scope) : Scope :=
  { scope with names := scope.names.map fun (n, k) => if (k == .free && sc.kind == .function && sc.names.lookup n == some .cell) then (n, .cell) else (n, k) }
theorem lookup_map_snd (f : Str → NameKind → NameKind) (x : Str) : ∀ l : List (Str × NameKind), (l.map fun p => (p.1, f p.1 p.2)).lookup x = (l.lookup x).map (f x)
  | [] => rfl
  | (y, k) :: r => by
    rw [List.map_cons, List.lookup_cons, List.lookup_cons]
    by_cases hx : x = y
    · subst hx; simp
    · have hb : (x == y) = false := by simp [hx]
      simp only [hb]
      exact lookup_map_snd f x r
theorem rl_look {scope sc : Scope} (x : Str) : (rl scope sc).names.lookup x = (scope.names.lookup x).map fun k => if (k == .free && sc.kind == .function && sc.names.lookup x == some .cell) then .cell else k := by
  rw [← lookup_map_snd (fun x k => if (k == .free && sc.kind == .function && sc.names.lookup x == some .cell) then .cell else k)]
  show List.lookup x (scope.names.map _) = _
  congr 1
  refine congrArg (fun f => scope.names.map f) (funext fun p => ?_)
  obtain ⟨y, k⟩ := p
  dsimp only
  split <;> rfl

/-- what the comprehension sees of the names around it -/
noncomputable def Inn (scope sc : Scope) (loc : Lc) : Lc → Prop
  | [] => True
  | (y, v) :: r => loc.lookup y = some v ∧ scope.names.lookup y = some .free ∧ sc.names.lookup y ≠ some .local ∧ Inn scope sc loc r
theorem Inn.look {scope sc : Scope} {loc : Lc} : ∀ {l : Lc}, Inn scope sc loc l → ∀ y v, l.lookup y = some v → loc.lookup y = some v ∧ scope.names.lookup y = some .free ∧ sc.names.lookup y ≠ some .local
  | [], _, _, _, e => by cases e
  | (z, w) :: r, h, y, v, e => by
    rcases lk_cons e with ⟨rfl, rfl⟩ | ⟨_, e⟩
    · exact ⟨h.1, h.2.1, h.2.2.1⟩
    · exact Inn.look h.2.2.2 y v e

section
variable {W : Wd} {n : Nat} {sc : Scope} {loc : Lc} {σ : St} {X : St → Prop} {K : Fl → Lc → St → Prop} {KV : V → St → Prop}

/-- the frame of a comprehension -/
theorem clos_ok {ρ : Rho} {h : Heap} {env : Env} {scope : Scope} {inner : Lc} (N : EnvOk W sc ρ h env loc)
    (hin : Inn scope sc loc inner) (hfr : (scope.names.all fun p => p.2 != .free || (inner.lookup p.1).isSome) = true) : closureFor scope env = pure (closL scope.names env.cells []) :=
  closureFor_eq fun x hx hf => by
    obtain ⟨y, k⟩ := x
    have hf : k = .free := hf
    subst hf
    have := List.all_eq_true.mp hfr _ hx
    simp only [bne_self_eq_false, Bool.false_or] at this
    obtain ⟨v, hv⟩ := Option.isSome_iff_exists.mp this
    obtain ⟨h1, h2, h3⟩ := hin.look y v hv
    obtain ⟨_, c, r, a, b, d⟩ := N.cvals y v h1 h3
    show (env.cells.lookup y).isSome = true
    rw [a]; rfl

/-- the frame of a comprehension, made -/
theorem comp_env {A : Around} {E : Value → Shared → Prop} {ρ : Rho} {s : Shared} {env : Env} {scope : Scope} {inner : Lc} {Q : Env → Shared → Prop} (I : Inv W ρ σ s.heap) (N : EnvOk W sc ρ s.heap env loc)
    (hin : Inn scope sc loc inner) (hfr : (scope.names.all fun p => p.2 != .free || (inner.lookup p.1).isSome) = true) (hk : scope.kind = .function)
    (hkk : (scope.names.all fun p => scope.names.lookup p.1 == some p.2) = true)
    (h : ∀ cenv s', closureFor scope env = pure (closL scope.names env.cells []) → s.heap.get? cenv.locals = none → cenv.locals ∉ own env → Stp [] ρ s ρ s' → Inv W ρ σ s'.heap → (∃ o, s'.heap.get? cenv.locals = some o ∧ ¬ isVal o) → relabel scope env = rl scope sc →
      (∀ d ∈ own cenv, s.heap.get? d = none ∨ d ∈ own env) → (∀ x c, scope.names.lookup x = some .cell → cenv.cells.lookup x = some c → s.heap.get? c = none) →
      EnvOk W (rl scope sc) ρ s'.heap { cenv with scope := rl scope sc } inner → Q cenv s') :
    wpAny W.M A (newFunctionEnv scope env.globals (closL scope.names env.cells []) [] env.qual none .none (some env)) Q E s := by
  have cellAt : ∀ y, (y, NameKind.free) ∈ scope.names → ∃ v c r, inner.lookup y = some v ∧ env.cells.lookup y = some c ∧ s.heap.IsCell c (some r) ∧ Rp ρ s.heap v r := fun y hy => by
    have := List.all_eq_true.mp hfr _ hy
    simp only [bne_self_eq_false, Bool.false_or] at this
    obtain ⟨v, hv⟩ := Option.isSome_iff_exists.mp this
    obtain ⟨h1, h2, h3⟩ := hin.look y v hv
    obtain ⟨_, c, r, a, b, d⟩ := N.cvals y v h1 h3
    exact ⟨v, c, r, hv, a, b, d⟩
  have hclos : closureFor scope env = pure (closL scope.names env.cells []) := closureFor_eq fun x hx hf => by
    obtain ⟨y, k⟩ := x
    have hf : k = .free := hf
    subst hf
    obtain ⟨_, c, _, _, e, _⟩ := cellAt y hx
    show (env.cells.lookup y).isSome = true
    rw [e]; rfl
  have hrl : relabel scope env = rl scope sc := by
    unfold relabel rl
    have e1 : env.scope.kind = sc.kind := by rw [N.scope]
    simp only [e1, N.kindOf]
  simp only [newFunctionEnv, Option.isSome_some, if_true]
  refine wpAny_bind (wpAny_alloc ?_)
  refine wpAny_bind (wpAny_layCells _ (fun name kind cells => by cases hkc : kind == NameKind.cell <;> simp) _ _ _ _ ?_)
  have ok := cellsFrom_ok scope.names (s.heap.push { cls := .type "dict", data := .dict #[] }) (s.heap.objs.size + 1) [] ⟨fun _ _ hm => (nomatch hm), List.Pairwise.nil⟩ (by rw [Heap.size_push]; exact Nat.le_refl _)
  rw [Heap.size_push] at ok
  rw [show ({ s with heap := s.heap.push { cls := .type "dict", data := .dict #[] } } : Shared).heap.objs.size = s.heap.objs.size + 1 from Heap.size_push ..]
  have k₀ : ∀ b o, s.heap.get? b = some o → (pushCells (s.heap.push { cls := .type "dict", data := .dict #[] }) scope.names).get? b = some o := fun b o e => pushCells_keeps _ _ b o (Heap.get?_push_of_some _ e)
  have t₀ : Stp [] ρ s ρ { s with heap := pushCells (s.heap.push { cls := .type "dict", data := .dict #[] }) scope.names } := Stp.all (s := s) k₀
  have I₀ := I.all k₀
  have hn : ∀ d, s.heap.objs.size ≤ d → s.heap.get? d = none := fun d hd => Heap.get?_none_of_le hd
  have hw : ∀ d, s.heap.objs.size ≤ d → W.h₀.get? d = none := fun d hd => by
    cases q : W.h₀.get? d with
    | none => rfl
    | some o => have := I.keep d o q; rw [hn d hd] at this; cases this
  have hdm : ∀ d, s.heap.objs.size ≤ d → d ∉ Dm ρ := fun d hd => I.out (hn d hd)
  have hL : (pushCells (s.heap.push { cls := .type "dict", data := .dict #[] }) scope.names).get? s.heap.objs.size = some { cls := .type "dict", data := .dict #[] } := pushCells_keeps _ _ _ _ (Heap.get?_push_size _ rfl)
  refine wpAny_bind ?_
  rw [List.forIn_nil]
  have look : ∀ x c, (cellsFrom (s.heap.objs.size + 1) scope.names (closL scope.names env.cells [])).lookup x = some c → ((x, c) ∈ cellsFrom (s.heap.objs.size + 1) scope.names [] ∨ env.cells.lookup x = some c) := fun x c e => by
    rw [cellsFrom_app] at e
    rcases List.mem_append.mp (mem_of_lookup e) with q | q
    · exact .inl q
    · exact .inr (closL_look (by simp) q)
  have oldc : ∀ x c, env.cells.lookup x = some c → c < s.heap.objs.size := fun x c e => by
    obtain ⟨_, _, _, v, o, ho, _⟩ := N.cells x c e
    exact Heap.lt_size ho
  have kinds : ∀ x k, (x, k) ∈ scope.names → scope.names.lookup x = some k := fun x k hx => by
    have := List.all_eq_true.mp hkk _ hx
    simpa using this
  refine wpAny_pure (wpAny_pure (h _ _ hclos (hn _ (Nat.le_refl _)) (own_old N (hn _ (Nat.le_refl _))) t₀ I₀ ⟨_, hL, ?_⟩ hrl (fun d hd => ?_) (fun x c hx hc => ?_) ?_))
  · rintro (⟨xs, k, e⟩ | ⟨vs, e, _⟩) <;> cases e
  · rcases List.mem_cons.mp hd with rfl | hm
    · exact .inl (hn _ (Nat.le_refl _))
    · obtain ⟨⟨a, c⟩, hm', rfl⟩ := List.mem_map.mp hm
      have hm2 : (a, c) ∈ cellsFrom (s.heap.objs.size + 1) scope.names (closL scope.names env.cells []) := hm'
      rw [cellsFrom_app] at hm2
      rcases List.mem_append.mp hm2 with q | q
      · exact .inl (hn _ (Nat.le_of_succ_le (ok.empty a c q).2))
      · exact .inr (own_cell (closL_look (by simp) q))
  · have hc' : (cellsFrom (s.heap.objs.size + 1) scope.names (closL scope.names env.cells [])).lookup x = some c := hc
    rw [cellsFrom_app] at hc'
    rcases List.mem_append.mp (mem_of_lookup hc') with q | q
    · exact hn _ (Nat.le_of_succ_le (ok.empty x c q).2)
    · exfalso
      rcases closL_free q with q | q
      · cases q
      · have := kinds _ _ q
        rw [hx] at this; cases this
  refine ⟨rfl, hk, N.glob, N.bi, ⟨hdm _ (Nat.le_refl _), hw _ (Nat.le_refl _)⟩, ⟨fun _ => none, (Heap.Ns.new s.heap (.type "dict")).keeps (pushCells_keeps _ _), fun x v e l => ?_⟩, fun x c e => ?_, fun x y c e e' => ?_, fun y e => ?_, fun x v e l => ?_, fun d hd => ?_⟩
  · exfalso
    obtain ⟨_, h2, h3⟩ := hin.look x v e
    rw [rl_look, h2] at l
    simp only [Option.map_some] at l
    split at l <;> cases l
  · rcases look x c e with q | q
    · have hm := ok.empty x c q
      exact ⟨hdm c (Nat.le_of_succ_le hm.2), Nat.ne_of_gt hm.2, hw c (Nat.le_of_succ_le hm.2), _, hm.1⟩
    · obtain ⟨a, b, b', v, o, ho, hd⟩ := N.cells x c q
      exact ⟨a, Nat.ne_of_lt (oldc x c q), b', v, o, k₀ c o ho, hd⟩
  · rcases look x c e with q | q <;> rcases look y c e' with q' | q'
    · exact name_of_addr ok.apart q q'
    · have h1 := (ok.empty x c q).2; have h2 := oldc y c q'; exact absurd (Nat.lt_of_succ_le h1) (Nat.not_lt_of_gt h2)
    · have h1 := (ok.empty y c q').2; have h2 := oldc x c q; exact absurd (Nat.lt_of_succ_le h1) (Nat.not_lt_of_gt h2)
    · exact N.inj x y c q q'
  · rw [rl_look] at e
    cases hy : scope.names.lookup y with
    | none => rw [hy] at e; cases e
    | some k =>
      rw [hy] at e
      simp only [Option.map_some, Option.some.injEq] at e
      show ((cellsFrom (s.heap.objs.size + 1) scope.names (closL scope.names env.cells [])).lookup y).isSome = true
      split at e
      · rename_i hc
        simp only [Bool.and_eq_true, beq_iff_eq] at hc
        have hm : (y, NameKind.free) ∈ scope.names := by rw [← hc.1.1]; exact mem_of_look hy
        obtain ⟨v, c, r, _, ec, _⟩ := cellAt y hm
        exact cellsFrom_some _ _ _ y (.inl (closL_some (by rw [ec]; rfl) (.inr hm)))
      · exact cellsFrom_some _ _ _ y (.inr (e ▸ mem_of_look hy))
  · obtain ⟨h1, h2, h3⟩ := hin.look x v e
    obtain ⟨kk, c, r, a, b, d⟩ := N.cvals x v h1 h3
    have hfm := mem_of_look h2
    refine ⟨?_, c, r, ?_, ?_, t₀.rp d⟩
    · rw [rl_look, h2]
      simp only [Option.map_some]
      split
      · exact .inl rfl
      · exact .inr rfl
    · have hs : ((cellsFrom (s.heap.objs.size + 1) scope.names (closL scope.names env.cells [])).lookup x).isSome = true := cellsFrom_some _ _ _ x (.inl (closL_some (by rw [a]; rfl) (.inr hfm)))
      obtain ⟨c', hc'⟩ := Option.isSome_iff_exists.mp hs
      have hc2 : c' = c := by
        rcases look x c' hc' with q | q
        · exfalso
          -- a new cell stands for a name of kind cell
          have : ∀ (l : List (Str × NameKind)) (k : Nat) (acc : List (Str × Addr)), (x, c') ∈ cellsFrom k l acc → (x, c') ∈ acc ∨ (x, NameKind.cell) ∈ l := by
            intro l
            induction l with
            | nil => intro k acc hm; exact .inl hm
            | cons p r ih =>
              intro k acc hm
              obtain ⟨z, kd⟩ := p
              unfold cellsFrom at hm
              split at hm
              · rename_i hkd
                rcases ih _ _ hm with q | q
                · rcases List.mem_cons.mp q with q | q
                  · cases q
                    have : kd = .cell := by simpa using hkd
                    subst this
                    exact .inr List.mem_cons_self
                  · exact .inl q
                · exact .inr (List.mem_cons_of_mem _ q)
              · rcases ih _ _ hm with q | q
                · exact .inl q
                · exact .inr (List.mem_cons_of_mem _ q)
          rcases this _ _ _ q with q | q
          · cases q
          · have := kinds _ _ q
            rw [h2] at this; cases this
        · rw [a] at q; cases q; rfl
      rw [hc2] at hc'
      exact hc'
    · obtain ⟨o, ho, hd⟩ := b
      exact ⟨o, k₀ c o ho, hd⟩
  · rcases List.mem_cons.mp hd with rfl | hm
    · exact ⟨_, hL⟩
    · obtain ⟨⟨a, c⟩, hm', rfl⟩ := List.mem_map.mp hm
      have hm2 : (a, c) ∈ cellsFrom (s.heap.objs.size + 1) scope.names (closL scope.names env.cells []) := hm'
      rw [cellsFrom_app] at hm2
      rcases List.mem_append.mp hm2 with q | q
      · obtain ⟨o, ho, _⟩ := (ok.empty a c q).1
        exact ⟨o, ho⟩
      · have e := closL_look (by simp) q
        obtain ⟨_, _, _, v, o, ho, hd⟩ := N.cells a c e
        exact ⟨o, k₀ c o ho⟩
end

end Mine
end

section
namespace Mine
open PySem PySem.W PySem.Calls PyProof.Rows

section
variable {W : Wd} {n : Nat} {sc : Scope} {loc : Lc} {σ : St} {X : St → Prop} {K : Fl → Lc → St → Prop} {KV : V → St → Prop}

noncomputable def OKif (W : Wd) (n : Nat) (sc : Scope) (ifs : List Expr) (loc : Lc) (σ : St) (K : Bool → St → Prop) : Prop := match ifs with
  | [] => K true σ
  | [c] => OKb W n sc c loc σ K (fun _ => False)
  | _ => False
noncomputable def CompOk (W : Wd) (n : Nat) (sc : Scope) (x : Str) (inner : Lc) (elt : Expr) (ifs : List Expr) (σ₁ : St) (v : V) (K : St → Prop) : Prop :=
  ∃ vs, ∃ I : Nat → St → Prop, Elems σ₁ v vs ∧ (∀ k σ', I k σ' → Elems σ' v vs) ∧ I 0 (σ₁ ++ [.list []]) ∧
    (∀ k σ' y, I k σ' → vs[k]? = some y → OKif W n sc ifs ((x, y) :: inner) σ' (fun b σ₂ =>
      (b = true → OKe W n sc elt ((x, y) :: inner) σ₂ (fun r σ₃ => ∃ ys, σ₃[σ₁.length]? = some (.list ys) ∧ ys.length ≤ 1000000 ∧ I (k + 1) (σ₃.set σ₁.length (.list (ys ++ [r])))) (fun _ => False)) ∧
      (b = false → I (k + 1) σ₂))) ∧
    (∀ σ', I vs.length σ' → K σ')

theorem noE {α : Type} {M : Model} {A : Around} {s : Shared} {t : Sem α} {Q : α → Shared → Prop} {E : Value → Shared → Prop} (h : wpAny M A t Q (fun _ _ => False) s) : wpAny M A t Q E s :=
  wpAny_mono h (fun _ _ x => x) fun _ _ x => x.elim
theorem EOk.none {A : Around} {env : Env} {ρ : Rho} {s : Shared} : EOk W A env ρ s (fun _ => False) (fun _ _ => False) := ⟨PassesOwn.never, fun _ _ _ _ h => h.elim⟩

theorem OKif.run {A : Around} {env : Env} {ρ : Rho} {s : Shared} {ifs : List Expr} {Kb : Bool → St → Prop} (h : OKif W n sc ifs loc σ Kb) (P : Pre W n A ρ σ s) (N : EnvOk W sc ρ s.heap env loc) :
    wpAny W.M A (forIn ifs true fun c r => if r = true then do let ok ← isTrue c env (eval c env); pure (ForInStep.yield ok) else pure (ForInStep.yield r)) (fun b s' => ∃ σ' ρ', Kb b σ' ∧ Stp [] ρ s ρ' s' ∧ Inv W ρ' σ' s'.heap) (fun _ _ => False) s := by
  match ifs, h with
  | [], h => exact wpAny_tests_nil ⟨σ, ρ, h, Stp.refl _ _, P.inv⟩
  | [c], h => exact wpAny_tests_one (h A env ρ s _ P N EOk.none)
  | _ :: _ :: _, h => exact h.elim

/-- storing into a name of a comprehension's frame -/
theorem store_new {A : Around} {E : Value → Shared → Prop} {ρ : Rho} {s : Shared} {env : Env} {y : Str} {v : V} {x : Value} {Q : Unit → Shared → Prop}
    (I : Inv W ρ σ s.heap) (N : EnvOk W sc ρ s.heap env loc) (r : Rp ρ s.heap v x) (hy : sc.names.lookup y = some .local ∨ sc.names.lookup y = some .cell)
    (h : ∀ s' d, ((d = env.locals ∧ sc.names.lookup y = some .local) ∨ (sc.names.lookup y = some .cell ∧ env.cells.lookup y = some d)) → Stp [d] ρ s ρ s' → Inv W ρ σ s'.heap → EnvOk W sc ρ s'.heap env ((y, v) :: loc) → Q () s') : wpAny W.M A (storeName env y x) Q E s := by
  rcases hy with hy | hy
  · exact store_loc I N r hy fun s' t I' N' => h s' _ (.inl ⟨rfl, hy⟩) t I' N'
  · obtain ⟨c, hc⟩ := Option.isSome_iff_exists.mp (N.cn y hy)
    exact store_cel I N r hy hc fun s' t I' N' => h s' c (.inr ⟨hy, hc⟩) t I' N'

theorem comp_run {A : Around} {E : Value → Shared → Prop} {ρ : Rho} {s : Shared} {env : Env} {scope : Scope} {inner : Lc} {x : Str} {px pos : Pos} {elt iter : Expr} {ifs : List Expr} {v : V} {val : Value} {KS : St → Prop} {RR : Value → Addr → Result → Shared → Prop}
    (P : Pre W n A ρ σ s) (N : EnvOk W sc ρ s.heap env loc) (rv : Rp ρ s.heap v val)
    (hin : Inn scope sc loc inner) (hfr : (scope.names.all fun p => p.2 != .free || (inner.lookup p.1).isSome) = true) (hk : scope.kind = .function)
    (hkk : (scope.names.all fun p => scope.names.lookup p.1 == some p.2) = true) (hx : scope.names.lookup x = some .local ∨ scope.names.lookup x = some .cell)
    (hc : CompOk W n (rl scope sc) x inner elt ifs σ v KS)
    (hRR : ∀ D C s' σ' ρ', KS σ' → Stp [] ρ s ρ' s' → Inv W ρ' σ' s'.heap → Rp ρ' s'.heap (.obj σ.length) (.ref D) → s.heap.get? C = none → C ∉ own env → (∃ m, s'.heap.Ns C m) → C ∉ Dm ρ' → W.h₀.get? C = none → RR (.ref D) C (.ok .next) s') :
    wpAny W.M A (pyIter val) (fun it s₂ => wpAny W.M A (newList []) (fun acc s₃ => wpAny W.M A (newFunctionEnv scope env.globals (closL scope.names env.cells []) [] env.qual none .none (some env)) (fun cenv s₄ =>
      codeAny W.M A (.compStart (.ListComp elt [⟨.Name x px, iter, ifs, 0⟩] scope pos) 0 it acc { cenv with scope := relabel scope env }) (RR acc cenv.locals) s₄) E s₃) E s₂) E s := by
  obtain ⟨vs, I, e0, ie, i0, turn, fin⟩ := hc
  refine wpAny_mono (it_start P e0 rv) (fun itv s₂ ⟨a, ea, t₂, I₂, J₂, hf⟩ => ?_) fun _ _ x => x
  subst ea
  have k : ∀ b o, s₂.heap.get? b = some o → (s₂.heap.push { cls := .type "list", data := .seq ([] : List Value).toArray }).get? b = some o := fun _ _ e => Heap.get?_push_of_some _ e
  have hn₂ : ∀ d ∈ (Loc.one s₂.heap.objs.size).addrs, s₂.heap.get? d = none := by simp [Loc.addrs]; exact none_at_size _
  refine wpAny_newObj_type ?_ (by size_fits)
  have t₃' : Stp [] ρ s₂ (ρ ++ [.one s₂.heap.objs.size]) { s₂ with heap := s₂.heap.push { cls := .type "list", data := .seq ([] : List Value).toArray } } := Stp.new (s := s₂) k hn₂
  have I₃ : Inv W (ρ ++ [.one s₂.heap.objs.size]) (σ ++ [.list []]) (s₂.heap.push { cls := .type "list", data := .seq ([] : List Value).toArray }) :=
    I₂.push k hn₂ (by simp [Loc.addrs]) ⟨_, ⟨_, Heap.get?_push_size _ rfl⟩, by simp; exact Rps.nil⟩
  generalize hs₃ : ({ s₂ with heap := s₂.heap.push { cls := .type "list", data := .seq ([] : List Value).toArray } } : Shared) = s₃ at t₃'
  have I₃ : Inv W (ρ ++ [.one s₂.heap.objs.size]) (σ ++ [.list []]) s₃.heap := by subst hs₃; exact I₃
  have t₃ := t₂.tr t₃'
  have hD₃ : (ρ ++ [Loc.one s₂.heap.objs.size])[σ.length]? = some (.one s₂.heap.objs.size) := by rw [← P.inv.len]; simp
  refine comp_env I₃ (N.step t₃) hin hfr hk hkk fun cenv s₄ hclos hCn hCo t₄ I₄ hCd hrl hfresh hxf N₄ => ?_
  rw [hrl]
  have hsC : s.heap.get? cenv.locals = none := by
    cases q : s.heap.get? cenv.locals with
    | none => rfl
    | some o => obtain ⟨o', e⟩ := t₃.ex _ o q; rw [hCn] at e; cases e
  have it3 : ∃ o, s₃.heap.get? a = some o := by
    have : ∃ o, s₂.heap.get? a = some o := by
      obtain ⟨_, _, J⟩ := J₂
      by_cases hr : ∃ a b c, v = .rng a b c
      · obtain ⟨_, _, _, rfl⟩ := hr
        exact ⟨_, J⟩
      · have J : ∃ l, Rp ρ s₂.heap v (.ref l) ∧ s₂.heap.IsListIter a l 0 := by
          cases v with
          | rng a b c => exact absurd ⟨a, b, c, rfl⟩ hr
          | _ => exact J
        obtain ⟨_, _, o, ho, _⟩ := J
        exact ⟨o, ho⟩
    obtain ⟨o, ho⟩ := this
    exact t₃'.ex a o ho
  have haown : a ∉ own { cenv with scope := rl scope sc } := fun q => by
    rcases hfresh a q with z | z
    · obtain ⟨o, ho⟩ := it3; rw [z] at ho; cases ho
    · exact own_old N hf z
  have hxx : (rl scope sc).names.lookup x = some .local ∨ (rl scope sc).names.lookup x = some .cell := by
    rw [rl_look]
    rcases hx with q | q <;> rw [q] <;> simp
  have nodouble : ∀ z w, inner.lookup z = some w → z ≠ x := fun z w e q => by
    obtain ⟨_, h2, _⟩ := hin.look z w e
    subst q
    rcases hx with q | q <;> rw [q] at h2 <;> cases h2
  have loop : ∀ s', s' = s₄ → codeAny W.M A (.compLoop (.ListComp elt [⟨.Name x px, iter, ifs, 0⟩] scope pos) 0 (.ref a) (.ref s₂.heap.objs.size) { cenv with scope := rl scope sc }) (RR (.ref s₂.heap.objs.size) cenv.locals) s' := by
    rintro s' rfl
    refine codeAny_compLoop_tests (fun m s' => ∃ k σ' ρ', m = vs.length - k ∧ k ≤ vs.length ∧ I k σ' ∧ Stp [] ρ s ρ' s' ∧ ρ'[σ.length]? = some (.one s₂.heap.objs.size) ∧ Inv W ρ' σ' s'.heap ∧
      EnvOk W (rl scope sc) ρ' s'.heap { cenv with scope := rl scope sc } inner ∧ ItJ W ρ' s'.heap a v k) ?_ vs.length
      ⟨0, _, _, rfl, Nat.zero_le _, i0, t₃.tr t₄, hD₃, I₄, N₄, (J₂.step t₃' (by simp)).step t₄ (by simp)⟩
    rintro m s' ⟨k, σ', ρ', rfl, hkl, ik, t, hD', I', N', J⟩
    have P' := P.step t I'
    have D := J.1
    have D0 := J.2.1
    cases hv : vs[k]? with
    | none =>
      refine noE (wpAny_mono (it_end P' (ie _ _ ik) J hv) (fun r s₅ ⟨e, T⟩ => ?_) fun _ _ x => x)
      subst e
      have hkk : k = vs.length := by
        have := List.getElem?_eq_none_iff.mp hv
        omega
      subst hkk
      have I₅ := T.inv I' D D0
      have N₅ := T.env N' haown
      have t₅ := T.stp t (by
        cases q : s.heap.get? a with
        | none => rfl
        | some o => rw [hf] at q; cases q)
      obtain ⟨m, hm, _⟩ := N₅.ns
      refine hRR _ _ _ σ' ρ' (fin _ ik) t₅ I₅ ?_ hsC (own_old N hsC) ⟨m, hm⟩ N₅.lo.1 N₅.lo.2
      unfold Rp
      exact ⟨_, hD', rfl⟩
    | some y =>
      have hlt := (List.getElem?_eq_some_iff.mp hv).1
      refine noE (wpAny_mono (it_next P' (ie _ _ ik) J hv) (fun r s₅ ⟨val, e, T, ry, J₅⟩ => ?_) fun _ _ x => x)
      subst e
      have hsa : s.heap.get? a = none := hf
      have t₅ := T.stp t hsa
      have N₅ := T.env N' haown
      have I₅ := T.inv I' D D0
      refine wpAny_assign_Name (store_new I₅ N₅ ry hxx fun s₆ d hd t₆ I₆ N₆ => ?_)
      have hd3 : s₃.heap.get? d = none := by
        rcases hd with ⟨rfl, _⟩ | ⟨h1, h2⟩
        · exact hCn
        · refine hxf x d ?_ h2
          rcases hx with q | q
          · rw [rl_look, q] at h1; simp at h1
          · exact q
      have hds : s.heap.get? d = none := by
        cases q : s.heap.get? d with
        | none => rfl
        | some o => obtain ⟨o', e⟩ := t₃.ex _ o q; rw [hd3] at e; cases e
      have hda : d ≠ a := fun q => by obtain ⟨o, ho⟩ := it3; rw [← q, hd3] at ho; cases ho
      have t₇ : Stp [] ρ s ρ' s₆ := t₅.trans t₆ fun y hy => by rw [List.mem_singleton.mp hy]; exact .inr (.inr hds)
      have J₆ := J₅.step t₆ (by simpa using Ne.symm hda)
      refine noE (wpAny_mono ((turn k σ' y ik hv).run (P.step t₇ I₆) N₆) (fun b s₇ q_ => ex5 q_ fun σ₇ ρ₇ kb t₈ I₇ => ?_) fun _ _ x => x)
      have t₉ := t₇.tr t₈
      have J₇ := J₆.step t₈ (by simp)
      have N₇ := N₆.step t₈
      have back : ∀ {ρz : Rho} {sz : Shared}, EnvOk W (rl scope sc) ρz sz.heap { cenv with scope := rl scope sc } ((x, y) :: inner) → EnvOk W (rl scope sc) ρz sz.heap { cenv with scope := rl scope sc } inner := fun Nz =>
        Nz.sub fun z w e => by rw [List.lookup_cons, show (z == x) = false from by simp [nodouble z w e]]; exact e
      have keepD : ∀ {ρz : Rho} {sy sz : Shared}, Stp [] ρ' sy ρz sz → ρz[σ.length]? = some (.one s₂.heap.objs.size) := fun tz => by
        obtain ⟨more, rfl, _⟩ := tz.more
        rw [List.getElem?_append_left (List.getElem?_eq_some_iff.mp hD').1]
        exact hD'
      have hD₇ := keepD t₈
      cases b with
      | false =>
        simp only [Bool.false_eq_true, if_false]
        exact ⟨_, by omega, k + 1, σ₇, ρ₇, rfl, hlt, kb.2 rfl, t₉, hD₇, I₇, back N₇, J₇⟩
      | true =>
        simp only [if_true]
        refine noE (wpAny_mono (kb.1 rfl A _ ρ₇ s₇ _ (P.step t₉ I₇) N₇ EOk.none) (fun r s₈ q_ => q_.elim fun rv' σ₈ ρ₈ k₈ t₁₀ I₈ r₈ => ?_) fun _ _ x => x)
        obtain ⟨ys, hys, hz, ik'⟩ := k₈
        have hD₈ := keepD (t₈.tr t₁₀)
        obtain ⟨items, hp, hr⟩ := I₈.objs _ _ _ hD₈ hys
        have hsz : items.size ≤ sizeLine := by
          have := hr.length
          simp at this
          rw [sizeLine_eq]; omega
        refine wpAny_list_append_plain hp (fun h' hp' hsb => ?_) hsz
        have hda8 : s₂.heap.objs.size ∈ (Loc.one s₂.heap.objs.size).addrs := by simp [Loc.addrs]
        have t₁₁ : Stp [] ρ₈ s₈ ρ₈ { s₈ with heap := h' } := Stp.set (t' := s₈.toks) (Dm_mem hD₈ hda8) hsb (let ⟨_, e⟩ := hp'; ⟨_, e⟩)
        have I₉ : Inv W ρ₈ (σ₈.set σ.length (.list (ys ++ [rv']))) h' := by
          refine I₈.set hD₈ (fun b o e hb => (hsb.2 b fun q => hb (q ▸ hda8)).trans e) ⟨_, hp', ?_⟩
          rw [Array.toList_push]
          exact (t₁₁.rps hr).append (Rps.one (t₁₁.rp r₈))
        exact ⟨_, by omega, k + 1, _, ρ₈, rfl, hlt, ik', (t₉.tr t₁₀).tr t₁₁, hD₈, I₉, back ((N₇.step t₁₀).step t₁₁), (J₇.step t₁₀ (by simp)).step t₁₁ (by simp)⟩
  exact codeAny_compStart_list (loop _ rfl) (it_again ((J₂.step t₃' (by simp)).step t₄ (by simp)) (loop _ rfl))
theorem names_ok {scope : Scope} (hkk : (scope.names.all fun p => scope.names.lookup p.1 == some p.2) = true) : ∀ x ∈ scope.names, x.2 = .local → scope.names.lookup x.1 = some .local := fun x hx hl => by
  have := List.all_eq_true.mp hkk _ hx
  rw [hl] at this
  simpa using this

theorem ns_turn {ρ : Rho} {s : Shared} {C : Addr} {h' : Heap} {m : Str → Option Value} (hn : s.heap.Ns C m) (hs : Heap.SameBut C s.heap h') : Turn C ρ s { s with heap := h' } := by
  obtain ⟨o, es, ep, ho, hd, _⟩ := hn
  refine Turn.of (s := s) (t' := s.toks) ho ?_ fun b ob e hb => (hs.2 b hb).trans e
  rintro (⟨xs, k, e⟩ | ⟨vs, e, _⟩) <;> rw [hd] at e <;> cases e

/-- [elt for x in iter if ifs] -/
theorem e_comp {x : Str} {px pos : Pos} {elt iter : Expr} {ifs : List Expr} {scope : Scope} (inner : Lc)
    (h : OKe W n sc iter loc σ (fun v σ₁ => CompOk W n (rl scope sc) x inner elt ifs σ₁ v (fun σ' => KV (.obj σ₁.length) σ')) X)
    (hin : Inn scope sc loc inner) (hfr : (scope.names.all fun p => p.2 != .free || (inner.lookup p.1).isSome) = true := by rfl) (hk : scope.kind = .function := by rfl)
    (hkk : (scope.names.all fun p => scope.names.lookup p.1 == some p.2) = true := by rfl) (hx : scope.names.lookup x = some .local ∨ scope.names.lookup x = some .cell := by first | exact .inl rfl | exact .inr rfl)
    (hs : ∀ env v, foldedSetIterable iter env v = pure v := by intro _ _; rfl) : OKe W n sc (.ListComp elt [⟨.Name x px, iter, ifs, 0⟩] scope pos) loc σ KV X := by
  intro A env ρ s E P N H
  rw [eval_ListComp]
  refine wpAny_comprehension_free (use := none) rfl (hs env) (clos_ok N hin hfr) hk (names_ok hkk) (wpAny_mono (h A env ρ s E P N H) (fun val s₁ q_ => q_.elim fun v σ₁ ρ₁ k₁ t₁ I₁ r₁ => ?_) fun _ _ x => x)
  refine comp_run (RR := fun acc C => compPost W.M A E none (PV W ρ s KV) acc C) (P.step t₁ I₁) (N.step t₁) r₁ hin hfr hk hkk hx k₁ fun D C s' σ' ρ' kk t I' rD hC hCo ⟨m, hm⟩ hCD hC0 => ?_
  refine ⟨m, hm, fun h' hs' => ?_⟩
  have T : Turn C ρ' s' { s' with heap := h' } := ns_turn hm hs'
  exact ⟨_, σ', ρ', kk, t₁.tr (T.stp t hC), T.inv I' hCD hC0, T.rp rD⟩

/-- y = [elt for x in iter if ifs], all on one line -/
theorem x_comp {x y : Str} {px py pos spos : Pos} {elt iter : Expr} {ifs : List Expr} {scope : Scope} (inner : Lc)
    (h : OKe W n sc iter loc σ (fun v σ₁ => CompOk W n (rl scope sc) x inner elt ifs σ₁ v (fun σ' => K .next ((y, .obj σ₁.length) :: loc) σ')) X)
    (hin : Inn scope sc loc inner) (hline : py.line = pos.line := by rfl) (hy : sc.names.lookup y = some .local := by rfl) (hny : (scope.names.any fun (n, k) => n == y && (k == .local || k == .cell)) = false := by rfl)
    (hfr : (scope.names.all fun p => p.2 != .free || (inner.lookup p.1).isSome) = true := by rfl) (hk : scope.kind = .function := by rfl)
    (hkk : (scope.names.all fun p => scope.names.lookup p.1 == some p.2) = true := by rfl) (hx : scope.names.lookup x = some .local ∨ scope.names.lookup x = some .cell := by first | exact .inl rfl | exact .inr rfl)
    (hs : ∀ env v, foldedSetIterable iter env v = pure v := by intro _ _; rfl) : OKx W n sc (.Assign [.Name y py] (.ListComp elt [⟨.Name x px, iter, ifs, 0⟩] scope pos) spos) loc σ K X := by
  intro A env ρ s E P N H
  have hsw : swapsWith (.ListComp elt [⟨.Name x px, iter, ifs, 0⟩] scope pos) (some (.Name y py)) spos.line env = pure true := by
    show (pure (env.blockKind == .function && env.kindOf y == some .local && py.line == pos.line && !(scope.names.any fun (n, k) => n == y && (k == .local || k == .cell))) : Sem Bool) = pure true
    have hb : env.blockKind = .function := by unfold Env.blockKind; rw [N.hk]; rfl
    rw [hb, N.kindOf, hy, hline, hny]
    simp
  rw [exec_Assign_Name_used _ _ _ _ hsw]
  refine wpAny_bind (wpAny_standAt (wpAny_bind ?_))
  show wpAny _ A (do let _ ← comprehension (.ListComp elt [⟨.Name x px, iter, ifs, 0⟩] scope pos) scope env _ (newList []) false (eval iter env) (some (assign (.Name y py) env))) _ _ s
  refine wpAny_bind (wpAny_mono (wpAny_comprehension_free (use := some (assign (.Name y py) env)) (Q := fun _ s' => PF W sc env ρ s K .next s') rfl (hs env) (clos_ok N hin hfr) hk (names_ok hkk)
    (wpAny_mono (h A env ρ s E P N H) (fun val s₁ q_ => q_.elim fun v σ₁ ρ₁ k₁ t₁ I₁ r₁ => ?_) fun _ _ x => x)) (fun _ s' hq => wpAny_pure (wpAny_pure hq)) fun _ _ e => e)
  refine comp_run (RR := fun acc C => compPost W.M A E (some (assign (.Name y py) env)) (fun _ s' => PF W sc env ρ s K .next s') acc C) (P.step t₁ I₁) (N.step t₁) r₁ hin hfr hk hkk hx k₁ fun D C s' σ' ρ' kk t I' rD hC hCo ⟨m, hm⟩ hCD hC0 => ?_
  show wpAny _ A (assign (.Name y py) env (.ref D)) _ _ _
  have t₂ := t₁.tr t
  refine wpAny_assign_Name (store_any I' (N.step t₂) rD (.inl hy) fun s'' t₃ I₃ N₃ => ?_)
  have hm' : s''.heap.Ns C m := t₃.keeps.ns hm fun q => by
    rcases List.mem_append.mp q with q | q
    · exact hCo q
    · exact hCD q
  refine ⟨m, hm', fun h' hs' => ?_⟩
  have T : Turn C ρ' s'' { s'' with heap := h' } := ns_turn hm' hs'
  have hCs : s.heap.get? C = none := by
    cases q : s.heap.get? C with
    | none => rfl
    | some o => obtain ⟨o', e⟩ := t₁.ex _ o q; rw [hC] at e; cases e
  exact .of kk (T.stp (t₂.weak.tr t₃) hCs) (T.inv I₃ hCD hC0) (T.env N₃ hCo) rfl
end

end Mine
end

section
namespace Mine
open PySem PySem.W PySem.Calls PyProof.Rows

mutual
/-- w is v with the ledger's objects from m on read as they stand -/
noncomputable def Fz (σ : St) (m : Nat) : V → V → Prop
  | .lst ws, v => (∃ us, v = .lst us ∧ Fzs σ m ws us) ∨ (∃ i us, v = .obj i ∧ m ≤ i ∧ σ[i]? = some (.list us) ∧ Fzs σ m ws us)
  | .tup ws, v => ∃ us, v = .tup us ∧ Fzs σ m ws us
  | .obj i, v => v = .obj i ∧ i < m
  | .none, v => v = .none
  | .bool b, v => v = .bool b
  | .int b, v => v = .int b
  | .str b, v => v = .str b
  | .bytes b, v => v = .bytes b
  | .rng a b c, v => v = .rng a b c
  | .con c, v => v = .con c
noncomputable def Fzs (σ : St) (m : Nat) : List V → List V → Prop
  | [], us => us = []
  | w :: ws, us => ∃ u r, us = u :: r ∧ Fz σ m w u ∧ Fzs σ m ws r
end
noncomputable def lowO (σ : St) (m : Nat) : O → Prop
  | .list vs => Fzs σ m vs vs
  | .barr _ => True
  | .inst _ fs => ∀ x v, fs.lookup x = some v → Fz σ m v v

mutual
theorem Rp.low {σ : St} {ρ : Rho} {h : Heap} : ∀ (v : V) (x : Value), Rp ρ h v x → Fz σ ρ.length v v
  | .none, _, _ => by unfold Fz; rfl
  | .bool _, _, _ => by unfold Fz; rfl
  | .int _, _, _ => by unfold Fz; rfl
  | .str _, _, _ => by unfold Fz; rfl
  | .bytes _, _, _ => by unfold Fz; rfl
  | .rng _ _ _, _, _ => by unfold Fz; rfl
  | .con _, _, _ => by unfold Fz; rfl
  | .obj i, x, r => by
    unfold Rp at r; unfold Fz
    obtain ⟨l, hl, _⟩ := r
    exact ⟨rfl, (List.getElem?_eq_some_iff.mp hl).1⟩
  | .tup vs, x, r => by
    unfold Rp at r; unfold Fz
    obtain ⟨_, _, _, _, _, _, _, _, _, hr⟩ := r
    exact ⟨vs, rfl, Rps.low vs _ hr⟩
  | .lst vs, x, r => by
    unfold Rp at r; unfold Fz
    obtain ⟨_, _, _, _, _, _, _, _, _, hr⟩ := r
    exact .inl ⟨vs, rfl, Rps.low vs _ hr⟩
theorem Rps.low {σ : St} {ρ : Rho} {h : Heap} : ∀ (vs : List V) (xs : List Value), Rps ρ h vs xs → Fzs σ ρ.length vs vs
  | [], _, _ => by unfold Fzs; rfl
  | v :: r, xs, q => by
    unfold Rps at q; unfold Fzs
    obtain ⟨x, xr, _, a, b⟩ := q
    exact ⟨v, r, rfl, Rp.low v x a, Rps.low r xr b⟩
end
theorem FsR.mem {ρ : Rho} {h : Heap} {fs : List (Str × V)} {m : Str → Option Value} (F : FsR ρ h fs m) {p : Str × V} (hp : fs.lookup p.1 = some p.2) : ∃ x, Rp ρ h p.2 x := by
  have := F p.1
  rw [hp] at this
  obtain ⟨r, _, q⟩ := this
  exact ⟨r, q⟩

section
variable {W : Wd} {n : Nat} {σ : St} {X : St → Prop} {K : V → St → Prop}

theorem Dm_take {ρ : Rho} {m : Nat} {a : Addr} (h : a ∈ Dm (ρ.take m)) : a ∈ Dm ρ := by
  rw [← List.take_append_drop m ρ, Dm_append]
  exact List.mem_append_left _ h
theorem Dm_apart {ρ : Rho} {m i : Nat} {l : Loc} {a : Addr} (nd : (Dm ρ).Nodup) (hm : m ≤ i) (hl : ρ[i]? = some l) (ha : a ∈ l.addrs) : a ∉ Dm (ρ.take m) := fun q => by
  rw [← List.take_append_drop m ρ, Dm_append] at nd
  refine (List.nodup_append.mp nd).2.2 a q a ?_ rfl
  exact Dm_mem (i := i - m) (by rw [List.getElem?_drop]; rw [show m + (i - m) = i by omega]; exact hl) ha

mutual
theorem Fz.rp {ρ : Rho} {h : Heap} {m : Nat} (I : Inv W ρ σ h) (hm : m ≤ ρ.length) : ∀ (w v : V) (x : Value), Fz σ m w v → Rp ρ h v x → Rp (ρ.take m) h w x
  | .none, v, x, f, r => by unfold Fz at f; subst f; exact r
  | .bool _, v, x, f, r => by unfold Fz at f; subst f; exact r
  | .int _, v, x, f, r => by unfold Fz at f; subst f; exact r
  | .str _, v, x, f, r => by unfold Fz at f; subst f; exact r
  | .bytes _, v, x, f, r => by unfold Fz at f; subst f; exact r
  | .con _, v, x, f, r => by unfold Fz at f; subst f; exact r
  | .rng _ _ _, v, x, f, r => by
    unfold Fz at f; subst f
    unfold Rp at r ⊢
    obtain ⟨a, t, u, w, e, ho, ha⟩ := r
    exact ⟨a, t, u, w, e, ho, fun q => ha (Dm_take q)⟩
  | .obj i, v, x, f, r => by
    unfold Fz at f
    obtain ⟨rfl, hi⟩ := f
    unfold Rp at r ⊢
    obtain ⟨l, hl, e⟩ := r
    exact ⟨l, by rw [List.getElem?_take, if_pos hi]; exact hl, e⟩
  | .tup ws, v, x, f, r => by
    unfold Fz at f
    obtain ⟨us, rfl, f⟩ := f
    unfold Rp at r ⊢
    obtain ⟨a, o, items, k, e, ho, hc, hd, ha, hr⟩ := r
    exact ⟨a, o, items, k, e, ho, hc, hd, fun q => ha (Dm_take q), Fzs.rps I hm ws us _ f hr⟩
  | .lst ws, v, x, f, r => by
    unfold Fz at f
    rcases f with ⟨us, rfl, f⟩ | ⟨i, us, rfl, hi, hs, f⟩
    · unfold Rp at r ⊢
      obtain ⟨a, o, items, k, e, ho, hc, hd, ha, hr⟩ := r
      exact ⟨a, o, items, k, e, ho, hc, hd, fun q => ha (Dm_take q), Fzs.rps I hm ws us _ f hr⟩
    · unfold Rp at r ⊢
      obtain ⟨l, hl, rfl⟩ := r
      have R := I.objs i l _ hl hs
      cases l with
      | two x d => exact R.elim
      | one a =>
        obtain ⟨items, ⟨k, ho⟩, hr⟩ := R
        exact ⟨a, _, items, k, rfl, ho, rfl, rfl, Dm_apart I.nodup hi hl (by simp [Loc.addrs]), Fzs.rps I hm ws us _ f hr⟩
theorem Fzs.rps {ρ : Rho} {h : Heap} {m : Nat} (I : Inv W ρ σ h) (hm : m ≤ ρ.length) : ∀ (ws vs : List V) (xs : List Value), Fzs σ m ws vs → Rps ρ h vs xs → Rps (ρ.take m) h ws xs
  | [], vs, xs, f, r => by unfold Fzs at f; subst f; exact r
  | w :: ws, vs, xs, f, r => by
    unfold Fzs at f
    obtain ⟨u, us, rfl, f1, f2⟩ := f
    unfold Rps at r ⊢
    obtain ⟨x, xr, e, r1, r2⟩ := r
    exact ⟨x, xr, e, Fz.rp I hm w u x f1 r1, Fzs.rps I hm ws us xr f2 r2⟩
end

theorem lowO.obj {ρ : Rho} {h : Heap} {m : Nat} {l : Loc} {o : O} (I : Inv W ρ σ h) (hm : m ≤ ρ.length) (hl : lowO σ m o) (R : ObjR ρ h l o) : ObjR (ρ.take m) h l o := by
  cases l with
  | one a => cases o with
    | list vs => obtain ⟨items, hp, hr⟩ := R; exact ⟨items, hp, Fzs.rps I hm vs vs _ hl hr⟩
    | barr b => exact R
    | inst C fs => exact R.elim
  | two x d => cases o with
    | inst C fs =>
      obtain ⟨h1, o', es, k, m', ho', hc', hd', hk', hf', hz', F⟩ := R
      refine ⟨h1, o', es, k, m', ho', hc', hd', hk', hf', hz', fun x => ?_⟩
      have := F x
      cases e : fs.lookup x with
      | none => rw [e] at this; exact this
      | some v =>
        rw [e] at this
        obtain ⟨r, e', q⟩ := this
        exact ⟨r, e', Fz.rp I hm v v r (hl x v e) q⟩
    | _ => exact R.elim

theorem Inv.take {ρ ρ' : Rho} {σ' : St} {h h' : Heap} (I : Inv W ρ σ h) (I' : Inv W (ρ ++ ρ') σ' h')
    (ho : ∀ i o, i < σ.length → σ'[i]? = some o → σ[i]? = some o ∨ lowO σ' σ.length o) : Inv W ρ (σ'.take σ.length) h' := by
  have et : (ρ ++ ρ').take σ.length = ρ := by rw [← I.len]; simp
  have hle : σ.length ≤ (ρ ++ ρ').length := by rw [← I.len]; simp
  refine ⟨I'.keep, fun d hd => I'.fresh d (by rw [Dm_append]; exact List.mem_append_left _ hd), ?_, ?_, fun i l o h1 h2 => ?_⟩
  · have := I'.nodup
    rw [Dm_append] at this
    exact (List.nodup_append.mp this).1
  · have := I'.len
    rw [List.length_take, ← this, ← I.len]; simp
  · have hi : i < σ.length := by rw [← I.len]; exact (List.getElem?_eq_some_iff.mp h1).1
    rw [List.getElem?_take, if_pos hi] at h2
    have R := I'.objs i l o (by rw [List.getElem?_append_left (I.len ▸ hi)]; exact h1) h2
    have low : lowO σ' σ.length o := by
      rcases ho i o hi h2 with q | q
      · have R0 := I.objs i l o h1 q
        rw [← I.len]
        cases l with
        | one a => cases o with
          | list vs => obtain ⟨items, hp, hr⟩ := R0; exact Rps.low vs _ hr
          | barr b => trivial
          | inst C fs => exact R0.elim
        | two x d => cases o with
          | inst C fs =>
            obtain ⟨_, _, _, _, m', _, _, _, _, _, _, F⟩ := R0
            intro x v hx
            obtain ⟨y, hy⟩ := F.mem (p := (x, v)) hx
            exact Rp.low _ _ hy
          | _ => exact R0.elim
      · exact q
    have := low.obj I' hle R
    rwa [et] at this

/-- the ledger's new objects are let go: what is answered is read as it stands -/
noncomputable def DropOk (σ : St) (K : V → St → Prop) (v : V) (σ' : St) : Prop :=
  ∃ w, Fz σ' σ.length w v ∧ K w (σ'.take σ.length) ∧ (∀ i o, i < σ.length → σ'[i]? = some o → σ[i]? = some o ∨ lowO σ' σ.length o)
theorem PV.drop {ρ : Rho} {s s' : Shared} {x : Value} (I : Inv W ρ σ s.heap) (p : PV W ρ s (DropOk σ K) x s') : PV W ρ s K x s' := by
  obtain ⟨v, σ', ρ', ⟨w, f, k, ho⟩, t, I', r⟩ := p
  obtain ⟨more, rfl, hm⟩ := t.more
  have et : (ρ ++ more).take σ.length = ρ := by rw [← I.len]; simp
  refine ⟨w, σ'.take σ.length, ρ, k, ⟨t.same, t.keeps, t.vals, ⟨[], by simp, by simp [Dm]⟩, t.frs, t.ex⟩, I.take I' ho, ?_⟩
  have := Fz.rp I' (by rw [← I.len]; simp) w v x f r
  rwa [et] at this
theorem OKt.drop {t : List Value → Sem Value} {args : List V} (h : OKt W n t args σ (DropOk σ K) X) : OKt W n t args σ K X :=
  fun A ρ s vs E P R H => wpAny_mono (h A ρ s vs E P R H) (fun _ _ p => p.drop P.inv) fun _ _ x => x
theorem OKd.drop {f : Value} {args : List V} (h : OKd W n f args σ (DropOk σ K) X) : OKd W n f args σ K X :=
  fun A ρ s vs R P r HR H => h A ρ s vs R P r (fun v s' p => HR v s' (p.drop P.inv)) H
theorem Fzs.ints {σ : St} {m : Nat} : ∀ ns : List Int, Fzs σ m (ns.map .int) (ns.map .int)
  | [] => by simp [Fzs]
  | a :: r => by
    simp only [List.map_cons, Fzs]
    exact ⟨_, _, rfl, by unfold Fz; rfl, Fzs.ints r⟩
/-- all that came is let go, an own list is read -/
theorem DropOk.lst {σ τ : St} {j : Nat} {ns : List Int} (e : (σ ++ τ)[j]? = some (.list (ns.map .int))) (hj : σ.length ≤ j) (h : K (.lst (ns.map .int)) σ) : DropOk σ K (.obj j) (σ ++ τ) :=
  ⟨.lst (ns.map .int), by unfold Fz; exact .inr ⟨j, _, rfl, hj, e, Fzs.ints ns⟩, by simpa using h, fun i o hi e => .inl (by rwa [List.getElem?_append_left hi] at e)⟩
theorem DropOk.int {σ τ : St} {i : Int} (h : K (.int i) σ) : DropOk σ K (.int i) (σ ++ τ) :=
  ⟨.int i, by unfold Fz; rfl, by simpa using h, fun i o hi e => .inl (by rwa [List.getElem?_append_left hi] at e)⟩
end

end Mine
end

section
namespace Mine
open PySem PySem.W PySem.Calls PyProof.Rows

section
variable {W : Wd} {n : Nat} {σ : St} {X : St → Prop} {K : V → St → Prop}

theorem OKt.one {t : List Value → Sem Value} {a : V} (h : ∀ A ρ s x E, Pre W n A ρ σ s → Rp ρ s.heap a x → EX W ρ s X E → wpAny W.M A (t [x]) (PV W ρ s K) E s) : OKt W n t [a] σ K X := by
  intro A ρ s vs E P r H
  unfold Rps at r
  obtain ⟨x, r', rfl, ra, rr⟩ := r
  unfold Rps at rr
  subst rr
  exact h A ρ s x E P ra H
theorem OKt.two {t : List Value → Sem Value} {a b : V} (h : ∀ A ρ s x y E, Pre W n A ρ σ s → Rp ρ s.heap a x → Rp ρ s.heap b y → EX W ρ s X E → wpAny W.M A (t [x, y]) (PV W ρ s K) E s) : OKt W n t [a, b] σ K X := by
  intro A ρ s vs E P r H
  unfold Rps at r
  obtain ⟨x, r', rfl, ra, rr⟩ := r
  unfold Rps at rr
  obtain ⟨y, r'', rfl, rb, rr⟩ := rr
  unfold Rps at rr
  subst rr
  exact h A ρ s x y E P ra rb H
theorem Rp.int {ρ : Rho} {h : Heap} {i : Int} {x : Value} (r : Rp ρ h (.int i) x) : ∃ t, x = .int i t := by unfold Rp at r; exact r
theorem Rp.str {ρ : Rho} {h : Heap} {i : Str} {x : Value} (r : Rp ρ h (.str i) x) : ∃ t, x = .str i t := by unfold Rp at r; exact r
theorem PV.int {ρ : Rho} {s : Shared} {i : Int} {t : Tok} {t' : Nat} (I : Inv W ρ σ s.heap) (h : K (.int i) σ) : PV W ρ s K (.int i t) { s with toks := t' } := ⟨_, _, ρ, h, Stp.tok, I, ⟨_, rfl⟩⟩
theorem PV.str {ρ : Rho} {s : Shared} {i : Str} {t : Tok} {t' : Nat} (I : Inv W ρ σ s.heap) (h : K (.str i) σ) : PV W ρ s K (.str i t) { s with toks := t' } := ⟨_, _, ρ, h, Stp.tok, I, ⟨_, rfl⟩⟩
theorem PV.bool {ρ : Rho} {s : Shared} {b : Bool} (I : Inv W ρ σ s.heap) (h : K (.bool b) σ) : PV W ρ s K (.bool b) s := ⟨_, _, ρ, h, Stp.refl _ _, I, rfl⟩
theorem PV.none {ρ : Rho} {s : Shared} (I : Inv W ρ σ s.heap) (h : K .none σ) : PV W ρ s K .none s := ⟨_, _, ρ, h, Stp.refl _ _, I, rfl⟩

variable {a b : Int}
theorem t_add (h : K (.int (a + b)) σ) : OKt W n (binT .Add) [.int a, .int b] σ K X := .two fun A ρ s x y E P ra rb H => by
  obtain ⟨t, rfl⟩ := ra.int; obtain ⟨u, rfl⟩ := rb.int
  exact add_int (.int P.inv h)
theorem t_iadd (h : K (.int (a + b)) σ) : OKt W n (inpT .Add) [.int a, .int b] σ K X := .two fun A ρ s x y E P ra rb H => by
  obtain ⟨t, rfl⟩ := ra.int; obtain ⟨u, rfl⟩ := rb.int
  exact iadd_int (.int P.inv h)
theorem t_sub (h : K (.int (a - b)) σ) : OKt W n (binT .Sub) [.int a, .int b] σ K X := .two fun A ρ s x y E P ra rb H => by
  obtain ⟨t, rfl⟩ := ra.int; obtain ⟨u, rfl⟩ := rb.int
  exact sub_int (.int P.inv h)
theorem t_mul (h : K (.int (a * b)) σ) (hm : IntMulOk a b) : OKt W n (binT .Mult) [.int a, .int b] σ K X := .two fun A ρ s x y E P ra rb H => by
  obtain ⟨t, rfl⟩ := ra.int; obtain ⟨u, rfl⟩ := rb.int
  exact mul_int (.int P.inv h) hm
theorem mulL (h : a.natAbs < 2 ^ 64) : IntMulOk a b := IntMulOk.of_left (intBits_le h)
theorem mulR (h : b.natAbs < 2 ^ 64) : IntMulOk a b := IntMulOk.of_right (intBits_le h)
theorem t_mod (h : K (.int (a.fmod b)) σ) (hb : b ≠ 0) : OKt W n (binT .Mod) [.int a, .int b] σ K X := .two fun A ρ s x y E P ra rb H => by
  obtain ⟨t, rfl⟩ := ra.int; obtain ⟨u, rfl⟩ := rb.int
  exact mod_int' hb (.int P.inv h)
theorem t_fdiv (h : K (.int (a.fdiv b)) σ) (hb : b ≠ 0) (hs : b.natAbs < 1073741824) : OKt W n (binT .FloorDiv) [.int a, .int b] σ K X := .two fun A ρ s x y E P ra rb H => by
  obtain ⟨t, rfl⟩ := ra.int; obtain ⟨u, rfl⟩ := rb.int
  exact floordiv_int_or P.hand (fun q => absurd q hb) (fun _ => .int P.inv h) fun _ => .inl (PyProof.noPylong_small hs)
theorem t_pow (h : K (.int (a ^ b.toNat)) σ) (h0 : 0 ≤ b) (h1 : b ≤ 1000000) (ha : a.natAbs < 2 ^ 64) : OKt W n (binT .Pow) [.int a, .int b] σ K X := .two fun A ρ s x y E P ra rb H => by
  obtain ⟨t, rfl⟩ := ra.int; obtain ⟨u, rfl⟩ := rb.int
  exact pow_int_small h0 h1 ha (.int P.inv h)
theorem t_shl (h : K (.int (a * 2 ^ b.toNat)) σ) (h0 : 0 ≤ b) (h1 : b ≤ 1000000) (ha : a.natAbs < 2 ^ 64) : OKt W n (binT .LShift) [.int a, .int b] σ K X := .two fun A ρ s x y E P ra rb H => by
  obtain ⟨t, rfl⟩ := ra.int; obtain ⟨u, rfl⟩ := rb.int
  exact lshift_int_small h0 h1 ha (.int P.inv h)
theorem t_shr (h : K (.int (a.fdiv (2 ^ b.toNat))) σ) (h0 : 0 ≤ b) : OKt W n (binT .RShift) [.int a, .int b] σ K X := .two fun A ρ s x y E P ra rb H => by
  obtain ⟨t, rfl⟩ := ra.int; obtain ⟨u, rfl⟩ := rb.int
  exact rshift_int h0 (.int P.inv h)
theorem t_and (h : K (.int (Builtin.bitAnd a b)) σ) : OKt W n (binT .BitAnd) [.int a, .int b] σ K X := .two fun A ρ s x y E P ra rb H => by
  obtain ⟨t, rfl⟩ := ra.int; obtain ⟨u, rfl⟩ := rb.int
  exact and_int (.int P.inv h)
theorem t_bor (h : K (.int (Builtin.bitOr a b)) σ) : OKt W n (binT .BitOr) [.int a, .int b] σ K X := .two fun A ρ s x y E P ra rb H => by
  obtain ⟨t, rfl⟩ := ra.int; obtain ⟨u, rfl⟩ := rb.int
  exact or_int (.int P.inv h)
theorem t_neg (h : K (.int (-a)) σ) : OKt W n (unT .USub) [.int a] σ K X := .one fun A ρ s x E P ra H => by
  obtain ⟨t, rfl⟩ := ra.int
  exact neg_int (.int P.inv h)
theorem t_eq (h : K (.bool (a == b)) σ) : OKt W n (cmpT .Eq) [.int a, .int b] σ K X := .two fun A ρ s x y E P ra rb H => by
  obtain ⟨t, rfl⟩ := ra.int; obtain ⟨u, rfl⟩ := rb.int
  exact eq_int (.bool P.inv h)
theorem t_ne (h : K (.bool (a != b)) σ) : OKt W n (cmpT .NotEq) [.int a, .int b] σ K X := .two fun A ρ s x y E P ra rb H => by
  obtain ⟨t, rfl⟩ := ra.int; obtain ⟨u, rfl⟩ := rb.int
  exact ne_int (.bool P.inv h)
theorem t_lt (h : K (.bool (decide (a < b))) σ) : OKt W n (cmpT .Lt) [.int a, .int b] σ K X := .two fun A ρ s x y E P ra rb H => by
  obtain ⟨t, rfl⟩ := ra.int; obtain ⟨u, rfl⟩ := rb.int
  exact lt_int (.bool P.inv h)
theorem t_le (h : K (.bool (decide (a ≤ b))) σ) : OKt W n (cmpT .LtE) [.int a, .int b] σ K X := .two fun A ρ s x y E P ra rb H => by
  obtain ⟨t, rfl⟩ := ra.int; obtain ⟨u, rfl⟩ := rb.int
  exact le_int (.bool P.inv h)
theorem t_gt (h : K (.bool (decide (b < a))) σ) : OKt W n (cmpT .Gt) [.int a, .int b] σ K X := .two fun A ρ s x y E P ra rb H => by
  obtain ⟨t, rfl⟩ := ra.int; obtain ⟨u, rfl⟩ := rb.int
  exact gt_int (.bool P.inv h)
theorem t_ge (h : K (.bool (decide (b ≤ a))) σ) : OKt W n (cmpT .GtE) [.int a, .int b] σ K X := .two fun A ρ s x y E P ra rb H => by
  obtain ⟨t, rfl⟩ := ra.int; obtain ⟨u, rfl⟩ := rb.int
  exact ge_int (.bool P.inv h)
end

end Mine
end

section
namespace Mine
open PySem PySem.W PySem.Calls PyProof.Rows

section
variable {W : Wd} {n : Nat} {σ : St} {X : St → Prop} {K : V → St → Prop}

noncomputable def noRng : V → Bool
  | .rng _ _ _ => false
  | _ => true
theorem lst_at' {ρ : Rho} {h : Heap} {v : V} {val : Value} {vs : List V} (I : Inv W ρ σ h) (r : Rp ρ h v val) (e : Elems σ v vs) (hn : noRng v = true) :
    ∃ l items, val = .ref l ∧ h.IsList l items ∧ Rps ρ h vs items.toList ∧ items.size = vs.length := by
  obtain ⟨l, items, a, b, c⟩ := lst_at I r e fun x y z q => by subst q; cases hn
  exact ⟨l, items, a, b, c, by have := c.length; simpa using this⟩

theorem PV.newL {ρ : Rho} {s : Shared} {items : Array Value} {vs : List V} {t' : Nat} (I : Inv W ρ σ s.heap) (r : Rps ρ s.heap vs items.toList) (h : K (.lst vs) σ) :
    PV W ρ s K (.ref s.heap.objs.size) { s with heap := s.heap.push { cls := .type "list", data := .seq items }, toks := t' } := by
  have k : ∀ b o, s.heap.get? b = some o → (s.heap.push { cls := .type "list", data := .seq items }).get? b = some o := fun b o e => Heap.get?_push_of_some _ e
  have t : Stp [] ρ s ρ { s with heap := s.heap.push { cls := .type "list", data := .seq items }, toks := t' } := Stp.all (s := s) k
  refine ⟨_, _, ρ, h, t, I.all k, ?_⟩
  unfold Rp
  exact ⟨_, _, _, _, rfl, Heap.get?_push_size _ rfl, rfl, rfl, I.out (none_at_size _), t.rps r⟩
theorem PV.grown {ρ : Rho} {s : Shared} {h' : Heap} {t' : Nat} {v : V} {x : Value} (I : Inv W ρ σ s.heap) (k : ∀ b o, s.heap.get? b = some o → h'.get? b = some o) (r : Rp ρ h' v x) (h : K v σ) :
    PV W ρ s K x { s with heap := h', toks := t' } := ⟨_, _, ρ, h, Stp.all (s := s) k, I.all k, r⟩

theorem PV.newLM {ρ : Rho} {s : Shared} {items : Array Value} {vs : List V} {t' : Nat} (I : Inv W ρ σ s.heap) (r : Rps ρ s.heap vs items.toList) (h : K (.obj σ.length) (σ ++ [.list vs])) :
    PV W ρ s K (.ref s.heap.objs.size) { s with heap := s.heap.push { cls := .type "list", data := .seq items }, toks := t' } := by
  have k : ∀ b o, s.heap.get? b = some o → (s.heap.push { cls := .type "list", data := .seq items }).get? b = some o := fun b o e => Heap.get?_push_of_some _ e
  have hn : ∀ d ∈ (Loc.one s.heap.objs.size).addrs, s.heap.get? d = Option.none := by simp [Loc.addrs]; exact none_at_size _
  have t₂ : Stp [] ρ s (ρ ++ [.one s.heap.objs.size]) { s with heap := s.heap.push { cls := .type "list", data := .seq items }, toks := t' } := Stp.new (s := s) k hn
  refine ⟨_, _, ρ ++ [.one s.heap.objs.size], h, t₂, I.push k hn (by simp [Loc.addrs]) ?_, ?_⟩
  · exact ⟨_, ⟨_, Heap.get?_push_size _ rfl⟩, by simpa using t₂.rps r⟩
  · unfold Rp
    exact ⟨.one s.heap.objs.size, by rw [← I.len]; simp, rfl⟩
theorem c_len {v : V} {vs : List V} (e : Elems σ v vs) (hz : vs.length ≤ 1000000000) (h : K (.int vs.length) σ) (hn : noRng v = true := by rfl) : OKc W n (.builtin "len") [v] σ K X := .one fun A ρ s x E P r H => by
  obtain ⟨l, items, rfl, hl, hr, hs⟩ := lst_at' P.inv r e hn
  refine call_len_list hl (by rw [hs]; omega) ?_
  rw [hs]
  exact .int P.inv h

theorem t_addL {a b : V} {vs us : List V} (ea : Elems σ a vs) (eb : Elems σ b us) (hz : vs.length + us.length ≤ 1000000) (h : K (.lst (vs ++ us)) σ) (ha : noRng a = true := by rfl) (hb : noRng b = true := by rfl) : OKt W n (binT .Add) [a, b] σ K X := .two fun A ρ s x y E P ra rb H => by
  obtain ⟨l, items, rfl, hl, hr, hs⟩ := lst_at' P.inv ra ea ha
  obtain ⟨l', items', rfl, hl', hr', hs'⟩ := lst_at' P.inv rb eb hb
  obtain ⟨⟨cls, dd, data, sl⟩, ho, hc, k, hd⟩ := hl
  obtain ⟨⟨cls2, dd2, data2, sl2⟩, ho2, hc2, k2, hd2⟩ := hl'
  simp only at hc hd hc2 hd2
  subst hc hd hc2 hd2
  refine concat_meets ⟨_, ho, rfl⟩ ⟨_, ho2, rfl⟩ noFill_list_add seq_list_add PySem.F.slot_list_add PySem.F.entry_list_add (PySem.F.args_list_add_2 _ _) (list_addW l l' items items' k k2 dd dd2 sl sl2 (by rw [hs, hs', sizeLine_eq]; omega)) ⟨ho, ho2, ?_⟩
  exact .newL P.inv (by rw [Array.toList_append]; exact hr.append hr') h

theorem Rps.rep {ρ : Rho} {h : Heap} {vs : List V} {xs : List Value} (r : Rps ρ h vs xs) : ∀ k : Nat, Rps ρ h (List.replicate k vs).flatten (List.replicate k xs).flatten
  | 0 => Rps.nil
  | k + 1 => by simp only [List.replicate_succ, List.flatten_cons]; exact r.append (r.rep k)
theorem t_mulL {a : V} {vs : List V} {i : Int} (ea : Elems σ a vs) (hi : i.natAbs ≤ 1000000) (hz : vs.length * i.toNat ≤ 1000000) (h : K (.lst (List.replicate i.toNat vs).flatten) σ) (ha : noRng a = true := by rfl) : OKt W n (binT .Mult) [a, .int i] σ K X := .two fun A ρ s x y E P ra rb H => by
  obtain ⟨l, items, rfl, hl, hr, hs⟩ := lst_at' P.inv ra ea ha
  obtain ⟨u, rfl⟩ := rb.int
  obtain ⟨⟨cls, d, data, sl⟩, ho, hcl, k, hd⟩ := hl
  simp only at hcl hd
  subst hcl hd
  have hsz' : items.size * i.toNat ≤ 1000000 := by rw [hs]; exact hz
  refine wpAny_binaryOp_repeat_ref (T := "list") (U := "int") (by decide) ⟨_, ho, rfl⟩ (fun s' => typeIs_int s' i u) noFill_list_mul F.fills_int_mul F.slot_int_rmul repeat_list F.slot_int_index.lookup
    (call_meets F.slot_int_rmul (typeIs_int s i u) F.entry_int_rmul (F.args_int_rmul_2 _ _) (lm_int_rmul_list_any i u l items k d sl)
      ⟨ho, rfl, ⟨_, ho, rfl⟩, call_meets F.slot_list_mul ⟨_, ho, rfl⟩ F.entry_list_mul (F.args_list_mul_2 _ _)
        (lm_list_mul_any l items k d sl i u (by simp [Builtin.List.listFitsIndex]; omega) (by omega) (by simp [Builtin.List.listTooLong, sizeLine]; omega))
        ⟨ho, ?_⟩⟩)
  rw [listMul_foldl_if]
  exact .newL P.inv (by simpa using hr.rep i.toNat) h

/-- a list that will be changed, by repeating -/
theorem t_mulLM {a : V} {vs : List V} {i : Int} (ea : Elems σ a vs) (hi : i.natAbs ≤ 1000000) (hz : vs.length * i.toNat ≤ 1000000) (h : K (.obj σ.length) (σ ++ [.list (List.replicate i.toNat vs).flatten])) (ha : noRng a = true := by rfl) : OKt W n (binT .Mult) [a, .int i] σ K X := .two fun A ρ s x y E P ra rb H => by
  obtain ⟨l, items, rfl, hl, hr, hs⟩ := lst_at' P.inv ra ea ha
  obtain ⟨u, rfl⟩ := rb.int
  obtain ⟨⟨cls, d, data, sl⟩, ho, hcl, k, hd⟩ := hl
  simp only at hcl hd
  subst hcl hd
  have hsz' : items.size * i.toNat ≤ 1000000 := by rw [hs]; exact hz
  refine wpAny_binaryOp_repeat_ref (T := "list") (U := "int") (by decide) ⟨_, ho, rfl⟩ (fun s' => typeIs_int s' i u) noFill_list_mul F.fills_int_mul F.slot_int_rmul repeat_list F.slot_int_index.lookup
    (call_meets F.slot_int_rmul (typeIs_int s i u) F.entry_int_rmul (F.args_int_rmul_2 _ _) (lm_int_rmul_list_any i u l items k d sl)
      ⟨ho, rfl, ⟨_, ho, rfl⟩, call_meets F.slot_list_mul ⟨_, ho, rfl⟩ F.entry_list_mul (F.args_list_mul_2 _ _)
        (lm_list_mul_any l items k d sl i u (by simp [Builtin.List.listFitsIndex]; omega) (by omega) (by simp [Builtin.List.listTooLong, sizeLine]; omega))
        ⟨ho, ?_⟩⟩)
  rw [listMul_foldl_if]
  exact .newLM P.inv (by simpa using hr.rep i.toNat) h
theorem i_lst {o x : V} {vs : List V} {i : Int} (e : Elems σ o vs) (h0 : 0 ≤ i) (hx : vs[i.toNat]? = some x) (hz : vs.length ≤ 1000000000) (h : K x σ) (hn : noRng o = true := by rfl) : OKi W n o (.int i) σ K X := by
  intro A ρ s vo vi E P ro ri H
  obtain ⟨l, items, rfl, hl, hr, hs⟩ := lst_at' P.inv ro e hn
  obtain ⟨t, rfl⟩ := ri.int
  obtain ⟨y, hy, ry⟩ := hr.get hx
  have hlt := (List.getElem?_eq_some_iff.mp hx).1
  exact ⟨"list", _, hl.typeIs, list_getitem_lookup, wpAny_getItem_list hl h0 (by omega) (by simpa using hy) ⟨_, _, ρ, h, Stp.refl _ _, P.inv, ry⟩⟩
theorem i_neg {o x : V} {vs : List V} {i : Int} (e : Elems σ o vs) (h0 : i < 0) (h1 : -(vs.length : Int) ≤ i) (hx : vs[(i + vs.length).toNat]? = some x) (hz : vs.length ≤ 1000000000) (h : K x σ) (hn : noRng o = true := by rfl) : OKi W n o (.int i) σ K X := by
  intro A ρ s vo vi E P ro ri H
  obtain ⟨l, items, rfl, hl, hr, hs⟩ := lst_at' P.inv ro e hn
  obtain ⟨t, rfl⟩ := ri.int
  obtain ⟨y, hy, ry⟩ := hr.get hx
  exact ⟨"list", _, hl.typeIs, list_getitem_lookup, wpAny_getItem_list_neg hl h0 (by rw [hs]; exact h1) (by omega) (by rw [hs]; simpa using hy) ⟨_, _, ρ, h, Stp.refl _ _, P.inv, ry⟩⟩
theorem i_tup {vs : List V} {x : V} {i : Int} (h0 : 0 ≤ i) (hx : vs[i.toNat]? = some x) (hi : i ≤ 1000000) (h : K x σ) : OKi W n (.tup vs) (.int i) σ K X := by
  intro A ρ s vo vi E P ro ri H
  unfold Rp at ro
  obtain ⟨a, o, items, m, rfl, ho, hc, hd, ha, hr⟩ := ro
  obtain ⟨t, rfl⟩ := ri.int
  obtain ⟨y, hy, ry⟩ := hr.get hx
  have hlt := (List.getElem?_eq_some_iff.mp hx).1
  have hs := hr.length
  simp at hs
  refine ⟨"tuple", _, ⟨o, ho, hc⟩, F.slot_tuple_getitem.lookup, getItem_tuple ⟨o, ho, hc, m, hd⟩ (by omega) (by omega) (seqIndex_of h0 (by omega)) (by simpa using hy) ⟨_, _, ρ, h, Stp.refl _ _, P.inv, ry⟩⟩
theorem itemT_lst {o x : V} {vs : List V} {i : Int} (e : Elems σ o vs) (h0 : 0 ≤ i) (hx : vs[i.toNat]? = some x) (hz : vs.length ≤ 1000000000) (h : K x σ) (hn : noRng o = true := by rfl) : OKt W n itemT [o, .int i] σ K X := .two fun A ρ s vo vi E P ro ri H => by
  obtain ⟨l, items, rfl, hl, hr, hs⟩ := lst_at' P.inv ro e hn
  obtain ⟨t, rfl⟩ := ri.int
  obtain ⟨y, hy, ry⟩ := hr.get hx
  have hlt := (List.getElem?_eq_some_iff.mp hx).1
  exact wpAny_getItem_list hl h0 (by omega) (by simpa using hy) ⟨_, _, ρ, h, Stp.refl _ _, P.inv, ry⟩

noncomputable def partOf : V → Option (Option Int)
  | .none => some none
  | .int i => some (some i)
  | _ => none
theorem Rp.part {ρ : Rho} {h : Heap} {v : V} {x : Value} {p : Option Int} (r : Rp ρ h v x) (e : partOf v = some p) : IsPart x p := by
  cases v <;> first | cases e | skip
  · unfold Rp at r; subst r; exact .none
  · unfold Rp at r; obtain ⟨t, rfl⟩ := r; exact .int _ _
theorem take_min' {α : Type} (l : List α) (b : Nat) : l.take (min b l.length) = l.take b := kmk_take_min l b
theorem drop_min' {α : Type} (l : List α) (b : Nat) : l.drop (min b l.length) = l.drop b := kmk_drop_min l b
theorem mx_mn (k n : Nat) : max 0 (min (k : Int) n) = ((min k n : Nat) : Int) := by
  omega
theorem cut_from {o : V} {vs : List V} {i : Int} (e : Elems σ o vs) (h0 : 0 ≤ i) (hz : vs.length ≤ 1000000) (h : K (.lst (vs.drop i.toNat)) σ) (hn : noRng o = true := by rfl) : OKcut W n o (.int i) .none σ K X := by
  intro A ρ s vo vl vu sl E P ro rl ru hs H
  obtain ⟨l, items, rfl, hl, hr, hsz⟩ := lst_at' P.inv ro e hn
  refine ⟨"list", _, hl.typeIs, list_getitem_lookup, wpAny_getItem_list_slice hl ⟨_, hs, rfl, rfl⟩ (rl.part rfl) (ru.part rfl) .none (by simp) ?_ (by rw [hsz, sizeLine_eq]; omega)⟩
  refine .newL P.inv ?_ h
  have eb : sliceBounds (some i) none none items.size = (((min i.toNat items.size : Nat) : Int), ((items.size : Nat) : Int), 1) := by
    simp only [sliceBounds, Option.getD_none, show (1 : Int) > 0 by decide, if_true, if_neg (show ¬ (i < 0) by omega)]
    congr 1
    obtain ⟨k, rfl⟩ := Int.eq_ofNat_of_zero_le h0
    exact mx_mn k _
  rw [kmk_pick_nat _ eb]
  have := hr.drop i.toNat
  have el : (items.toList.drop (min i.toNat items.size)).take (items.size - min i.toNat items.size) = items.toList.drop i.toNat := by
    rw [List.take_of_length_le (by rw [List.length_drop]; simp)]
    have := drop_min' items.toList i.toNat
    simpa using this
  rw [el]
  exact this
theorem cut_upto {o : V} {vs : List V} {i : Int} (e : Elems σ o vs) (h0 : 0 ≤ i) (hz : vs.length ≤ 1000000) (h : K (.lst (vs.take i.toNat)) σ) (hn : noRng o = true := by rfl) : OKcut W n o .none (.int i) σ K X := by
  intro A ρ s vo vl vu sl E P ro rl ru hs H
  obtain ⟨l, items, rfl, hl, hr, hsz⟩ := lst_at' P.inv ro e hn
  refine ⟨"list", _, hl.typeIs, list_getitem_lookup, wpAny_getItem_list_slice hl ⟨_, hs, rfl, rfl⟩ (rl.part rfl) (ru.part rfl) .none (by simp) ?_ (by rw [hsz, sizeLine_eq]; omega)⟩
  refine .newL P.inv ?_ h
  have eb : sliceBounds none (some i) none items.size = (((0 : Nat) : Int), ((min i.toNat items.size : Nat) : Int), 1) := by
    simp only [sliceBounds, Option.getD_none, show (1 : Int) > 0 by decide, if_true, if_neg (show ¬ (i < 0) by omega)]
    congr 1
    congr 1
    obtain ⟨k, rfl⟩ := Int.eq_ofNat_of_zero_le h0
    exact mx_mn k _
  rw [kmk_pick_nat _ eb]
  have := hr.take i.toNat
  have el : (items.toList.drop 0).take (min i.toNat items.size - 0) = items.toList.take i.toNat := by
    rw [List.drop_zero, Nat.sub_zero]
    have := take_min' items.toList i.toNat
    simpa using this
  rw [el]
  exact this

/-- a change of a list of the ledger -/
theorem PV.setL {ρ : Rho} {s : Shared} {i : Nat} {a : Addr} {vs : List V} {items : Array Value} {h' : Heap} {t' : Nat} {x : Value} {v : V} (I : Inv W ρ σ s.heap) (hl : ρ[i]? = some (.one a)) (hs : Heap.SameBut a s.heap h') (hp : h'.PlainList a items)
    (r : ∀ s', Stp [] ρ s ρ s' → s'.heap = h' → Rps ρ h' vs items.toList) (rv : Rp ρ h' v x) (h : K v (σ.set i (.list vs))) : PV W ρ s K x { s with heap := h', toks := t' } := by
  have ha : a ∈ (Loc.one a).addrs := by simp [Loc.addrs]
  have t : Stp [] ρ s ρ { s with heap := h', toks := t' } := Stp.set (Dm_mem hl ha) hs (let ⟨_, e⟩ := hp; ⟨_, e⟩)
  exact ⟨v, _, ρ, h, t, I.set hl (fun b o e hb => (hs.2 b fun q => hb (q ▸ ha)).trans e) ⟨_, hp, r _ t rfl⟩, rv⟩
theorem lst_in {ρ : Rho} {h : Heap} {i : Nat} {x : Value} {vs : List V} (I : Inv W ρ σ h) (r : Rp ρ h (.obj i) x) (e : σ[i]? = some (.list vs)) :
    ∃ a items, x = .ref a ∧ ρ[i]? = some (.one a) ∧ h.PlainList a items ∧ Rps ρ h vs items.toList ∧ items.size = vs.length := by
  unfold Rp at r
  obtain ⟨l, hl, rfl⟩ := r
  have R := I.objs i l _ hl e
  cases l with
  | one a =>
    obtain ⟨items, hp, hr⟩ := R
    exact ⟨a, items, rfl, hl, hp, hr, by have := hr.length; simpa using this⟩
  | two x d => exact R.elim

theorem m_list {i : Nat} {vs : List V} {name : Str} {id : String} (e : σ[i]? = some (.list vs)) (slot : Slot "list" name id) (hty : typeOf (.builtin id) = pure (.type "method_descriptor")) : OKm W n (.obj i) name σ (.builtin id) := by
  intro A ρ s v pl Q E P ro h
  obtain ⟨a, items, rfl, hl, ⟨k, hp⟩, hr, hs⟩ := lst_in P.inv ro e
  exact getMethod_builtin ⟨_, hp, rfl⟩ PySem.F.plainAttrs_list slot hty (fun b eb => by cases eb; exact ⟨_, hp, rfl⟩) h
theorem c_append {i : Nat} {vs : List V} {v : V} (e : σ[i]? = some (.list vs)) (hz : vs.length ≤ 1000000) (h : K .none (σ.set i (.list (vs ++ [v])))) : OKc W n (.builtin "list.append") [.obj i, v] σ K X := .two fun A ρ s x y E P ra rb H => by
  obtain ⟨a, items, rfl, hl, hp, hr, hs⟩ := lst_in P.inv ra e
  refine wpAny_list_append_plain hp (fun h' hp' hsb => ?_) (by rw [hs, sizeLine_eq]; omega)
  refine PV.setL (v := .none) (t' := s.toks) P.inv hl hsb hp' (fun s' t es => ?_) (by unfold Rp; rfl) h
  rw [Array.toList_push, ← es]
  exact (t.rps hr).append (Rps.one (t.rp rb))
theorem c_extend {i j : Nat} {vs us : List V} (e : σ[i]? = some (.list vs)) (e' : σ[j]? = some (.list us)) (hz : vs.length + us.length ≤ 1000000) (h : K .none (σ.set i (.list (vs ++ us)))) : OKc W n (.builtin "list.extend") [.obj i, .obj j] σ K X := .two fun A ρ s x y E P ra rb H => by
  obtain ⟨a, items, rfl, hl, hp, hr, hs⟩ := lst_in P.inv ra e
  obtain ⟨b, items', rfl, hl', hp', hr', hs'⟩ := lst_in P.inv rb e'
  obtain ⟨k, ho⟩ := hp
  obtain ⟨k', ho'⟩ := hp'
  refine call_meets F.slot_list_extend ⟨_, ho, rfl⟩ F.entry_list_extend (F.args_list_extend_2 _ _) (AutoSeq1.list_extend_list_list_0 a items k b items' k' (by simp [Builtin.List.listTooLong, sizeLine]; intro _; omega) (by rw [hs, sizeLine_eq]; omega) (by rw [hs, hs', sizeLine_eq]; omega)) ⟨ho, ho', ?_⟩
  refine PV.setL (v := .none) (t' := s.toks) (items := items ++ items') P.inv hl (Heap.SameBut.update ..) ⟨_, IsL.update ho _⟩ (fun s' t es => ?_) (by unfold Rp; rfl) h
  rw [Array.toList_append, ← es]
  exact (t.rps hr).append (t.rps hr')
theorem setItem_plain {prog : Program} {w : World} {A : Around} {E : Value → Shared → Prop} {s : Shared} {l : Addr} {items : Array Value} {m : Nat} {k : Int} {t : Tok} {v : Value} {Q : Unit → Shared → Prop}
    (ho : s.heap.get? l = some { cls := .type "list", data := .seq items m }) (h0 : 0 ≤ k) (hfit : k < 2 ^ 63) (hn : k < items.size)
    (hQ : ∀ h', h'.PlainList l (items.setIfInBounds k.toNat v) → Heap.SameBut l s.heap h' → Q () { s with heap := h' }) : wpAny (model prog w) A (setItem (.ref l) (.int k t) v) Q E s := by
  have hl : s.heap.IsList l items := ⟨_, ho, rfl, m, rfl⟩
  unfold setItem
  try with_reducible refine wpAny_holding ?_
  first | refine wpAny_bind (wpAny_pure ?_) | skip
  refine wpAny_bind (wpAny_sequenceKey hl.typeIs (by decide) ?_)
  refine wpAny_bind (wpAny_callSpecial?_slot (name := Str.ofString "__setitem__") hl.typeIs slot_list_setitem
    (wpAny_call_entry slot_list_setitem hl.typeIs entry_list_setitem ?_ (args_list_setitem _ _ _)))
  show wpAny _ _ (Builtin.List.listSubscript? (.int k t) >>= _) _ _ s
  refine wpAny_bind (wpAny_listSubscript_int (fitsIndex_of h0 hfit) ?_)
  clear hfit
  obtain ⟨j, rfl⟩ := Int.eq_ofNat_of_zero_le h0
  have hj : j < items.size := by omega
  have hx' : items[j]? = some items[j] := Array.getElem?_eq_getElem hj
  show wpAny _ _ ((seqItemAt l j >>= fun r => pure (r.map (j, ·))) >>= _) _ _ s
  refine wpAny_bind (wpAny_bind (wpAny_seqItemAt ho rfl (wpAny_pure ?_)))
  rw [hx']
  show wpAny _ _ (setSeqItemAt l j v >>= _) _ _ s
  refine wpAny_bind (wpAny_setSeqItemAt ho rfl ?_)
  have hfin : (s.heap.update l (Obj.mapSeq (·.setIfInBounds j v))).PlainList l (items.setIfInBounds j v) := ⟨_, IsL.update ho _⟩
  first
    | exact wpAny_bind (wpAny_pure (wpAny_pure ⟨.none, rfl, wpAny_pure (hQ _ hfin (Heap.SameBut.update ..))⟩))
    | exact wpAny_pure ⟨.none, rfl, wpAny_pure (hQ _ hfin (Heap.SameBut.update ..))⟩
theorem u_set {i : Nat} {vs : List V} {v : V} {k : Int} {KS : St → Prop} (e : σ[i]? = some (.list vs)) (h0 : 0 ≤ k) (h1 : k < vs.length) (hz : vs.length ≤ 1000000) (h : KS (σ.set i (.list (vs.set k.toNat v)))) : OKu W n setIT [.obj i, .int k, v] σ KS X := by
  intro A ρ s xs E P r H
  unfold Rps at r; obtain ⟨x, r1, rfl, ra, r⟩ := r
  unfold Rps at r; obtain ⟨y, r2, rfl, rb, r⟩ := r
  unfold Rps at r; obtain ⟨z, r3, rfl, rc, r⟩ := r
  unfold Rps at r; subst r
  obtain ⟨t, rfl⟩ := rb.int
  obtain ⟨a, items, rfl, hl, hp, hr, hs⟩ := lst_in P.inv ra e
  obtain ⟨kk, ho⟩ := hp
  obtain ⟨j, rfl⟩ := Int.eq_ofNat_of_zero_le h0
  refine setItem_plain ho h0 (by omega) (by omega) fun h' hp' hsb => ?_
  obtain ⟨v', σ', ρ', ⟨_, q⟩, t', I', _⟩ := PV.setL (K := fun w σ' => w = V.none ∧ KS σ') (v := .none) (x := .none) (vs := vs.set j v) (t' := s.toks) P.inv hl hsb hp' (fun s' t es => by
    rw [Array.toList_setIfInBounds, ← es]
    exact (t.rps hr).set (t.rp rc) j) (by unfold Rp; rfl) ⟨rfl, h⟩
  exact ⟨σ', ρ', q, t', I'⟩

theorem c_list {v : V} {vs : List V} (e : Elems σ v vs) (hz : vs.length ≤ 1000000) (h : K (.lst vs) σ) (hn : noRng v = true := by rfl) : OKc W n (.type "list") [v] σ K X := .one fun A ρ s x E P r H => by
  obtain ⟨l, items, rfl, ⟨o, ho, hc, k, hd⟩, hr, hs⟩ := lst_at' P.inv r e hn
  refine call_list_seq (hsz := by rw [hs, sizeLine_eq]; omega) l (.inl rfl) ho hc hd fun h' c' hk hD => ?_
  have t : Stp [] ρ s ρ { s with heap := h' } := Stp.all (s := s) (t' := s.toks) hk
  refine ⟨.lst vs, σ, ρ, h, t, P.inv.all hk, ?_⟩
  unfold Rp
  exact ⟨_, _, _, _, rfl, hD, rfl, rfl, P.inv.out (none_at_size _), t.rps hr⟩
end

end Mine
end

section
namespace Mine
open PySem PySem.W PySem.Calls PyProof.Rows

theorem Rps.ints {ρ : Rho} {h : Heap} : ∀ {ns : List Int} {xs : List Value}, Rps ρ h (ns.map .int) xs → ∃ zs : List (Int × Tok), xs = zs.map (fun p => .int p.1 p.2) ∧ zs.map (·.1) = ns
  | [], _, r => by unfold Rps at r; subst r; exact ⟨[], rfl, rfl⟩
  | n :: ns, xs, r => by
    rw [List.map_cons] at r
    unfold Rps at r
    obtain ⟨x, xr, rfl, a, b⟩ := r
    obtain ⟨t, rfl⟩ := a.int
    obtain ⟨zs, rfl, rfl⟩ := Rps.ints b
    exact ⟨(n, t) :: zs, rfl, rfl⟩
theorem Rps.strs {ρ : Rho} {h : Heap} : ∀ {ns : List Str} {xs : List Value}, Rps ρ h (ns.map .str) xs → ∃ zs : List (Str × Tok), xs = strValues zs ∧ zs.map (·.1) = ns
  | [], _, r => by unfold Rps at r; subst r; exact ⟨[], rfl, rfl⟩
  | n :: ns, xs, r => by
    rw [List.map_cons] at r
    unfold Rps at r
    obtain ⟨x, xr, rfl, a, b⟩ := r
    obtain ⟨t, rfl⟩ := a.str
    obtain ⟨zs, rfl, rfl⟩ := Rps.strs b
    exact ⟨(n, t) :: zs, rfl, rfl⟩

/-- the text of bits -/
noncomputable def bch (b : Bool) : Nat := if b then 49 else 48
noncomputable def bstr (bs : List Bool) : Str := ⟨(bs.map bch).toArray⟩
theorem bstr_len (bs : List Bool) : (bstr bs).length = bs.length := by unfold bstr Str.length; simp
theorem bstr_app (a b : List Bool) : bstr a ++ bstr b = bstr (a ++ b) := by
  show (⟨(a.map bch).toArray ++ (b.map bch).toArray⟩ : Str) = ⟨((a ++ b).map bch).toArray⟩
  simp
theorem bstr_join (l : List (List Bool)) : Txt.join ⟨#[]⟩ (l.map bstr) = bstr l.flatten := by
  unfold Txt.join Builtin.Str.glued
  cases l with
  | nil => rfl
  | cons a r =>
    have go : ∀ (r : List (List Bool)) (acc : List Bool), List.foldl (fun acc (p : Str) => acc ++ (⟨#[]⟩ : Str).cps ++ p.cps) (bstr acc).cps (r.map bstr) = (bstr (acc ++ r.flatten)).cps := by
      intro r
      induction r with
      | nil => intro acc; simp
      | cons b r ih =>
        intro acc
        rw [List.map_cons, List.foldl_cons]
        have : (bstr acc).cps ++ (⟨#[]⟩ : Str).cps ++ (bstr b).cps = (bstr (acc ++ b)).cps := by unfold bstr; simp
        rw [this, ih]
        simp
    show (⟨List.foldl _ (bstr a).cps (r.map bstr)⟩ : Str) = _
    rw [go]
    simp
theorem bstr_fold (l : List (List Bool)) : ∀ k, List.foldl (fun acc (p : Str) => acc + p.length + (⟨#[]⟩ : Str).length) k (l.map bstr) = k + l.flatten.length := by
  induction l with
  | nil => intro k; simp
  | cons a r ih =>
    intro k
    rw [List.map_cons, List.foldl_cons, ih, bstr_len]
    simp [Str.length]; omega

section
variable {W : Wd} {n : Nat} {sc : Scope} {loc : Lc} {σ : St} {X : St → Prop} {K : V → St → Prop}

theorem c_max {v : V} {ns : List Int} (e : Elems σ v (ns.map .int)) (hne : ns ≠ []) (h : ∀ M, M ∈ ns → (∀ a, a ∈ ns → a ≤ M) → K (.int M) σ) (hn : noRng v = true := by rfl) : OKc W n (.builtin "max") [v] σ K X := .one fun A ρ s x E P r H => by
  obtain ⟨l, items, rfl, hl, hr, hs⟩ := lst_at' P.inv r e hn
  obtain ⟨zs, hx, rfl⟩ := hr.ints
  have hit : items = intItems zs.toArray := by
    rw [← Array.toArray_toList (xs := items), hx]; simp [intItems]
  subst hit
  have hsz : 0 < zs.toArray.size := by
    cases zs with
    | nil => exact absurd rfl hne
    | cons _ _ => simp
  refine max_intList P.hand hl hsz fun v h' tk hv hk => ?_
  obtain ⟨t, rfl⟩ := intItems_at hv
  obtain ⟨h1, h2⟩ := argBest_gt (numAt zs.toArray) (zs.toArray.size - 1)
  refine PV.grown (v := .int (numAt zs.toArray (argBest (fun i j => decide (numAt zs.toArray i > numAt zs.toArray j)) (zs.toArray.size - 1)))) P.inv hk ⟨_, rfl⟩ (h _ ?_ fun a ha => ?_)
  · rw [numAt_eq]; refine getD_mem ?_
    have h4 : (argBest (fun i j => decide (numAt zs.toArray i > numAt zs.toArray j)) (zs.toArray.size - 1)) < zs.toArray.size := by omega
    simpa using h4
  · obtain ⟨j, hj, rfl⟩ := mem_getD ha
    rw [List.length_map] at hj
    have h3 := h2 j (by simp; omega)
    rw [numAt_eq] at h3
    exact h3
theorem c_max2 {a b : Int} (h : K (.int (if b > a then b else a)) σ) : OKc W n (.builtin "max") [.int a, .int b] σ K X := .two fun A ρ s x y E P ra rb H => by
  obtain ⟨t, rfl⟩ := ra.int; obtain ⟨u, rfl⟩ := rb.int
  refine max_two_ints P.hand fun h' tk hk => ?_
  by_cases c : b > a
  · rw [if_pos c] at h ⊢; exact PV.grown (v := .int b) P.inv hk ⟨_, rfl⟩ h
  · rw [if_neg c] at h ⊢; exact PV.grown (v := .int a) P.inv hk ⟨_, rfl⟩ h
theorem c_sum {v : V} {ns : List Int} (e : Elems σ v (ns.map .int)) (h : K (.int ns.sum) σ) (hn : noRng v = true := by rfl) : OKc W n (.builtin "sum") [v] σ K X := .one fun A ρ s x E P r H => by
  obtain ⟨l, items, rfl, hl, hr, hs⟩ := lst_at' P.inv r e hn
  obtain ⟨zs, hx, rfl⟩ := hr.ints
  have hit : items = intItems zs.toArray := by
    rw [← Array.toArray_toList (xs := items), hx]; simp [intItems]
  subst hit
  refine sum_intListG P.hand hl fun h' tk t' hk => ?_
  rw [preSum_eq, List.take_of_length_le (by simp)]
  exact PV.grown (v := .int _) P.inv hk ⟨_, rfl⟩ h

theorem c_range1 {b : Int} (h : K (.rng 0 b 1) σ) : OKc W n (.type "range") [.int b] σ K X := .one fun A ρ s x E P r H => by
  obtain ⟨t, rfl⟩ := r.int
  refine call_range_1 (.grown P.inv (fun b o e => Heap.get?_push_of_some _ e) ?_ h)
  unfold Rp
  exact ⟨_, _, _, _, rfl, Heap.get?_push_size _ rfl, P.inv.out (none_at_size _)⟩
theorem c_range3 {a b c : Int} (hc : 0 < c) (hc' : c ≤ 1000000) (h : K (.rng a b c) σ) : OKc W n (.type "range") [.int a, .int b, .int c] σ K X := by
  intro A ρ s xs E P r H
  unfold Rps at r; obtain ⟨x, r1, rfl, ra, r⟩ := r
  unfold Rps at r; obtain ⟨y, r2, rfl, rb, r⟩ := r
  unfold Rps at r; obtain ⟨z, r3, rfl, rc, r⟩ := r
  unfold Rps at r; subst r
  obtain ⟨t, rfl⟩ := ra.int; obtain ⟨u, rfl⟩ := rb.int; obtain ⟨w, rfl⟩ := rc.int
  refine call_range_3 (by omega) (.grown P.inv (fun b o e => Heap.get?_push_of_some _ e) ?_ h) (.inl (PyProof.noPylong_small (by omega)))
  unfold Rp
  exact ⟨_, _, _, _, rfl, Heap.get?_push_size _ rfl, P.inv.out (none_at_size _)⟩

theorem typeOf_int : typeOf (.type "int") = pure (.type "type") := by kernel_rfl
theorem sub_int_int' : isSubtype (.type "int") (.type "int") = pure true := by rw [isSubtype_type]; kernel_rfl
theorem sub_tuple_int : isSubtype (.type "tuple") (.type "int") = pure false := by rw [isSubtype_type]; kernel_rfl
theorem c_isint {i : Int} (h : K (.bool true) σ) : OKc W n (.builtin "isinstance") [.int i, .con (.type "int")] σ K X := .two fun A ρ s x y E P ra rb H => by
  obtain ⟨t, rfl⟩ := ra.int
  unfold Rp at rb; subst rb
  exact call_isinstance_yes (typeIs_int _ _ _) typeOf_int sub_int_int' (.bool P.inv h)
theorem c_isintT {vs : List V} (h : K (.bool false) σ) : OKc W n (.builtin "isinstance") [.tup vs, .con (.type "int")] σ K X := .two fun A ρ s x y E P ra rb H => by
  unfold Rp at ra rb; subst rb
  obtain ⟨a, o, items, m, rfl, ho, hc, hd, ha, hr⟩ := ra
  exact call_isinstance (isinstance_false_tuple (by decide) typeOf_int sub_tuple_int) ⟨⟨o, ho, hc⟩, ⟨_, _, ρ, h, Stp.tok, P.inv, by unfold Rp; rfl⟩⟩
theorem c_int {i : Int} (h : K (.int i) σ) : OKc W n (.type "int") [.int i] σ K X := .one fun A ρ s x E P ra H => by
  obtain ⟨t, rfl⟩ := ra.int
  exact call_int_int ⟨_, _, ρ, h, Stp.refl _ _, P.inv, ⟨_, rfl⟩⟩
theorem c_strbit {b : Bool} (h : K (.str (bstr [b])) σ) : OKc W n (.type "str") [.int (if b then 1 else 0)] σ K X := .one fun A ρ s x E P ra H => by
  obtain ⟨t, rfl⟩ := ra.int
  refine PySem.P.str_of_int (by cases b <;> decide) ?_
  have e : (Str.ofString (toString (if b then (1 : Int) else 0))) = bstr [b] := by cases b <;> decide +kernel
  rw [e]
  exact .str P.inv h
theorem c_join {v : V} {l : List (List Bool)} (e : Elems σ v ((l.map bstr).map .str)) (hz : l.flatten.length ≤ 1000000) (h : K (.str (bstr l.flatten)) σ) (hn : noRng v = true := by rfl) : OKc W n (.builtin "str.join") [.str ⟨#[]⟩, v] σ K X := .two fun A ρ s x y E P ra rb H => by
  obtain ⟨t, rfl⟩ := ra.str
  obtain ⟨d, items, rfl, hl, hr, hs⟩ := lst_at' P.inv rb e hn
  obtain ⟨zs, hx, hz'⟩ := hr.strs
  have hit : items = (strValues zs).toArray := by rw [← hx]
  subst hit
  refine SC.join hl hz' ?_ fun t' k => ?_
  · unfold JoinOk
    have e1 := bstr_fold l 0
    rw [List.foldl_toArray, e1]
    rw [Bool.not_eq_true']
    unfold Builtin.Str.tooLong
    rw [decide_eq_false_iff_not, sizeLine_eq]
    omega
  · rw [bstr_join]; exact .str P.inv h
set_option maxRecDepth 4000 in
theorem m_str {x : Str} {name : Str} {id : String} (slot : Slot "str" name id) (hty : typeOf (.builtin id) = pure (.type "method_descriptor")) : OKm W n (.str x) name σ (.builtin id) := by
  intro A ρ s v pl Q E P ro h
  obtain ⟨t, rfl⟩ := ro.str
  have h1 : s.TypeIs (.str x t) "str" := typeIs_str s x t
  have h2 : PlainAttrs "str" := PySem.F.plainAttrs_str
  have h3 : (∀ a, Value.str x t = .ref a → ∃ o, s.heap.get? a = some o ∧ o.dict = none) := by intro b eb; cases eb
  exact getMethod_builtin h1 h2 slot hty h3 h
theorem t_addS {a b : List Bool} (hz : a.length + b.length ≤ 1000000) (h : K (.str (bstr (a ++ b))) σ) : OKt W n (binT .Add) [.str (bstr a), .str (bstr b)] σ K X := .two fun A ρ s x y E P ra rb H => by
  obtain ⟨t, rfl⟩ := ra.str; obtain ⟨u, rfl⟩ := rb.str
  refine PySem.P.add_str ?_
  by_cases ha : (bstr a).length == 0
  · rw [if_pos ha]
    have : a = [] := by rw [bstr_len] at ha; simpa using ha
    subst this
    exact ⟨_, _, ρ, h, Stp.refl _ _, P.inv, ⟨_, rfl⟩⟩
  · rw [if_neg ha]
    by_cases hb : (bstr b).length == 0
    · rw [if_pos hb]
      have : b = [] := by rw [bstr_len] at hb; simpa using hb
      subst this
      rw [List.append_nil] at h
      exact ⟨_, _, ρ, h, Stp.refl _ _, P.inv, ⟨_, rfl⟩⟩
    · rw [if_neg hb, bstr_app]
      exact ⟨by rw [bstr_len, List.length_append, sizeLine_eq]; omega, .str P.inv h⟩
theorem t_mulS {b : Bool} {i : Int} (h0 : 0 ≤ i) (hz : i ≤ 1000) (h : K (.str (bstr (List.replicate i.toNat b))) σ) : OKt W n (binT .Mult) [.str (bstr [b]), .int i] σ K X := .two fun A ρ s x y E P ra rb H => by
  obtain ⟨t, rfl⟩ := ra.str; obtain ⟨u, rfl⟩ := rb.int
  have hlen : (bstr [b]).length = 1 := bstr_len _
  refine SB.mul ⟨?_, fun _ _ => ?_, fun _ _ => ?_⟩ fun t' k => ?_
  · have h1 : ¬ i < -(2 ^ 63 : Int) := by omega
    have h2 : ¬ i ≥ 2 ^ 63 := by omega
    rw [decide_eq_false h1, decide_eq_false h2]; rfl
  · rw [hlen]
    rename_i hh _
    have e : (2 : Int) ^ 63 = 9223372036854775808 := by decide
    rw [e]
    intro q'
    have hlt : ((9223372036854775808 : Int) - 1) / i < 1 + 0 := by omega
    have h2 : ¬ ((9223372036854775808 : Int) - 1) / i < 1 := by
      have := (Int.le_ediv_iff_mul_le (c := i) (by omega) (a := 1) (b := (9223372036854775808 : Int) - 1)).mpr (by omega)
      omega
    omega
  · rw [hlen]; simp only [Builtin.Str.tooLong, sizeLine_eq]; simp; omega
  · have e : Txt.mul (bstr [b]) i = bstr (List.replicate i.toNat b) := by
      unfold Txt.mul
      by_cases h1 : i < 1
      · rw [if_pos h1]
        have : i.toNat = 0 := by omega
        rw [this]; rfl
      · rw [if_neg h1]
        by_cases h2 : (i == 1 || (bstr [b]).length == 0) = true
        · rw [if_pos h2]
          rw [hlen] at h2
          have : i = 1 := by simpa using h2
          subst this; rfl
        · rw [if_neg h2]
          have : ∀ k : Nat, ∀ acc : List Bool, (List.replicate k (bstr [b]).cps).foldl (· ++ ·) (bstr acc).cps = (bstr (acc ++ List.replicate k b)).cps := by
            intro k
            induction k with
            | zero => intro acc; simp
            | succ k ih =>
              intro acc
              rw [List.replicate_succ, List.foldl_cons]
              have e1 : (bstr acc).cps ++ (bstr [b]).cps = (bstr (acc ++ [b])).cps := by unfold bstr; simp
              rw [e1, ih]
              simp [List.replicate_succ]
          have := this i.toNat []
          simp only [List.nil_append] at this
          show (⟨_⟩ : Str) = _
          have e0 : (#[] : Array Nat) = (bstr []).cps := rfl
          rw [e0, this]
    rw [e]
    exact .str P.inv h
theorem c_lenS {bs : List Bool} (hz : bs.length ≤ 1000000) (h : K (.int bs.length) σ) : OKc W n (.builtin "len") [.str (bstr bs)] σ K X := .one fun A ρ s x E P ra H => by
  obtain ⟨t, rfl⟩ := ra.str
  refine PySem.P.len_str (by rw [bstr_len]; omega) ?_
  rw [bstr_len]
  exact .int P.inv h
theorem i_str {bs : List Bool} {b : Bool} {i : Int} (h0 : 0 ≤ i) (hx : bs[i.toNat]? = some b) (hz : bs.length ≤ 1000000) (h : K (.str (bstr [b])) σ) : OKi W n (.str (bstr bs)) (.int i) σ K X := by
  intro A ρ s vo vi E P ro ri H
  obtain ⟨t, rfl⟩ := ro.str; obtain ⟨u, rfl⟩ := ri.int
  have hlt := (List.getElem?_eq_some_iff.mp hx).1
  refine ⟨"str", _, typeIs_str _ _ _, F.slot_str_getitem.lookup, PySem.P.getItem_str (c := bch b) ?_ ?_ (.str P.inv h)⟩
  · have h1 : ¬ i < -(2 ^ 63 : Int) := by omega
    have h2 : ¬ i ≥ 2 ^ 63 := by omega
    rw [decide_eq_false h1, decide_eq_false h2]; rfl
  · rw [bstr_len, seqIndex_of h0 (by omega)]
    show (bstr bs).cps[i.toNat]? = _
    unfold bstr
    simp [hx]
theorem t_eqS {a b : Bool} (h : K (.bool (a == b)) σ) : OKt W n (cmpT .Eq) [.str (bstr [a]), .str (bstr [b])] σ K X := .two fun A ρ s x y E P ra rb H => by
  obtain ⟨t, rfl⟩ := ra.str; obtain ⟨u, rfl⟩ := rb.str
  refine PySem.P.eq_str ?_
  have : ((bstr [a]).cps.toList == (bstr [b]).cps.toList) = (a == b) := by cases a <;> cases b <;> decide
  rw [this]
  exact .bool P.inv h

/-- o[i] = e -/
theorem x_setI {K : Fl → Lc → St → Prop} {o i e : Expr} {p pos : Pos}
    (h : OKe W n sc e loc σ (fun v σ₁ => OKe W n sc o loc σ₁ (fun ov σ₂ => OKe W n sc i loc σ₂ (fun iv σ₃ => OKu W n setIT [ov, iv, v] σ₃ (K .next loc) X) X) X) X)
    (hs : ∀ env, swapsWith e (some (.Subscript o i p)) pos.line env = pure false := by intro _; rfl) : OKx W n sc (.Assign [.Subscript o i p] e pos) loc σ K X := by
  intro A env ρ s E P N H
  refine wpAny_Assign_Subscript (wpAny_mono (h A env ρ s E P N H) (fun x s₁ q_ => q_.elim fun v σ₁ ρ₁ k₁ t₁ I₁ r₁ => ?_) fun _ _ x => x) (hs env)
  refine wpAny_mono (k₁ A env ρ₁ s₁ E (P.step t₁ I₁) (N.step t₁) (H.step0 t₁)) (fun ov s₂ q_ => q_.elim fun w σ₂ ρ₂ k₂ t₂ I₂ r₂ => ?_) fun _ _ x => x
  have t := t₁.tr t₂
  refine wpAny_mono (k₂ A env ρ₂ s₂ E (P.step t I₂) (N.step t) (H.step0 t)) (fun iv s₃ q_ => q_.elim fun w' σ₃ ρ₃ k₃ t₃ I₃ r₃ => ?_) fun _ _ x => x
  have t' := t.tr t₃
  refine wpAny_mono (k₃ A ρ₃ s₃ [ov, iv, x] E (P.step t' I₃) (Rps.cons (t₃.rp r₂) (Rps.cons r₃ (Rps.one ((t₂.tr t₃).rp r₁)))) (H.toEX.step t')) (fun _ s₄ q_ => ex5 q_ fun σ₄ ρ₄ k₄ t₄ I₄ => ?_) fun _ _ x => x
  exact .of k₄ (t'.tr t₄).weak I₄ (N.step (t'.tr t₄)) rfl
end

end Mine
end

section
namespace Mine
open PySem PySem.W PySem.Calls PyProof.Rows
open Sem (wp)

section
variable {α β : Type} {M : Model} {A : Around} {E : Value → Shared → Prop} {s : Shared}
theorem wpR_runOwn {c : Code} {env : Env} {h : Option Value} {Q : Flow → Shared → Prop}
    (hc : codeR M (A.mark h) c (fun r s' => match r with | .ok f => Q f s' | .error e => cameBackBy M A env E e s') s) (hnb : h ≠ some byPass := by intro x; cases x) : wpR M A (runOwn c env h) Q E s := by
  unfold runOwn
  exact wpR_onRaise (wpR_run hc hnb)
theorem wpR_noted {env : Env} {m : Sem α} {Q : α → Shared → Prop} (h : wpR M A m Q (notedBy M A env E) s) : wpR M A (m.onRaise fun x => do noteFrame x env; theTreesLotGoes x) Q E s :=
  wpR_onRaise (wpR_mono h (fun _ _ q => q) fun _ _ hx => wpAny_bind (wpAny_mono hx (fun _ _ e => wpAny_theTreesLotGoes e) fun _ _ e => e))
theorem wpR_passesOwn {env : Env} {t : Sem α} {Q : α → Shared → Prop} (hE : PassesOwn M A env E) (h : wpR M A t Q E s) : wpR M A t Q (notedBy M A env (cameBackBy M A env E)) s :=
  wpR_mono h (fun _ _ x => x) hE
end

section
variable {prog : Program} {w : World} {A : Around} {E : Value → Shared → Prop} {R : Result → Shared → Prop} {s : Shared}
theorem codeR_func {body : List Stmt} {env : Env}
    (h : wpR (model prog w) (A.deeper env) (execs body env) (fun f s' => R (.ok (.ret (match f with | .ret v => v | _ => .none))) s')
      (fun e s' => wpAny (model prog w) (A.deeper env) (leaving env e) (fun _ s'' => R (.error e) s'') (fun e' s'' => R (.error e') s'') s') s) : codeR (model prog w) A (.func body env) R s := by
  refine codeR_of_tree rfl ?_
  show wpR _ (A.deeper env) (do point; match ← (execs body env).onRaise (leaving env) with | .ret v => ret v | _ => ret .none) _ _ s
  refine wpR_then (wpAny_point (wpR_bind (wpR_onRaise (wpR_mono h (fun f s' h' => ?_) fun _ _ h' => h'))))
  cases f <;> exact wpR_pure h'

theorem codeR_call_function {a : Addr} {args : Args} {o : Obj} {fd : FuncData} {body : List Stmt} (hroom : A.depth < recursionLimit) (ho : s.heap.get? a = some o)
    (hd' : o.data = .func fd) (hco : fd.scope.isCoroutine = false) (hgen : fd.scope.isGenerator = false) (hbody : fd.body = .stmts body) (hcd : s.heap.CodeRec fd.code fd.qualname)
    (h : wpAny (model prog w) A.in1 (bindArgs fd args) (fun binds s₁ =>
      wpAny (model prog w) A.in1 (newFunctionEnv fd.scope fd.globals fd.closure binds (fd.qualname ++ ".<locals>.") (some a) fd.code none fd.builtins)
        (fun env s₂ => s₂.heap.NoLimit ∧ codeR (model prog w) A (.func body env) R s₂) (fun e s' => R (.error e) s') s₁) (fun e s' => R (.error e) s') s) :
    codeR (model prog w) A (.call (.ref a) args) R s := by
  refine codeR_of_tree rfl (wpR_of ?_)
  show wpAny _ A.in1 (callAny (.ref a) args) _ _ s
  simp only [callAny]
  refine wpAny_bind (wpAny_load ho ?_)
  obtain ⟨c, oc, vs, tq, hc, hoc, hdc, hq⟩ := hcd
  simp only [hd', callFunction, hco, hgen, hbody, hc]
  rw [hc] at h
  refine wpAny_bind (m := field (.ref c) 1) (wpAny_field hoc hdc hq (wpAny_bind (wpAny_pure ?_)))
  exact wpAny_bind (wpAny_mono h (fun binds s₁ h₁ => wpAny_bind (wpAny_mono h₁ (fun env s₂ h₂ => wpAny_bind (wpAny_enterFrame h₂.1 hroom
    (wpAny_pure (And.intro rfl h₂.2)))) fun _ _ h' => h')) fun _ _ h' => h')

theorem codeR_whileLoop {test : Expr} {body orelse : List Stmt} {env : Env} (I : Nat → Shared → Prop)
    (turn : ∀ n s, I n s →
      wpAny (model prog w) A (isTrue test env (eval test env)) (fun b s₂ =>
        if b then wpR (model prog w) A (execs body env) (fun f s₃ => match f with
            | .next | .cont => ∃ m, m < n ∧ I m s₃
            | .brk => R (.ok .next) s₃
            | .ret v => R (.ok (.ret v)) s₃) (notedBy (model prog w) A env fun e s' => R (.error e) s') s₂
        else wpR (model prog w) A (execs orelse env) (fun f s₃ => R (.ok f) s₃) (notedBy (model prog w) A env fun e s' => R (.error e) s') s₂)
        (notedBy (model prog w) A env fun e s' => R (.error e) s') s)
    (n : Nat) (h : I n s) : codeR (model prog w) A (.whileLoop test body orelse env) R s := by
  refine codeR_loop rfl rfl I (fun n s hI => ?_) n h
  show wpR _ A ((whileTurn test body orelse env).onRaise (fun x => do noteFrame x env; theTreesLotGoes x)) _ _ s
  refine wpR_noted ?_
  simp only [whileTurn]
  refine wpR_then (wpAny_mono (turn n s hI) (fun b s₂ h₂ => ?_) fun _ _ h' => h')
  cases b with
  | false =>
    simp only [Bool.false_eq_true, if_false] at h₂ ⊢
    exact wpR_bind (wpR_mono h₂ (fun f s₃ h₃ => wpR_pure h₃) fun _ _ h' => h')
  | true =>
    simp only [if_true] at h₂ ⊢
    refine wpR_bind (wpR_mono h₂ (fun f s₃ h₃ => ?_) fun _ _ h' => h')
    cases f with
    | next => exact wpR_pure (.inl ⟨rfl, h₃⟩)
    | cont => exact wpR_pure (.inl ⟨rfl, h₃⟩)
    | brk => exact wpR_pure h₃
    | ret v => exact wpR_pure h₃

theorem codeR_forLoop {target : Expr} {it : Value} {body orelse : List Stmt} {env : Env} (I : Nat → Shared → Prop)
    (turn : ∀ n s, I n s → wpAny (model prog w) A (pyNext it) (fun r s₁ => match r with
      | none => wpAny (model prog w) A (execs orelse env) (fun f s₃ => R (.ok f) s₃) (notedBy (model prog w) A env fun e s' => R (.error e) s') s₁
      | some v => wpAny (model prog w) A (assign target env v) (fun _ s₂ => wpR (model prog w) A (execs body env) (fun f s₃ => match f with
          | .next | .cont => ∃ m, m < n ∧ I m s₃
          | .brk => R (.ok .next) s₃
          | .ret v => R (.ok (.ret v)) s₃) (notedBy (model prog w) A env fun e s' => R (.error e) s') s₂) (notedBy (model prog w) A env fun e s' => R (.error e) s') s₁) (notedBy (model prog w) A env fun e s' => R (.error e) s') s)
    (n : Nat) (h : I n s) (ht : ∀ v, letOwnedTupleGo target it v = pure () := by intro _; rfl) : codeR (model prog w) A (.forLoop target it body orelse env) R s := by
  refine codeR_loop rfl rfl I (fun n s hI => ?_) n h
  show wpR _ _ ((forTurn target it body orelse env).onRaise (fun x => do noteFrame x env; theTreesLotGoes x)) _ _ s
  refine wpR_noted ?_
  simp only [forTurn]
  refine wpR_then (wpAny_standAt (wpR_bind (wpR_of (wpAny_onRaise (wpAny_mono (turn n s hI) (fun r s₁ h₁ => ?_) fun _ _ h' => wpAny_standAt h')))))
  cases r with
  | none => exact wpR_pure (.inr ⟨rfl, codeR_of (codeAny_block h₁)⟩)
  | some v =>
    refine wpR_then (wpAny_of_eq (ht v) ?_)
    refine wpR_then (wpAny_mono h₁ (fun _ s₂ h₂ => wpR_bind (wpR_mono h₂ (fun f s₃ h₃ => ?_) fun _ _ h' => h')) fun _ _ h' => h')
    cases f with
    | next => exact wpR_pure (.inl ⟨rfl, h₃⟩)
    | cont => exact wpR_pure (.inl ⟨rfl, h₃⟩)
    | brk => exact wpR_pure h₃
    | ret v => exact wpR_pure h₃

theorem callWithR {P : Heap → Prop} {pos : Pos} {f : Value} {first : List Value} {args : List (Bool × Sem Value)} {Q : Value → Shared → Prop} (hplain : args.any (·.1) = false)
    (hk : ∀ h, P h → ∃ k, (k = Keeper.frame ∨ k = Keeper.machine ∨ k = Keeper.boundFrame) ∧ Looks (model prog w) h (keeperOf f) k)
    (h : wpAny (model prog w) A (evalArgs f true args []) (fun a s₁ => P s₁.heap ∧ wpR (model prog w) A (call f (first ++ a.pos) a.kw) Q E s₁) E s) : wpR (model prog w) A (callWith pos f first args []) Q E s := by
  unfold callWith
  refine wpR_then (wpAny_holding (wpAny_mono h (fun a s₁ h₁ => wpR_then (wpAny_standAt ?_)) fun _ _ x => x))
  obtain ⟨k, hk', L⟩ := hk _ h₁.1
  simp only [hplain, List.any_nil, Bool.or_false]
  refine wpR_then (L.here ?_)
  have tail : ∀ {t : Sem Value}, wpR (model prog w) A t Q E s₁ → wpR (model prog w) A (t >>= fun r => holding [r] point >>= fun _ => pure r) Q E s₁ :=
    fun ht => wpR_bind (wpR_mono ht (fun r s₂ hr => wpR_then (wpAny_holding (wpAny_point (wpR_pure hr)))) fun _ _ x => x)
  have marked (mk : Value) : wpR (model prog w) A (callMarked mk f (first ++ a.pos) a.kw) Q E s₁ := by unfold callMarked; exact wpR_keep h₁.2
  rcases hk' with rfl | rfl | rfl <;> dsimp only <;> first | exact tail h₁.2 | (split <;> first | exact tail h₁.2 | exact tail (marked _))
end

/-! the same judgements, in contexts without those codes -/
noncomputable def OKeR (W : Wd) (n : Nat) (sc : Scope) (e : Expr) (loc : Lc) (σ : St) (K : V → St → Prop) (X : St → Prop) : Prop :=
  ∀ A env ρ s E, Pre W n A ρ σ s → EnvOk W sc ρ s.heap env loc → EOk W A env ρ s X E → wpR W.M A (eval e env) (PV W ρ s K) E s
noncomputable def OKxR (W : Wd) (n : Nat) (sc : Scope) (st : Stmt) (loc : Lc) (σ : St) (K : Fl → Lc → St → Prop) (X : St → Prop) : Prop :=
  ∀ A env ρ s E, Pre W n A ρ σ s → EnvOk W sc ρ s.heap env loc → EOk W A env ρ s X E → wpR W.M A (exec st env) (PF W sc env ρ s K) E s
noncomputable def OKsR (W : Wd) (n : Nat) (sc : Scope) (ss : List Stmt) (loc : Lc) (σ : St) (K : Fl → Lc → St → Prop) (X : St → Prop) : Prop :=
  ∀ A env ρ s E, Pre W n A ρ σ s → EnvOk W sc ρ s.heap env loc → EOk W A env ρ s X E → wpR W.M A (execs ss env) (PF W sc env ρ s K) E s
noncomputable def OKdR (W : Wd) (n : Nat) (f : Value) (args : List V) (σ : St) (K : V → St → Prop) (X : St → Prop) : Prop :=
  ∀ A ρ s vs R, Pre W n A ρ σ s → Rps ρ s.heap args vs → (∀ v s', PV W ρ s K v s' → R (.ok (.ret v)) s') → EX W ρ s X (fun e s' => R (.error e) s') → codeR W.M A (.call f ⟨vs, []⟩) R s

section
variable {W : Wd} {n : Nat} {sc : Scope} {loc : Lc} {σ : St} {X : St → Prop} {K : Fl → Lc → St → Prop} {KV : V → St → Prop}

theorem OKx.r {st : Stmt} (h : OKx W n sc st loc σ K X) : OKxR W n sc st loc σ K X := fun A env ρ s E P N H => wpR_of (h A env ρ s E P N H)
theorem OKs.r {ss : List Stmt} (h : OKs W n sc ss loc σ K X) : OKsR W n sc ss loc σ K X := fun A env ρ s E P N H => wpR_of (h A env ρ s E P N H)
theorem OKe.r {e : Expr} (h : OKe W n sc e loc σ KV X) : OKeR W n sc e loc σ KV X := fun A env ρ s E P N H => wpR_of (h A env ρ s E P N H)
theorem OKd.r {f : Value} {args : List V} (h : OKd W n f args σ KV X) : OKdR W n f args σ KV X := fun A ρ s vs R P r HR H => codeR_of (h A ρ s vs R P r HR H)
theorem OKdR.mono {f : Value} {args : List V} {K' : V → St → Prop} (h : OKdR W n f args σ KV X) (hk : ∀ v σ', KV v σ' → K' v σ') : OKdR W n f args σ K' X :=
  fun A ρ s vs R P r HR H => h A ρ s vs R P r (fun v s' ⟨d, σ', ρ', k, q⟩ => HR v s' ⟨d, σ', ρ', hk _ _ k, q⟩) H
theorem OKdR.down {f : Value} {args : List V} {m : Nat} (h : OKdR W m f args σ KV X) (hm : m ≤ n) : OKdR W n f args σ KV X :=
  fun A ρ s vs R P r HR H => h A ρ s vs R (P.down hm) r HR H
theorem OKdR.drop {f : Value} {args : List V} (h : OKdR W n f args σ (DropOk σ KV) X) : OKdR W n f args σ KV X :=
  fun A ρ s vs R P r HR H => h A ρ s vs R P r (fun v s' p => HR v s' (p.drop P.inv)) H
theorem OKsR.gen {ss : List Stmt} (h : ∀ K' : Fl → Lc → St → Prop, (∀ f l σ', K f l σ' → K' f l σ') → OKsR W n sc ss loc σ K' X) : OKsR W n sc ss loc σ K X := h K fun _ _ _ x => x
theorem OKsR.sub {ss : List Stmt} {loc' : Lc} (h : OKsR W n sc ss loc' σ K X) (hs : ∀ x v, loc'.lookup x = some v → loc.lookup x = some v) : OKsR W n sc ss loc σ K X :=
  fun A env ρ s E P N H => h A env ρ s E P (N.sub hs) H

theorem r_def {f : Addr} {oc od : _} {osl : Array (Option Value)} {name qual : Str} {params : Arguments} {body : List Stmt} {scope : Scope} {dV kV doc pm : Value} {an : Option Addr} {cdv ct : Value} {args : List V} (names : List Str)
    (ho : W.K.lookup f = some ⟨oc, od, .func (fnOf name qual params body scope dV kV doc pm an cdv ct), osl⟩) (hcd : codeIn W.K cdv qual = true)
    (hl : names.length = args.length)
    (hb : ∀ vs : List Value, vs.length = args.length → bindArgs (fnOf name qual params body scope dV kV doc pm an cdv ct) ⟨vs, []⟩ = pure (names.zip vs))
    (hy : ∀ y ∈ names, scope.names.lookup y = some .local ∨ scope.names.lookup y = some .cell)
    (h : OKsR W n scope body (names.zip args).reverse σ (fun fl _ σ' => KV (flv fl) σ') X)
    (hco : scope.isCoroutine = false := by rfl) (hgen : scope.isGenerator = false := by rfl) (hk : scope.kind = .function := by rfl) : OKdR W (n + 1) (.ref f) args σ KV X := by
  intro A ρ s vs R P r HR H
  refine codeR_call_function (fd := fnOf name qual params body scope dV kV doc pm an cdv ct) (body := body) P.d (P.kin _ _ ho) rfl hco hgen rfl (codeRec_of P.kin hcd) ?_
  refine def_core names hl (fun s vs _ h => BindsTo.of_eq (hb vs h)) hy hk P r fun env s₁ P₁ N₁ up lv => codeR_func ?_
  refine wpR_mono (h (A.deeper env) env ρ s₁ _ P₁ N₁ ⟨PassesOwn.leaving (Q₁ := fun e s'' => R (.error e) s'') (E₁ := fun e' s'' => R (.error e') s''), fun e σ' ρ' s' hx t I fl => lv e σ' ρ' s' _ _ t I fl fun h' tt IY fY => H e σ' ρ' _ hx tt IY fY⟩)
    (fun fl s' q_ => q_.elim fun fl' _ σ' ρ' k t I N rf => HR _ _ ⟨flv fl', σ', ρ', k, up _ _ t, I, flv_rp rf⟩) fun _ _ x => x

theorem r_cons {st : Stmt} {r : List Stmt} (h : OKxR W n sc st loc σ (Then (fun l σ₁ => OKsR W n sc r l σ₁ K X) K) X) : OKsR W n sc (st :: r) loc σ K X := by
  intro A env ρ s E P N H
  rw [execs_cons]
  refine wpR_bind (wpR_mono (h A env ρ s E P N H) (fun f s₁ q_ => q_.elim fun fl l₁ σ₁ ρ₁ k₁ t₁ I₁ N₁ r₁ => ?_) fun _ _ x => x)
  cases fl with
  | next =>
    unfold FlR at r₁; subst r₁
    exact wpR_mono (k₁ A env ρ₁ s₁ E (P.step t₁ I₁) N₁ (H.step t₁)) (fun _ _ p => p.lift t₁) fun _ _ x => x
  | brk => unfold FlR at r₁; subst r₁; exact wpR_pure (.of k₁ t₁ I₁ N₁ rfl)
  | cont => unfold FlR at r₁; subst r₁; exact wpR_pure (.of k₁ t₁ I₁ N₁ rfl)
  | ret v => unfold FlR at r₁; obtain ⟨x, rfl, q⟩ := r₁; exact wpR_pure (.of k₁ t₁ I₁ N₁ ⟨x, rfl, q⟩)
theorem r_ret {e : Expr} {pos : Pos} (h : OKeR W n sc e loc σ (fun v σ₁ => K (.ret v) loc σ₁) X) : OKxR W n sc (.Return (some e) pos) loc σ K X := fun A env ρ s E P N H => by
  rw [exec_Return_some]
  exact wpR_then (wpAny_standAt (wpR_bind (wpR_mono (h A env ρ s E P N H) (fun x _ q_ => q_.elim fun _ _ _ k t I r => wpR_pure (.of k t.weak I (N.step t) ⟨x, rfl, r⟩)) fun _ _ x => x)))
theorem r_expr {e : Expr} {pos : Pos} (h : OKeR W n sc e loc σ (fun _ σ₁ => K .next loc σ₁) X) (hs : ∀ env, swapsWith e none pos.line env = pure false := by intro _; rfl) : OKxR W n sc (.Expr e pos) loc σ K X := by
  intro A env ρ s E P N H
  have hi : interactive env = false := by unfold interactive; rw [N.hk]; rfl
  rw [exec_Expr env e pos hi (hs env)]
  exact wpR_then (wpAny_standAt (wpR_bind (wpR_mono (h A env ρ s E P N H) (fun x _ q_ => q_.elim fun _ _ _ k t I r => wpR_of (wpAny_dropValue (.of k t.weak I (N.step t) rfl))) fun _ _ x => x)))
theorem r_if {t : Expr} {b o : List Stmt} {pos : Pos} (h : OKb W n sc t loc σ (fun c σ₁ => (c = true → OKsR W n sc b loc σ₁ K X) ∧ (c = false → OKsR W n sc o loc σ₁ K X)) X) : OKxR W n sc (.If t b o pos) loc σ K X := by
  intro A env ρ s E P N H
  rw [exec_If]
  refine wpR_then (wpAny_standAt (wpR_then (wpAny_mono (h A env ρ s E P N H) (fun c s₁ q_ => ex5 q_ fun σ₁ ρ₁ k₁ t₁ I₁ => ?_) fun _ _ x => x)))
  cases c with
  | true => exact wpR_mono (k₁.1 rfl A env ρ₁ s₁ E (P.step t₁ I₁) (N.step t₁) (H.step0 t₁)) (fun _ _ p => p.lift t₁.weak) fun _ _ x => x
  | false => exact wpR_mono (k₁.2 rfl A env ρ₁ s₁ E (P.step t₁ I₁) (N.step t₁) (H.step0 t₁)) (fun _ _ p => p.lift t₁.weak) fun _ _ x => x
theorem r_while {test : Expr} {body : List Stmt} {pos : Pos} (I : Nat → Lc → St → Prop) (k₀ : Nat) (i0 : I k₀ loc σ)
    (turn : ∀ J : Nat → Fl → Lc → St → Prop, (∀ k f l σ', Loop (fun l' σ'' => ∃ m, m < k ∧ I m l' σ'') K f l σ' → J k f l σ') → ∀ k l σ', I k l σ' → OKb W n sc test l σ' (fun b σ₁ => (b = true → OKsR W n sc body l σ₁ (J k) X) ∧
      (b = false → K .next l σ₁)) X) : OKxR W n sc (.While test body [] pos) loc σ K X := by
  intro A env ρ s E P N H
  rw [exec_While]
  refine wpR_then (wpAny_standAt (wpR_runOwn ?_))
  refine codeR_whileLoop (fun m s' => ∃ l σ' ρ', I m l σ' ∧ Stp (own env) ρ s ρ' s' ∧ Inv W ρ' σ' s'.heap ∧ EnvOk W sc ρ' s'.heap env l) ?_ k₀ ⟨loc, σ, ρ, i0, Stp.refl _ _, P.inv, N⟩
  rintro m s' ⟨l, σ', ρ', im, t, I', N'⟩
  refine wpAny_passesOwn H.pass (wpAny_mono (turn (fun k => Loop (fun l' σ'' => ∃ m, m < k ∧ I m l' σ'') K) (fun _ _ _ _ x => x) m l σ' im A env ρ' s' E (P.step t I') N' (H.step t)) (fun b s₁ q_ => ex5 q_ fun σ₁ ρ₁ kk t₁ I₁ => ?_) fun _ _ x => x)
  have t₂ := t.tr t₁.weak
  cases b with
  | false =>
    simp only [Bool.false_eq_true, if_false]
    exact wpR_of (wpAny_execs_nil (.of (kk.2 rfl) t₂ I₁ (N'.step t₁) rfl))
  | true =>
    simp only [if_true]
    refine wpR_passesOwn H.pass (wpR_mono (kk.1 rfl A env ρ₁ s₁ E (P.step t₂ I₁) (N'.step t₁) (H.step t₂)) (fun f s₅ q_ => q_.elim fun fl l' σ₅ ρ₅ kk t₆ I₆ N₆ rf => ?_) fun _ _ x => x)
    cases fl with
    | next => unfold FlR at rf; subst rf; obtain ⟨m', hm, im'⟩ := kk; exact ⟨m', hm, l', σ₅, ρ₅, im', t₂.tr t₆, I₆, N₆⟩
    | cont => unfold FlR at rf; subst rf; obtain ⟨m', hm, im'⟩ := kk; exact ⟨m', hm, l', σ₅, ρ₅, im', t₂.tr t₆, I₆, N₆⟩
    | brk => unfold FlR at rf; subst rf; exact .of kk (t₂.tr t₆) I₆ N₆ rfl
    | ret z => unfold FlR at rf; obtain ⟨q, rfl, rq⟩ := rf; exact .of kk (t₂.tr t₆) I₆ N₆ ⟨q, rfl, rq⟩
/-- what follows the value that a for goes over -/
noncomputable def ForOkR (W : Wd) (n : Nat) (sc : Scope) (x : Str) (body : List Stmt) (loc : Lc) (K : Fl → Lc → St → Prop) (X : St → Prop) (v : V) (σ₁ : St) : Prop :=
  ∃ vs, ∃ I : Nat → Lc → St → Prop, I 0 loc σ₁ ∧ (∀ k l σ', I k l σ' → Elems σ' v vs) ∧
      (∀ J : Nat → Fl → Lc → St → Prop, (∀ k f l σ', Loop (I (k + 1)) K f l σ' → J k f l σ') → ∀ k l σ' y, I k l σ' → vs[k]? = some y → OKsR W n sc body ((x, y) :: l) σ' (J k) X) ∧
      (∀ l σ', I vs.length l σ' → K .next l σ')
theorem r_for {x : Str} {px pos : Pos} {iter : Expr} {body : List Stmt}
    (h : OKe W n sc iter loc σ (ForOkR W n sc x body loc K X) X)
    (hx : sc.names.lookup x = some .local ∨ sc.names.lookup x = some .cell := by first | exact .inl rfl | exact .inr rfl)
    (hs : ∀ env v, foldedSetIterable iter env v = pure v := by intro _ _; rfl) : OKxR W n sc (.For (.Name x px) iter body [] pos) loc σ K X := by
  intro A env ρ s E P N H
  rw [exec_For]
  refine wpR_then (wpAny_standAt (wpR_then (wpAny_mono (h A env ρ s E P N H) (fun val s₁ q_ => q_.elim fun v σ₁ ρ₁ hk_ t₁ I₁ r₁ => ?_) fun _ _ x => x)))
  obtain ⟨vs, I, i0, ie, it, iz⟩ := hk_
  have it := it (fun k => Loop (I (k + 1)) K) fun _ _ _ _ x => x
  refine wpR_then (wpAny_of_eq (hs env val) (wpR_then (wpAny_standAt (wpR_then (wpAny_holding ?_)))))
  refine wpAny_mono (it_start (P.step t₁ I₁) (ie _ _ _ i0) r₁) (fun b s₂ ⟨a, ea, t₂, I₂, J₂, hf⟩ => wpR_runOwn ?_) fun _ _ x => x
  subst ea
  have N₁ := N.step t₁
  have hao := own_old N₁ hf
  have hfs : s.heap.get? a = none := by
    cases q : s.heap.get? a with
    | none => rfl
    | some o => obtain ⟨o', e⟩ := t₁.ex a o q; rw [hf] at e; cases e
  refine codeR_forLoop (fun m s' => ∃ k l σ' ρ', m = vs.length - k ∧ k ≤ vs.length ∧ I k l σ' ∧ Stp (own env) ρ s ρ' s' ∧ Inv W ρ' σ' s'.heap ∧ EnvOk W sc ρ' s'.heap env l ∧ ItJ W ρ' s'.heap a v k) ?_ vs.length
    ⟨0, loc, σ₁, ρ₁, rfl, Nat.zero_le _, i0, (t₁.tr t₂).weak, I₂, N₁.step t₂, J₂⟩
  rintro m s' ⟨k, l, σ', ρ', rfl, hk, ik, t, I', N', J⟩
  have P' := P.step t I'
  have D := J.1
  have D0 := J.2.1
  cases hv : vs[k]? with
  | none =>
    refine wpAny_passesOwn H.pass (wpAny_mono (it_end P' (ie _ _ _ ik) J hv) (fun r s₃ ⟨e, T⟩ => ?_) fun _ _ x => x)
    subst e
    have hkk : k = vs.length := by
      have := List.getElem?_eq_none_iff.mp hv
      omega
    subst hkk
    exact wpAny_execs_nil (.of (iz _ _ ik) (T.stp t hfs) (T.inv I' D D0) (T.env N' hao) rfl)
  | some y =>
    have hkl := (List.getElem?_eq_some_iff.mp hv).1
    refine wpAny_passesOwn H.pass (wpAny_mono (it_next P' (ie _ _ _ ik) J hv) (fun r s₃ ⟨val, e, T, ry, J₃⟩ => ?_) fun _ _ x => x)
    subst e
    have t₃ := T.stp t hfs
    refine wpAny_passesOwn H.pass (wpAny_assign_Name (store_any (T.inv I' D D0) (T.env N' hao) ry hx fun s₄ t₄ I₄ N₄ => ?_))
    have t₅ := t₃.tr t₄
    have J₄ := J₃.step t₄ hao
    refine wpR_passesOwn H.pass (wpR_mono (it k l σ' y ik hv A env ρ' s₄ E (P.step t₅ I₄) N₄ (H.step t₅)) (fun f s₅ q_ => q_.elim fun fl l' σ₅ ρ₅ kk t₆ I₆ N₆ rf => ?_) fun _ _ x => x)
    cases fl with
    | next => unfold FlR at rf; subst rf; exact ⟨_, by omega, k + 1, l', σ₅, ρ₅, rfl, hkl, kk, t₅.tr t₆, I₆, N₆, J₄.step t₆ hao⟩
    | cont => unfold FlR at rf; subst rf; exact ⟨_, by omega, k + 1, l', σ₅, ρ₅, rfl, hkl, kk, t₅.tr t₆, I₆, N₆, J₄.step t₆ hao⟩
    | brk => unfold FlR at rf; subst rf; exact .of kk (t₅.tr t₆) I₆ N₆ rfl
    | ret z => unfold FlR at rf; obtain ⟨q, rfl, rq⟩ := rf; exact .of kk (t₅.tr t₆) I₆ N₆ ⟨q, rfl, rq⟩

theorem callWith_r {A : Around} {E : Value → Shared → Prop} {s : Shared} {f : Value} {first : List Value} {pos : Pos} {env : Env} {es : List Expr} {Q : Value → Shared → Prop}
    (hk : keepOk W.K f = true) (hp : (es.all fun e => match e with | .Starred .. => false | _ => true) = true)
    (h : wpAny W.M A (spliced (backTo pos (starEach es env))) (fun vs s' => W.K.In s'.heap ∧ wpR W.M A (call f (first ++ vs)) Q E s') E s) : wpR W.M A (callWith pos f first (backTo pos (starEach es env)) []) Q E s :=
  callWithR (plain_backTo hp) (keeps_any hk) (evalArgs_any hp h)
theorem r_call {x : Str} {p pos : Pos} {es : List Expr} (f : Value) (hg : glb W x = some f) (h : OKa W n sc es loc σ (fun vs σ₁ => OKdR W n f vs σ₁ KV X) X)
    (hk : keepOk W.K f = true := by rfl) (hsc : sc.names.lookup x = some .globalImplicit := by rfl)
    (hp : (es.all fun e => match e with | .Starred .. => false | _ => true) = true := by rfl) (hd : (x == ("__debug__" : Str)) = false := by decide) :
    OKeR W n sc (.Call (.Name x p) es [] pos) loc σ KV X := by
  intro A env ρ s E P N H
  rw [arm_eval_Call_Name']
  refine wpR_then (load_glb P N hsc hg ?_ hd)
  refine callWith_r hk hp (wpAny_mono (h A env ρ s E pos P N H) (fun vs s₁ q_ => q_.elim fun ds σ₁ ρ₁ k₁ t₁ I₁ r₁ => ⟨I₁.kin, ?_⟩) fun _ _ x => x)
  exact wpR_call (k₁ A ρ₁ s₁ vs _ (P.step t₁ I₁) r₁ (fun _ _ p => p.lift t₁) (H.toEX.step t₁))
theorem r_callm {o : Expr} {name : Str} {ap pos : Pos} {es : List Expr} {pl : Env → Sem Bool}
    (h : OKe W n sc o loc σ (fun ov σ₁ => ∃ f, OKm W n ov name σ₁ f ∧ keepOk W.K f = true ∧ OKa W n sc es loc σ₁ (fun vs σ₂ => OKdR W n f (ov :: vs) σ₂ KV X) X) X)
    (he : ∀ env, eval (.Call (.Attribute o name ap) es [] pos) env = (do
      let ov ← eval o env
      standAt ap.atName
      let (f, first) ← holding [ov] (getMethod ov name (pl env))
      callWith pos f first (backTo pos (starEach es env)) []) := by intro _; rfl)
    (hp : (es.all fun e => match e with | .Starred .. => false | _ => true) = true := by rfl) :
    OKeR W n sc (.Call (.Attribute o name ap) es [] pos) loc σ KV X := by
  intro A env ρ s E P N H
  rw [he]
  refine wpR_then (wpAny_mono (h A env ρ s E P N H) (fun v s₁ q_ => q_.elim fun ov σ₁ ρ₁ k₁ t₁ I₁ r₁ => ?_) fun _ _ x => x)
  obtain ⟨f, hm, hk, ha⟩ := k₁
  refine wpR_then (wpAny_standAt (wpR_then (wpAny_holding (hm A ρ₁ s₁ v _ _ _ (P.step t₁ I₁) r₁ ?_))))
  show wpR _ _ (callWith pos f [v] _ []) _ _ _
  refine callWith_r hk hp (wpAny_mono (ha A env ρ₁ s₁ E pos (P.step t₁ I₁) (N.step t₁) (H.step0 t₁)) (fun vs s₂ q_ => q_.elim fun ds σ₂ ρ₂ k₂ t₂ I₂ r₂ => ⟨I₂.kin, ?_⟩) fun _ _ x => x)
  have t := t₁.tr t₂
  exact wpR_call (k₂ A ρ₂ s₂ (v :: vs) _ (P.step t I₂) (Rps.cons (t₂.rp r₁) r₂) (fun _ _ p => p.lift t) (H.toEX.step t))
theorem r_cmp {l r : Expr} {op : CmpOp} {pos : Pos} (h : OKeR W n sc l loc σ (fun a σ₁ => OKe W n sc r loc σ₁ (fun b σ₂ => OKt W n (cmpT op) [a, b] σ₂ KV X) X) X)
    (hm : behindInMarks op r = false := by with_unfolding_all rfl) : OKeR W n sc (.Compare l [op] [r] pos) loc σ KV X := by
  intro A env ρ s E P N H
  rw [eval_Compare1, markedBehindIn_of_false hm]
  refine wpR_bind (wpR_mono (h A env ρ s E P N H) (fun va s₁ q_ => q_.elim fun a σ₁ ρ₁ k₁ t₁ I₁ r₁ => wpR_of ?_) fun _ _ x => x)
  refine wpAny_bind (wpAny_holding (wpAny_mono (k₁ A env ρ₁ s₁ E (P.step t₁ I₁) (N.step t₁) (H.step0 t₁)) (fun vb s₂ q_ => q_.elim fun b σ₂ ρ₂ k₂ t₂ I₂ r₂ => ?_) fun _ _ x => x))
  have t := t₁.tr t₂
  exact wpAny_bind (wpAny_standAt (wpAny_operating (wpAny_mono (k₂ A ρ₂ s₂ [va, vb] E (P.step t I₂) (Rps.cons (t₂.rp r₁) (Rps.one r₂)) (H.toEX.step t)) (fun _ _ p => p.lift t) fun _ _ x => x)))
end

end Mine
end

section
namespace Mine
open PySem PySem.W PySem.Calls PyProof.Rows
open Sem (wp)

theorem bIds_not {id : String} (h : quietB (.builtin id args) = true) : id ∉ Builtin.Bytes.decodersThatHold ∧ id ∉ ["bytearray.__contains__", "bytearray.__mod__", "bytearray.__rmod__", "_struct.pack_into.held", "bytearray.find.held"] := by
  unfold quietB bIds at h
  simp only [List.contains_eq_mem, Bool.not_eq_true', decide_eq_false_iff_not, List.mem_append, not_or] at h
  exact h

theorem exported_no {M : Model} {A : Around} {E : Value → Shared → Prop} {s : Shared} {self : Value} {Q : Bool → Shared → Prop} (h : Q false s) : wpR M A (Builtin.Bytes.exported self) Q E s := by
  intro Γ p hΓ h1 h2
  show Q (((Γ.code, p) :: Γ.below).any _) s
  rw [show ((Γ.code, p) :: Γ.below).any _ = false from ?_]
  · exact h
  · rw [List.any_eq_false]
    rintro ⟨c, q⟩ hx
    have hq : quietB c = true := by
      rcases List.mem_cons.mp hx with e | hx
      · cases e; exact h1
      · exact h2 _ hx
    rw [Bool.not_eq_true]
    cases c with
    | builtin id args =>
      have n := bIds_not hq
      have ne : ∀ x, x ∈ (["bytearray.__contains__", "bytearray.__mod__", "bytearray.__rmod__", "_struct.pack_into.held", "bytearray.find.held"] : List String) → id ≠ x := fun x hx e => n.2 (e ▸ hx)
      have n1 := ne _ (List.mem_of_getElem? (i := 0) rfl)
      have n2 := ne _ (List.mem_of_getElem? (i := 1) rfl)
      have n3 := ne _ (List.mem_of_getElem? (i := 2) rfl)
      have n4 := ne _ (List.mem_of_getElem? (i := 3) rfl)
      have n5 := ne _ (List.mem_of_getElem? (i := 4) rfl)
      obtain ⟨pos, kw⟩ := args
      have n6 : ∀ v, (Builtin.Bytes.sameRef v self && Builtin.Bytes.decodersThatHold.contains id) = false := fun v => by
        rw [Bool.and_eq_false_iff]
        right
        simp only [List.contains_eq_mem, decide_eq_false_iff_not]
        exact n.1
      delta Builtin.Bytes.exported.match_1
      cases pos with
      | nil => simp only [dif_neg n1, dif_neg n2, dif_neg n3, dif_neg n4, dif_neg n5]
      | cons v r => simp only [dif_neg n1, dif_neg n2, dif_neg n3, dif_neg n4, dif_neg n5, n6]
    | _ => rfl

section
variable {prog : Program} {w : World} {A : Around} {E : Value → Shared → Prop} {R : Result → Shared → Prop} {s : Shared}
theorem codeR_builtin {id : String} {args : Args} {b : Builtin} (hq : quietB (.builtin id args) = true) (hb : entryFor table id = some b)
    (h : wpR (model prog w) (A.under (.builtin id args)) (b args)
      (fun fin s' => match fin with | .done f => R (.ok f) s' | .again c' => c'.quiet = true ∧ codeR (model prog w) A c' R s') (fun e s' => R (.error e) s') s) : codeR (model prog w) A (.builtin id args) R s := by
  refine codeR_of_tree hq ?_
  show wpR _ _ (match entryFor table id with | some b => b args | none => unsupported ((withoutEnding? id "#data").getD id)) _ _ s
  rw [hb]; exact h
theorem codeR_call_builtin {id : String} {args : Args} {b : Builtin} (hq : plainId id = true) (hq' : bIds.contains id = false) (hb : entryFor table id = some b)
    (h : wpAny (model prog w) A.in1 (checkBuiltinCall id args) (fun _ s₁ => wpR (model prog w) A.in1 (b args)
      (fun fin s' => match fin with | .done f => R (.ok f) s' | .again c' => c'.quiet = true ∧ codeR (model prog w) A c' R s') (fun e s' => R (.error e) s') s₁)
      (fun e s' => R (.error e) s') s) : codeR (model prog w) A (.call (.builtin id) args) R s := by
  refine codeR_of_tree rfl (wpR_of ?_)
  show wpAny _ A.in1 (do checkBuiltinCall id args; again (.builtin id args)) _ _ s
  refine wpAny_bind (wpAny_mono h (fun _ s₁ h₁ => wpAny_pure (And.intro (plainId_quiet hq args) (codeR_builtin (by show (!bIds.contains id) = true; rw [hq']; rfl) hb ?_))) fun _ _ h' => h')
  rw [Around.under_plainId hq args]
  exact h₁
theorem exportsOf_no {M : Model} {a : Addr} {b : Array UInt8} {o : Obj} {Q : Nat → Shared → Prop} (ho : s.heap.get? a = some o) (hd : o.data = .bytearray b 0) (h : Q 0 s) : wpAny M A (Builtin.Bytes.exportsOf (.ref a)) Q E s := by
  show wpAny M A (load a >>= _) Q E s
  refine wpAny_bind (wpAny_load ho ?_)
  rw [hd]
  exact wpAny_pure h
theorem checkResize_ok {M : Model} {a : Addr} {b : Array UInt8} {o : Obj} {Q : Unit → Shared → Prop} (ho : s.heap.get? a = some o) (hd : o.data = .bytearray b 0) (h : Q () s) : wpR M A (Builtin.Bytes.checkResize (.ref a)) Q E s := by
  unfold Builtin.Bytes.checkResize
  refine wpR_bind ?_
  unfold orM
  refine wpR_bind (exported_no (wpR_of ?_))
  show wpAny M A (do let n ← Builtin.Bytes.exportsOf (.ref a); pure (decide (n > 0))) _ _ s
  refine wpAny_bind (exportsOf_no ho hd (wpAny_pure ?_))
  exact wpR_of (wpAny_pure h)
theorem write_ok {M : Model} {a : Addr} {b : Array UInt8} {f : Array UInt8 → Array UInt8} {Q : Unit → Shared → Prop} (ho : s.heap.get? a = some { cls := .type "bytearray", data := .bytearray b 0 }) (hz : (f b).size ≤ 1000000)
    (h : ∀ h', h'.get? a = some { cls := .type "bytearray", data := .bytearray (f b) 0 } → Heap.SameBut a s.heap h' → Q () { s with heap := h' }) : wpAny M A (Builtin.Bytes.write (.ref a) f) Q E s := by
  show wpAny M A (updateBytearray a f) Q E s
  unfold updateBytearray
  refine wpAny_bind (wpAny_load ho (wpAny_bind (wpAny_update ho ?_)))
  have hg : (s.heap.update a (Obj.mapBytearray f)).get? a = some { cls := .type "bytearray", data := .bytearray (f b) 0 } := Heap.get?_update_self _ ho rfl
  refine wpAny_lookBehind hg ?_ (h _ hg (Heap.SameBut.update ..))
  unfold Data.pastItsLine
  simp only
  rw [if_neg (by rw [sizeLine_eq]; omega)]
end
end Mine
end

section
set_option maxRecDepth 100000
namespace Mine
open PySem PySem.W PySem.Calls PyProof.Rows
open Sem (wp)

theorem ba_mro : mroOf (.type "bytearray") = pure [.type "bytearray", .type "object"] := by rw [mroOf_type]; kernel_rfl
theorem ba_lookup_new : typeLookup (.type "bytearray") "__new__" = pure (some (.builtin "bytearray.__new__")) := by rw [typeLookup_type, builtinLookup_eq_fast]; kernel_rfl
theorem ba_slot_init : Slot "bytearray" "__init__" "bytearray.__init__" :=
  .of (owner := "bytearray") (n := "__init__") (by rw [typeLookup_type, builtinLookup_eq_fast]; kernel_rfl) (by decide +kernel) (by decide +kernel) (by decide +kernel)
    (by first | exact .inl (by decide +kernel) | exact .inr (by decide +kernel)) (by rw [isSubtype_type]; kernel_rfl)
theorem ba_called : TypeCalled "bytearray" "bytearray.__new__" "bytearray.__init__" :=
  ⟨by decide +kernel, by decide +kernel, ⟨_, _, ba_mro⟩, madeBy_type ba_mro ba_lookup_new (by decide +kernel), by decide +kernel, by rw [isSubtype_type]; kernel_rfl, ba_slot_init⟩
theorem ba_typeCall : checkTypeCall "bytearray" ⟨[], []⟩ = pure () := by kernel_rfl
theorem ba_newCall : checkBuiltinCall "bytearray.__new__" ⟨[.type "bytearray"], []⟩ = pure () := by kernel_rfl
theorem ba_entry_new : entryFor table "bytearray.__new__" = some Builtin.«list.__new__» := entryFor_alias (id' := "list.__new__") (by kernel_rfl) rfl (by decide +kernel) (by kernel_rfl)
theorem ba_plain_new : plainId "bytearray.__new__" = true := by decide +kernel
theorem ba_entry_init : entryFor table "bytearray.__init__" = some Builtin.«bytearray.__init__» := by first | exact entryFor_of_fast (by kernel_rfl) | exact entryFor_of_tree (by kernel_rfl)
theorem ba_args_init (a : Value) : argsOk "bytearray.__init__" ⟨[a], []⟩ := by unfold argsOk; kernel_rfl
theorem ba_sub : isSubtype (.type "bytearray") (.type "bytearray") = pure true := by rw [isSubtype_type]; kernel_rfl
set_option maxRecDepth 1000000 in
set_option maxHeartbeats 4000000 in
theorem ba_owner_new : ("bytearray.__new__".splitOn ".__new__").headD "" = "bytearray" := by simp +decide [String.splitOn, String.splitOnAux]

theorem ba_slot_append : Slot "bytearray" "append" "bytearray.append" :=
  .of (owner := "bytearray") (n := "append") (by rw [typeLookup_type, builtinLookup_eq_fast]; kernel_rfl) (by decide +kernel) (by decide +kernel) (by decide +kernel)
    (by first | exact .inl (by decide +kernel) | exact .inr (by decide +kernel)) (by rw [isSubtype_type]; kernel_rfl)
theorem ba_type_append : typeOf (.builtin "bytearray.append") = pure (.type "method_descriptor") := by show builtinType _ = _; rw [builtinType_eq_fast]; kernel_rfl
theorem ba_entry_append : entryFor table "bytearray.append" = some Builtin.«bytearray.append» := by first | exact entryFor_of_fast (by kernel_rfl) | exact entryFor_of_tree (by kernel_rfl)
theorem ba_args_append (a b : Value) : argsOk "bytearray.append" ⟨[a, b], []⟩ := by unfold argsOk; kernel_rfl
theorem ba_slot_extend : Slot "bytearray" "extend" "bytearray.extend" :=
  .of (owner := "bytearray") (n := "extend") (by rw [typeLookup_type, builtinLookup_eq_fast]; kernel_rfl) (by decide +kernel) (by decide +kernel) (by decide +kernel)
    (by first | exact .inl (by decide +kernel) | exact .inr (by decide +kernel)) (by rw [isSubtype_type]; kernel_rfl)
theorem ba_type_extend : typeOf (.builtin "bytearray.extend") = pure (.type "method_descriptor") := by show builtinType _ = _; rw [builtinType_eq_fast]; kernel_rfl
theorem ba_entry_extend : entryFor table "bytearray.extend" = some Builtin.«bytearray.extend» := by first | exact entryFor_of_fast (by kernel_rfl) | exact entryFor_of_tree (by kernel_rfl)
theorem ba_args_extend (a b : Value) : argsOk "bytearray.extend" ⟨[a, b], []⟩ := by unfold argsOk; kernel_rfl
theorem ba_slot_len : Slot "bytearray" "__len__" "bytearray.__len__" :=
  .of (owner := "bytearray") (n := "__len__") (by rw [typeLookup_type, builtinLookup_eq_fast]; kernel_rfl) (by decide +kernel) (by decide +kernel) (by decide +kernel)
    (by first | exact .inl (by decide +kernel) | exact .inr (by decide +kernel)) (by rw [isSubtype_type]; kernel_rfl)
theorem ba_entry_len : entryFor table "bytearray.__len__" = some Builtin.«bytearray.__len__» := by first | exact entryFor_of_fast (by kernel_rfl) | exact entryFor_of_tree (by kernel_rfl)
theorem ba_args_len (a : Value) : argsOk "bytearray.__len__" ⟨[a], []⟩ := by unfold argsOk; kernel_rfl
theorem ba_slot_getitem : Slot "bytearray" "__getitem__" "bytearray.__getitem__" :=
  .of (owner := "bytearray") (n := "__getitem__") (by rw [typeLookup_type, builtinLookup_eq_fast]; kernel_rfl) (by decide +kernel) (by decide +kernel) (by decide +kernel)
    (by first | exact .inl (by decide +kernel) | exact .inr (by decide +kernel)) (by rw [isSubtype_type]; kernel_rfl)
theorem ba_entry_getitem : entryFor table "bytearray.__getitem__" = some Builtin.«bytearray.__getitem__» := by first | exact entryFor_of_fast (by kernel_rfl) | exact entryFor_of_tree (by kernel_rfl)
theorem ba_args_getitem (a b : Value) : argsOk "bytearray.__getitem__" ⟨[a, b], []⟩ := by unfold argsOk; kernel_rfl
theorem ba_plain : PlainAttrs "bytearray" :=
  ⟨⟨"bytearray.__getattribute__", by rw [typeLookup_type, builtinLookup_eq_fast]; kernel_rfl, by decide +kernel⟩, by rw [typeLookup_type, builtinLookup_eq_fast]; kernel_rfl⟩
theorem ba_buffer : typeLookup (.type "bytearray") "__buffer__" = pure (some (.builtin "bytearray.__buffer__")) := by rw [typeLookup_type, builtinLookup_eq_fast]; kernel_rfl
theorem ba_release : typeLookup (.type "bytearray") "__release_buffer__" = pure (some (.builtin "bytearray.__release_buffer__")) := by rw [typeLookup_type, builtinLookup_eq_fast]; kernel_rfl
theorem ba_no_bytes : typeLookup (.type "bytearray") "__bytes__" = pure none := by rw [typeLookup_type, builtinLookup_eq_fast]; kernel_rfl
theorem ba_no_index : typeLookup (.type "bytearray") "__index__" = pure none := by rw [typeLookup_type, builtinLookup_eq_fast]; kernel_rfl
theorem ba_bind0 : Builtin.Bytes.bindOptional "bytearray.__init__" "bytearray" ["source", "encoding", "errors"] [] [] = pure [none, none, none] := by kernel_rfl
theorem by_bytes : typeLookup (.type "bytes") "__bytes__" = pure (some (.builtin "bytes.__bytes__")) := by rw [typeLookup_type, builtinLookup_eq_fast]; kernel_rfl
theorem ba_list : bIds.contains "bytearray.append" = false ∧ bIds.contains "bytearray.extend" = false ∧ bIds.contains "bytearray.__init__" = false := by decide +kernel

section
variable {prog : Program} {w : World} {A : Around} {E : Value → Shared → Prop} {R : Result → Shared → Prop} {s : Shared} {a : Addr} {b : Array UInt8}
noncomputable abbrev BA (h : Heap) (a : Addr) (b : Array UInt8) : Prop := h.get? a = some { cls := .type "bytearray", data := .bytearray b 0 }
theorem BA.typeIs (x : BA s.heap a b) : s.TypeIs (.ref a) "bytearray" := ⟨_, x, rfl⟩
theorem ba_payload {Q : Array UInt8 → Shared → Prop} {M : Model} (x : BA s.heap a b) (h : Q b s) : wpAny M A (Builtin.Bytes.payload (.ref a)) Q E s := by
  unfold Builtin.Bytes.payload
  refine wpAny_bind ?_
  show wpAny M A (load a >>= _) _ E s
  exact wpAny_bind (wpAny_load x (wpAny_pure (wpAny_pure h)))

theorem ba_append {k : Int} {t : Tok} (x : BA s.heap a b) (h0 : 0 ≤ k) (h1 : k < 256) (hz : b.size < 1000000)
    (h : ∀ h', BA h' a (b.push k.toNat.toUInt8) → Heap.SameBut a s.heap h' → R (.ok (.ret .none)) { s with heap := h' }) : codeR (model prog w) A (.call (.builtin "bytearray.append") ⟨[.ref a, .int k t], []⟩) R s := by
  refine codeR_call_builtin ba_slot_append.plain ba_list.1 ba_entry_append (ba_slot_append.check _ _ _ _ _ _ _ _ x.typeIs (ba_args_append _ _) ?_)
  show wpR _ _ (Builtin.Bytes.byteValue (.int k t) >>= fun c => Builtin.Bytes.checkResize (.ref a) >>= fun _ => Builtin.Bytes.write (.ref a) (·.push c) >>= fun _ => ret .none) _ _ s
  refine wpR_then ?_
  show wpAny _ _ (if (decide (k < 0) || decide (k ≥ 256)) = true then _ else pure k.toNat.toUInt8) _ _ s
  rw [if_neg (by simp; omega)]
  refine wpAny_pure (wpR_bind (checkResize_ok x rfl (wpR_then (write_ok x (by simp; omega) fun h' hb hs => wpR_pure (h h' hb hs)))))
end
end Mine
end

section
set_option maxRecDepth 100000
namespace Mine
open PySem PySem.W PySem.Calls PyProof.Rows
open Sem (wp)

section
variable {prog : Program} {w : World} {A : Around} {E : Value → Shared → Prop} {R : Result → Shared → Prop} {s : Shared} {a : Addr} {b c : Array UInt8}

theorem take_bytes {id : String} {t : Tok} : Builtin.Bytes.takeBufferQuiet? id (.bytes c t) 0 = pure (some (c, none)) := by
  have h : Builtin.Bytes.takeBuffer? id (.bytes c t) 0 = pure (some (c, none)) := by
    unfold Builtin.Bytes.takeBuffer?
    rw [KBy.special_eq KBy.look_buffer, KBy.own_buffer]
    show (Builtin.Bytes.buffer? id (.bytes c t) false >>= fun r => pure (r.map (·, none))) = _
    rw [KBy.buffer_eq]
    rfl
  unfold Builtin.Bytes.takeBufferQuiet?
  rw [h]
  rfl
theorem ba_extend {t : Tok} (x : BA s.heap a b) (hz : b.size + c.size < 1000000)
    (h : ∀ h', BA h' a (b ++ c) → Heap.SameBut a s.heap h' → R (.ok (.ret .none)) { s with heap := h' }) : codeR (model prog w) A (.call (.builtin "bytearray.extend") ⟨[.ref a, .bytes c t], []⟩) R s := by
  refine codeR_call_builtin ba_slot_extend.plain ba_list.2.1 ba_entry_extend (ba_slot_extend.check _ _ _ _ _ _ _ _ x.typeIs (ba_args_extend _ _) ?_)
  unfold Builtin.«bytearray.extend»
  refine wpR_then (wpAny_of_eq (a := ((.ref a, .bytes c t) : Value × Value)) rfl ?_)
  dsimp only
  rw [KBy.special_eq KBy.look_buffer]
  refine wpR_then (wpAny_pure ?_)
  rw [show (some (Value.builtin "bytes.__buffer__")).isSome = true from rfl, if_pos rfl]
  refine wpR_then (wpAny_rule (wpR_then (ba_payload x (wpR_then (wpAny_of_eq take_bytes ?_)))))
  dsimp only
  rw [show (none : Option Value).isNone = true from rfl, if_pos rfl]
  show wpR _ _ (if (!c.isEmpty) = true then (Builtin.Bytes.checkResize (.ref a) >>= fun _ => Builtin.Bytes.write (.ref a) (· ++ c) >>= fun _ => ret .none) else (Builtin.Bytes.write (.ref a) (· ++ c) >>= fun _ => ret .none)) _ _ s
  have tail : wpR (model prog w) A.in1 (Builtin.Bytes.write (.ref a) (· ++ c) >>= fun _ => ret .none) (fun fin s' => match fin with | .done f => R (.ok f) s' | .again c' => c'.quiet = true ∧ codeR (model prog w) A c' R s') (fun e s' => R (.error e) s') s :=
    wpR_then (write_ok x (by simp; omega) fun h' hb hs => wpR_pure (h h' hb hs))
  split
  · exact wpR_bind (checkResize_ok x rfl tail)
  · exact tail

theorem ba_len {Q : Value → Shared → Prop} (x : BA s.heap a b) (hz : b.size ≤ 1000000) (h : ∀ t k, Q (.int b.size t) { s with toks := k }) : wpAny (model prog w) A (call (.builtin "len") [.ref a]) Q E s := by
  refine call_len_slot x.typeIs ba_slot_len (n := b.size) (fun Q' hq => ?_) (by omega) (by omega) (h _ _)
  refine wpAny_call_entry ba_slot_len x.typeIs ba_entry_len ?_ (ba_args_len _)
  show wpAny _ _ (Builtin.Bytes.payload (.ref a) >>= fun r => retInt r.size) _ _ s
  exact wpAny_bind (ba_payload x (wpAny_bind (wpAny_mkInt (wpAny_pure ⟨_, rfl, hq⟩))))
theorem ba_item {i : Int} {t : Tok} {v : UInt8} {Q : Value → Shared → Prop} (x : BA s.heap a b) (h0 : 0 ≤ i) (hz : b.size ≤ 1000000) (hv : b[i.toNat]? = some v) (h : ∀ t k, Q (.int v.toNat t) { s with toks := k }) :
    wpAny (model prog w) A (getItem (.ref a) (.int i t)) Q E s := by
  have hlt := (Array.getElem?_eq_some_iff.mp hv).1
  refine wpAny_getItem_slot x.typeIs (by decide) ba_slot_getitem ?_
  refine wpAny_call_entry ba_slot_getitem x.typeIs ba_entry_getitem ?_ (ba_args_getitem _ _)
  show wpAny _ _ (Builtin.Bytes.subscript? (.int i t) >>= _) _ _ s
  refine wpAny_bind ?_
  unfold Builtin.Bytes.subscript?
  refine wpAny_bind (wpAny_specialOf (typeIs_int s i t) F.slot_int_index.lookup ?_)
  have hf : Builtin.Bytes.fitsIndex i = true := by simp only [Builtin.Bytes.fitsIndex, Bool.and_eq_true, decide_eq_true_eq]; omega
  show wpAny _ _ (if (!Builtin.Bytes.fitsIndex i) = true then _ else pure (some i)) _ _ s
  rw [hf]
  refine wpAny_pure ?_
  show wpAny _ _ (Builtin.Bytes.payload (.ref a) >>= _) _ _ s
  refine wpAny_bind (ba_payload x ?_)
  have e : (seqIndex? i b.size).bind (b[·]?) = some v := by rw [seqIndex_of h0 (by omega)]; exact hv
  show wpAny _ _ (match (seqIndex? i b.size).bind (b[·]?) with | some x => retInt x.toNat | none => _) _ _ s
  rw [e]
  exact wpAny_bind (wpAny_mkInt (wpAny_pure ⟨_, rfl, h _ _⟩))
end
end Mine
end

section
set_option maxRecDepth 100000
namespace Mine
open PySem PySem.W PySem.Calls PyProof.Rows
open Sem (wp)

section
variable {prog : Program} {w : World} {A : Around} {E : Value → Shared → Prop} {R : Result → Shared → Prop} {s : Shared} {a : Addr} {b c : Array UInt8}

theorem ba_slotIsOwn {M : Model} {name : String} {id : String} {Q : Bool → Shared → Prop} (x : BA s.heap a b) (hl : typeLookup (.type "bytearray") name = pure (some (.builtin id))) (h1 : id.endsWith ("." ++ name) = true) (h2 : id.dropRight (name.length + 1) = "bytearray") (h : Q true s) :
    wpAny M A (Builtin.Bytes.slotIsOwn (.ref a) name) Q E s := by
  unfold Builtin.Bytes.slotIsOwn
  refine wpAny_bind (wpAny_specialOf x.typeIs hl ?_)
  dsimp only
  rw [h1]
  show wpAny _ _ (isInstance (.ref a) (.type (id.dropRight (name.length + 1)))) _ _ _
  rw [h2]
  exact wpAny_isInstance x.typeIs ba_sub h
theorem ba_ownRelease {M : Model} {Q : Bool → Shared → Prop} (x : BA s.heap a b) (h : Q false s) : wpAny M A (Builtin.Bytes.ownRelease (.ref a)) Q E s := by
  unfold Builtin.Bytes.ownRelease
  exact wpAny_bind (ba_slotIsOwn x ba_release (by decide +kernel) (by decide +kernel) (wpAny_pure h))
theorem ba_buffer? {M : Model} {id : String} {full : Bool} {Q : Option (Array UInt8) → Shared → Prop} (x : BA s.heap a b) (h : Q (some b) s) : wpAny M A (Builtin.Bytes.buffer? id (.ref a) full) Q E s := by
  unfold Builtin.Bytes.buffer?
  refine wpAny_bind (wpAny_specialOf x.typeIs ba_buffer ?_)
  dsimp only
  refine wpAny_bind (ba_slotIsOwn x ba_buffer (by decide +kernel) (by decide +kernel) ?_)
  show wpAny _ _ (specialOf (.ref a) "__buffer__" >>= _) _ _ _
  refine wpAny_bind (wpAny_specialOf x.typeIs ba_buffer ?_)
  refine wpAny_bind (ba_ownRelease x ?_)
  show wpAny _ _ (Builtin.Bytes.payload (.ref a) >>= fun r => pure (some r)) _ _ _
  exact wpAny_bind (ba_payload x (wpAny_pure h))

theorem ba_new {Q₁ : Value → Shared → Prop} (h : Q₁ (.ref s.heap.objs.size) { s with heap := s.heap.push { cls := .type "bytearray", data := .bytearray #[] } }) :
    codeAny (model prog w) A (.call (.builtin "bytearray.__new__") ⟨[.type "bytearray"], []⟩) (wants Q₁ E) s := by
  refine codeAny_of_tree ?_
  show wpAny _ A.in1 (do checkBuiltinCall "bytearray.__new__" ⟨[.type "bytearray"], []⟩; again (.builtin "bytearray.__new__" ⟨[.type "bytearray"], []⟩)) _ _ s
  refine wpAny_bind (wpAny_of_eq ba_newCall (wpAny_pure ⟨plainId_quiet ba_plain_new _, codeAny_builtin_stack ba_entry_new rfl fun p st => ?_⟩))
  rw [Around.under_plainId ba_plain_new _]
  have hsub := ba_sub
  have hown := ba_owner_new
  obtain ⟨hp, g, d, tk, os⟩ := s
  simp only [hown]
  wp_walk
  exact h

theorem ba_init (x : BA s.heap a #[]) (h : ∀ h', BA h' a #[] → Heap.SameBut a s.heap h' → R (.ok (.ret .none)) { s with heap := h' }) : codeR (model prog w) A (.call (.builtin "bytearray.__init__") ⟨[.ref a], []⟩) R s := by
  refine codeR_call_builtin ba_slot_init.plain ba_list.2.2 ba_entry_init (ba_slot_init.check _ _ _ _ _ _ _ _ x.typeIs (ba_args_init _) ?_)
  unfold Builtin.«bytearray.__init__»
  dsimp only
  refine wpR_then (ba_ownRelease x ?_)
  rw [if_neg (by decide)]
  refine wpR_then (wpAny_of_eq ba_bind0 ?_)
  dsimp only
  refine wpR_then (wpAny_of_eq (a := ()) rfl ?_)
  refine wpR_then (wpAny_of_eq (a := ()) rfl ?_)
  unfold orM
  refine wpR_bind (wpR_bind (exported_no (wpR_of ?_)))
  show wpAny _ _ (do let n ← Builtin.Bytes.exportsOf (.ref a); pure (decide (n > 0))) _ _ s
  refine wpAny_bind (exportsOf_no x rfl (wpAny_pure ?_))
  rw [if_neg (by decide)]
  refine wpR_then (write_ok x (by simp) fun h' hb hs => ?_)
  exact wpR_pure (h h' hb hs)

theorem ba_call (h : ∀ h', BA h' s.heap.objs.size #[] → (∀ b o, s.heap.get? b = some o → h'.get? b = some o) → R (.ok (.ret (.ref s.heap.objs.size))) { s with heap := h' }) : codeR (model prog w) A (.call (.type "bytearray") ⟨[], []⟩) R s := by
  refine codeR_of_tree rfl ?_
  show wpR _ _ (callAny (.type "bytearray") _) _ _ _
  refine wpR_pure ⟨Code.quiet_builtin _ (by decide +kernel), codeR_builtin (by decide +kernel) F.entry_type_call ?_⟩
  rw [Around.under_plain (weight_type_call_type "bytearray" [] []) rfl]
  have h1 := ba_called.notType
  have h2 := ba_called.canCreate
  have h3 := ba_called.made
  unfold Builtin.«type.__call__»
  dsimp only
  rw [h1, if_neg (by decide), h2, if_neg (by decide)]
  refine wpR_then (wpAny_of_eq ba_typeCall (wpR_then (wpAny_of_eq ba_mro ?_)))
  rw [if_neg (by decide)]
  refine wpR_then (wpAny_of_eq h3 ?_)
  dsimp only
  refine wpR_then (wpAny_pure (wpR_then (wpAny_holding (wpAny_call (ba_new ?_)))))
  have hx : BA (s.heap.push { cls := .type "bytearray", data := .bytearray #[] }) s.heap.objs.size #[] := Heap.get?_push_size _ rfl
  have hT : ({ s with heap := s.heap.push { cls := .type "bytearray", data := .bytearray #[] } } : Shared).TypeIs (.ref s.heap.objs.size) "bytearray" := ⟨_, hx, rfl⟩
  refine wpR_then (wpAny_isInstance hT ba_sub ?_)
  rw [if_neg (by decide)]
  refine wpR_bind (wpR_holding ?_)
  unfold callSpecial?
  refine wpR_then (wpAny_specialOf hT ba_slot_init.lookup ?_)
  dsimp only
  refine wpR_holding ?_
  rw [ba_slot_init.bind]
  refine wpR_then (wpAny_pure ?_)
  refine wpR_bind (wpR_call (ba_init (s := { s with heap := s.heap.push { cls := .type "bytearray", data := .bytearray #[] } }) hx fun h' hb hs => ?_))
  refine wpR_pure ?_
  dsimp only
  rw [if_neg (by decide)]
  refine wpR_pure (h h' hb fun b o e => ?_)
  have hne : b ≠ s.heap.objs.size := Nat.ne_of_lt (Heap.lt_size e)
  exact (hs.2 b hne).trans (Heap.get?_push_of_some _ e)
end
end Mine
end

section
set_option maxRecDepth 100000
namespace Mine
open PySem PySem.W PySem.Calls PyProof.Rows
open Sem (wp)

section
variable {prog : Program} {w : World} {A : Around} {E : Value → Shared → Prop} {R : Result → Shared → Prop} {s : Shared} {a : Addr} {b c : Array UInt8}

theorem by_new_bytes {t : Tok} {Q : Value → Shared → Prop} (h : Q (.bytes b t) s) : codeAny (model prog w) A (.call (.builtin "bytes.__new__") ⟨[.type "bytes", .bytes b t], []⟩) (wants Q E) s := by
  refine codeAny_of_tree ?_
  show wpAny _ A.in1 (do checkBuiltinCall "bytes.__new__" ⟨[.type "bytes", .bytes b t], []⟩; again (.builtin "bytes.__new__" ⟨[.type "bytes", .bytes b t], []⟩)) _ _ s
  refine wpAny_bind (wpAny_of_eq (F.bm_newCall _) (wpAny_pure ⟨plainId_quiet F.bm_plain _, codeAny_builtin F.bm_entry ?_⟩))
  rw [Around.under_plainId F.bm_plain _]
  unfold Builtin.«bytes.__new__»
  refine wpAny_bind (wpAny_of_eq (a := true) rfl ?_)
  refine bm_if_false rfl ?_
  refine wpAny_bind (wpAny_of_eq F.bm_sub ?_)
  refine bm_if_false rfl ?_
  refine wpAny_bind (wpAny_of_eq (F.bm_bind _) ?_)
  refine wpAny_bind (wpAny_of_eq (a := ()) rfl ?_)
  refine wpAny_bind (wpAny_of_eq (a := ()) rfl ?_)
  refine bm_if_false rfl ?_
  refine wpAny_bind (wpAny_of_eq (KBy.special_eq by_bytes) ?_)
  dsimp only
  refine wpAny_bind (wpAny_rule (wpAny_bind (wpAny_typeOf (typeIs_bytes _ _ _) ?_)))
  refine bm_if_true rfl ?_
  exact wpAny_pure h
theorem call_bytes_bytes {t : Tok} {Q : Value → Shared → Prop} (h : Q (.bytes b t) s) : wpAny (model prog w) A (call (.type "bytes") [.bytes b t]) Q E s := by
  refine callType_codes (Q₁ := fun obj s₁ => s₁.TypeIs obj "bytes" ∧ Q obj s₁) F.bm_called (F.bm_typeCall _) F.entry_object_init (by_new_bytes ⟨typeIs_bytes _ _ _, h⟩) fun obj s₁ h₁ => ?_
  exact ⟨h₁.1, F.args_object_init_2 obj _, object_init_meets F.bm_called.init.lookup F.bm_called.made (by decide) prog w A.in1 _ s₁ ⟨h₁.1, rfl, h₁.2⟩⟩
theorem by_new_ba {Q : Value → Shared → Prop} (x : BA s.heap a b) (hz : b.size ≤ 1000000) (h : ∀ t k, Q (.bytes b t) { s with toks := k }) : codeAny (model prog w) A (.call (.builtin "bytes.__new__") ⟨[.type "bytes", .ref a], []⟩) (wants Q E) s := by
  refine codeAny_of_tree ?_
  show wpAny _ A.in1 (do checkBuiltinCall "bytes.__new__" ⟨[.type "bytes", .ref a], []⟩; again (.builtin "bytes.__new__" ⟨[.type "bytes", .ref a], []⟩)) _ _ s
  refine wpAny_bind (wpAny_of_eq (F.bm_newCall _) (wpAny_pure ⟨plainId_quiet F.bm_plain _, codeAny_builtin F.bm_entry ?_⟩))
  rw [Around.under_plainId F.bm_plain _]
  unfold Builtin.«bytes.__new__»
  refine wpAny_bind (wpAny_of_eq (a := true) rfl ?_)
  refine bm_if_false rfl ?_
  refine wpAny_bind (wpAny_of_eq F.bm_sub ?_)
  refine bm_if_false rfl ?_
  refine wpAny_bind (wpAny_of_eq (F.bm_bind _) ?_)
  refine wpAny_bind (wpAny_of_eq (a := ()) rfl ?_)
  refine wpAny_bind (wpAny_of_eq (a := ()) rfl ?_)
  refine bm_if_false rfl ?_
  refine wpAny_bind (wpAny_specialOf x.typeIs ba_no_bytes ?_)
  refine wpAny_bind (wpAny_bind ?_)
  show wpAny _ _ (load a >>= _) _ _ _
  refine wpAny_bind (wpAny_load x ?_)
  refine wpAny_pure (wpAny_pure ?_)
  refine bm_if_false rfl ?_
  refine wpAny_bind (wpAny_specialOf x.typeIs ba_no_index ?_)
  refine bm_if_true rfl ?_
  first
    | show wpAny _ _ (Builtin.Bytes.buffer? "bytes.__new__" (.ref a) true >>= _) _ _ _
    | (refine wpAny_bind ?_; show wpAny _ _ (Builtin.Bytes.buffer? "bytes.__new__" (.ref a) true >>= _) _ _ _)
  refine wpAny_bind (ba_buffer? x ?_)
  dsimp only
  refine wpAny_bind (wpAny_rule ?_)
  refine wpAny_bind ?_
  refine wpAny_mkBytes ?_ (by rw [sizeLine_eq]; omega)
  refine wpAny_pure ?_
  exact h _ _
theorem call_bytes_ba {Q : Value → Shared → Prop} (x : BA s.heap a b) (hz : b.size ≤ 1000000) (h : ∀ t k, Q (.bytes b t) { s with toks := k }) : wpAny (model prog w) A (call (.type "bytes") [.ref a]) Q E s := by
  refine callType_codes (Q₁ := fun obj s₁ => s₁.TypeIs obj "bytes" ∧ Q obj s₁) F.bm_called (F.bm_typeCall _) F.entry_object_init (by_new_ba x hz fun t k => ⟨typeIs_bytes _ _ _, h t k⟩) fun obj s₁ h₁ => ?_
  exact ⟨h₁.1, F.args_object_init_2 obj _, object_init_meets F.bm_called.init.lookup F.bm_called.made (by decide) prog w A.in1 _ s₁ ⟨h₁.1, rfl, h₁.2⟩⟩
end

section
variable {W : Wd} {n : Nat} {sc : Scope} {loc : Lc} {σ : St} {X : St → Prop} {K : V → St → Prop}
theorem Rp.bytes {ρ : Rho} {h : Heap} {b : Array UInt8} {x : Value} (r : Rp ρ h (.bytes b) x) : ∃ t, x = .bytes b t := by unfold Rp at r; exact r
theorem PV.bytes {ρ : Rho} {s : Shared} {b : Array UInt8} {t : Tok} {t' : Nat} (I : Inv W ρ σ s.heap) (h : K (.bytes b) σ) : PV W ρ s K (.bytes b t) { s with toks := t' } := ⟨_, _, ρ, h, Stp.tok, I, ⟨_, rfl⟩⟩
theorem ba_in {ρ : Rho} {h : Heap} {i : Nat} {x : Value} {b : Array UInt8} (I : Inv W ρ σ h) (r : Rp ρ h (.obj i) x) (e : σ[i]? = some (.barr b)) : ∃ a, x = .ref a ∧ ρ[i]? = some (.one a) ∧ BA h a b := by
  unfold Rp at r
  obtain ⟨l, hl, rfl⟩ := r
  have R := I.objs i l _ hl e
  cases l with
  | one a => exact ⟨a, rfl, hl, R⟩
  | two x d => exact R.elim
theorem PV.setB {ρ : Rho} {s : Shared} {i : Nat} {a : Addr} {b : Array UInt8} {h' : Heap} {t' : Nat} (I : Inv W ρ σ s.heap) (hl : ρ[i]? = some (.one a)) (hs : Heap.SameBut a s.heap h') (hp : BA h' a b) (h : K .none (σ.set i (.barr b))) : PV W ρ s K .none { s with heap := h', toks := t' } := by
  have ha : a ∈ (Loc.one a).addrs := by simp [Loc.addrs]
  have t : Stp [] ρ s ρ { s with heap := h', toks := t' } := Stp.set (Dm_mem hl ha) hs ⟨_, hp⟩
  exact ⟨.none, _, ρ, h, t, I.set hl (fun b o e hb => (hs.2 b fun q => hb (q ▸ ha)).trans e) hp, by unfold Rp; rfl⟩
theorem d_two {f : Value} {a b : V} (h : ∀ A ρ s x y R, Pre W n A ρ σ s → Rp ρ s.heap a x → Rp ρ s.heap b y → (∀ v s', PV W ρ s K v s' → R (.ok (.ret v)) s') → codeR W.M A (.call f ⟨[x, y], []⟩) R s) : OKdR W n f [a, b] σ K X := by
  intro A ρ s vs R P r HR H
  unfold Rps at r
  obtain ⟨x, r', rfl, ra, rr⟩ := r
  unfold Rps at rr
  obtain ⟨y, r'', rfl, rb, rr⟩ := rr
  unfold Rps at rr
  subst rr
  exact h A ρ s x y R P ra rb HR

theorem c_bapp {i : Nat} {b : Array UInt8} {k : Int} (e : σ[i]? = some (.barr b)) (h0 : 0 ≤ k) (h1 : k < 256) (hz : b.size < 1000000) (h : K .none (σ.set i (.barr (b.push k.toNat.toUInt8)))) : OKdR W n (.builtin "bytearray.append") [.obj i, .int k] σ K X :=
  d_two fun A ρ s x y R P ra rb HR => by
    obtain ⟨t, rfl⟩ := rb.int
    obtain ⟨a, rfl, hl, hb⟩ := ba_in P.inv ra e
    exact ba_append hb h0 h1 hz fun h' hb' hs => HR _ _ (PV.setB (t' := s.toks) P.inv hl hs hb' h)
theorem c_bext {i : Nat} {b c : Array UInt8} (e : σ[i]? = some (.barr b)) (hz : b.size + c.size < 1000000) (h : K .none (σ.set i (.barr (b ++ c)))) : OKdR W n (.builtin "bytearray.extend") [.obj i, .bytes c] σ K X :=
  d_two fun A ρ s x y R P ra rb HR => by
    obtain ⟨t, rfl⟩ := rb.bytes
    obtain ⟨a, rfl, hl, hb⟩ := ba_in P.inv ra e
    exact ba_extend hb hz fun h' hb' hs => HR _ _ (PV.setB (t' := s.toks) P.inv hl hs hb' h)
theorem c_bnew (h : K (.obj σ.length) (σ ++ [.barr #[]])) : OKdR W n (.type "bytearray") [] σ K X := by
  intro A ρ s vs R P r HR H
  unfold Rps at r
  subst r
  refine ba_call fun h' hb hk => HR _ _ ?_
  have hn : ∀ d ∈ (Loc.one s.heap.objs.size).addrs, s.heap.get? d = none := by simp [Loc.addrs]; exact none_at_size _
  have t : Stp [] ρ s (ρ ++ [.one s.heap.objs.size]) { s with heap := h' } := Stp.new (s := s) (t' := s.toks) hk hn
  refine ⟨_, _, ρ ++ [.one s.heap.objs.size], h, t, P.inv.push (l := .one s.heap.objs.size) (o' := .barr #[]) hk hn (by simp [Loc.addrs]) hb, ?_⟩
  unfold Rp
  exact ⟨.one s.heap.objs.size, by rw [← P.inv.len]; simp, rfl⟩
theorem m_ba {i : Nat} {b : Array UInt8} {name : Str} {id : String} (e : σ[i]? = some (.barr b)) (slot : Slot "bytearray" name id) (hty : typeOf (.builtin id) = pure (.type "method_descriptor")) : OKm W n (.obj i) name σ (.builtin id) := by
  intro A ρ s v pl Q E P ro h
  obtain ⟨a, rfl, hl, hb⟩ := ba_in P.inv ro e
  exact getMethod_builtin hb.typeIs ba_plain slot hty (fun b eb => by cases eb; exact ⟨_, hb, rfl⟩) h
theorem c_blen {i : Nat} {b : Array UInt8} (e : σ[i]? = some (.barr b)) (hz : b.size ≤ 1000000) (h : K (.int b.size) σ) : OKc W n (.builtin "len") [.obj i] σ K X := .one fun A ρ s x E P ra H => by
  obtain ⟨a, rfl, hl, hb⟩ := ba_in P.inv ra e
  exact ba_len hb hz fun t k => .int P.inv h
theorem i_ba {j : Nat} {b : Array UInt8} {i : Int} {v : UInt8} (e : σ[j]? = some (.barr b)) (h0 : 0 ≤ i) (hz : b.size ≤ 1000000) (hv : b[i.toNat]? = some v) (h : K (.int v.toNat) σ) : OKi W n (.obj j) (.int i) σ K X := by
  intro A ρ s vo vi E P ro ri H
  obtain ⟨a, rfl, hl, hb⟩ := ba_in P.inv ro e
  obtain ⟨t, rfl⟩ := ri.int
  exact ⟨"bytearray", _, hb.typeIs, ba_slot_getitem.lookup, ba_item hb h0 hz hv fun t k => .int P.inv h⟩
theorem c_bytesB {b : Array UInt8} (h : K (.bytes b) σ) : OKc W n (.type "bytes") [.bytes b] σ K X := .one fun A ρ s x E P ra H => by
  obtain ⟨t, rfl⟩ := ra.bytes
  exact call_bytes_bytes ⟨_, _, ρ, h, Stp.refl _ _, P.inv, ⟨_, rfl⟩⟩
theorem c_bytesA {i : Nat} {b : Array UInt8} (e : σ[i]? = some (.barr b)) (hz : b.size ≤ 1000000) (h : K (.bytes b) σ) : OKc W n (.type "bytes") [.obj i] σ K X := .one fun A ρ s x E P ra H => by
  obtain ⟨a, rfl, hl, hb⟩ := ba_in P.inv ra e
  exact call_bytes_ba hb hz fun t k => .bytes P.inv h
theorem intsAre_of : ∀ (zs : List (Int × Tok)), IntsAre (zs.map fun p => .int p.1 p.2) (zs.map (·.1))
  | [] => .nil
  | p :: r => .cons p.1 p.2 (intsAre_of r)
theorem c_bytesL {v : V} {ns : List Int} (e : Elems σ v (ns.map .int)) (hr : ∀ n ∈ ns, 0 ≤ n ∧ n < 256) (hz : ns.length ≤ 1000000) (h : K (.bytes (byteArr ns)) σ) (hn : noRng v = true := by rfl) : OKc W n (.type "bytes") [v] σ K X := .one fun A ρ s x E P r H => by
  obtain ⟨l, items, rfl, hl, hrr, hs⟩ := lst_at' P.inv r e hn
  obtain ⟨zs, hx, rfl⟩ := hrr.ints
  have hit : items = (zs.map fun p => Value.int p.1 p.2).toArray := by rw [← hx]
  subst hit
  exact call_bytes_ints hl (intsAre_of zs) hr (by rw [sizeLine_eq]; simp at hz ⊢; omega) P.hand fun h' t k hk => PV.grown (v := .bytes _) P.inv hk ⟨_, rfl⟩ h
theorem c_lenB {b : Array UInt8} (hz : b.size ≤ 1000000) (h : K (.int b.size) σ) : OKc W n (.builtin "len") [.bytes b] σ K X := .one fun A ρ s x E P ra H => by
  obtain ⟨t, rfl⟩ := ra.bytes
  exact len_bytes (by omega) (.int P.inv h)
theorem i_bytes {l : List UInt8} {i : Int} {v : UInt8} (h0 : 0 ≤ i) (hz : l.length ≤ 1000000) (hv : l[i.toNat]? = some v) (h : K (.int v.toNat) σ) : OKi W n (.bytes l.toArray) (.int i) σ K X := by
  intro A ρ s vo vi E P ro ri H
  obtain ⟨t, rfl⟩ := ro.bytes
  obtain ⟨u, rfl⟩ := ri.int
  have hlt := (List.getElem?_eq_some_iff.mp hv).1
  refine ⟨"bytes", _, typeIs_bytes _ _ _, FB.slot_bytes_getitem.lookup, getItem_bytes (by omega) h0 (by omega) ?_⟩
  rw [List.getD_eq_getElem?_getD, hv]
  exact .int P.inv h
theorem cut_bytes {l : List UInt8} {i j : Int} (h0 : 0 ≤ i) (h1 : i ≤ j) (h2 : j ≤ l.length) (hz : l.length ≤ 1000000) (h : K (.bytes ((l.drop i.toNat).take (j.toNat - i.toNat)).toArray) σ) : OKcut W n (.bytes l.toArray) (.int i) (.int j) σ K X := by
  intro A ρ s vo vl vu sl E P ro rl ru hs H
  obtain ⟨t, rfl⟩ := ro.bytes
  refine ⟨"bytes", _, typeIs_bytes _ _ _, FB.slot_bytes_getitem.lookup, getItem_meets (typeIs_bytes _ _ _) (by decide) FB.slot_bytes_getitem FB.entry_bytes_getitem (FB.args_bytes_getitem_2 _ _) (KBc.meets_slice2 l.toArray t _ (rl.part rfl) (ru.part rfl))
    ⟨⟨_, hs, rfl, rfl⟩, Nat.le_trans (KBc.size_picked_le _ _ _) (by rw [sizeLine_eq]; simp; omega), fun t' k => ?_⟩⟩
  have e : KBy.picked l.toArray (some i) (some j) = ((l.drop i.toNat).take (j.toNat - i.toNat)).toArray := by
    rw [KBc.picked_eq]
    have cl : ∀ k : Int, 0 ≤ k → k ≤ l.length → clipAt l.toArray.size k = k.toNat := by
      intro k a b
      unfold clipAt
      rw [if_neg (by omega), List.size_toArray, Int.min_eq_left b, Int.max_eq_right a]
    simp only [Option.elim]
    rw [cl i h0 (by omega), cl j (by omega) h2]
  rw [e]
  exact .bytes P.inv h
end
end Mine
end

section
set_option maxRecDepth 100000
namespace Mine
open PySem PySem.W PySem.Calls PyProof.Rows
open Sem (wp)

section
variable {prog : Program} {w : World} {A : Around} {E : Value → Shared → Prop} {s : Shared}
theorem by_extend {R : Result → Shared → Prop} (hh : A.handled = none) (b : Array UInt8) (t : Tok) (S : Addr) (res : Value) (c₀ : Nat) (hS : s.heap.get? S = some { cls := .type "list", data := .seq #[] c₀ })
    (hR : ∀ h' tk acc' c', (∀ b o, b ≠ S → s.heap.get? b = some o → h'.get? b = some o) → h'.get? S = some { cls := .type "list", dict := none, data := .seq acc' c', slots := #[] } →
      ItemsOf (fun i v => ∃ c u, b[i]? = some c ∧ v = .int (c.toNat : Int) u) acc' b.size → R (.ok (.ret res)) { s with heap := h', toks := tk }) (hn : b.size ≤ sizeLine) :
    wpAny (model prog w) A.in1 (Builtin.List.listExtendWith (.ref S) (.bytes b t) res)
      (fun fin s' => match fin with | .done f => R (.ok f) s' | .again c' => c'.quiet = true ∧ codeAny (model prog w) A c' R s') (fun e s' => R (.error e) s') s := by
  have hSI : S ≠ s.heap.objs.size := Nat.ne_of_lt (Heap.lt_size hS)
  have hSf : S ∉ [s.heap.objs.size] := fun hm => hSI (List.mem_singleton.mp hm)
  unfold Builtin.List.listExtendWith
  refine wpAny_bind (wpAny_typeOf (T := "bytes") (v := .bytes b t) rfl ?_)
  have h1 : Builtin.List.listSameRef (.ref S) (.bytes b t) = false := rfl
  have h2 : (Value.type "bytes" == Value.type "list") = false := by decide
  have h3 : (Value.type "bytes" == Value.type "tuple") = false := by decide
  simp only [h1, h2, h3, Bool.or_false, Bool.false_eq_true, if_false]
  refine wpAny_bind (KBw.pyIter_bytes ?_)
  refine wpAny_bind (wpAny_holding ?_)
  unfold Builtin.List.listLengthHint
  refine wpAny_bind (wpAny_specialOf (T := "bytes") (v := .bytes b t) rfl FB.slot_bytes_len.lookup ?_)
  wp_delta
  refine wpAny_bind (wpAny_isInstance (T := "bytes") (v := .bytes b t) (b := true) rfl (by rw [isSubtype_type]; kernel_rfl) ?_)
  show wpAny _ _ (typeOf (Value.bytes b t) >>= _) _ _ _
  refine wpAny_bind (wpAny_typeOf (T := "bytes") (v := .bytes b t) rfl ?_)
  refine wpAny_pure ?_
  rw [if_neg (by decide)]
  have W := (KBw.walks (prog := prog) (w := w) (A := A.in1) hh s.heap.objs.size b t).toS
  refine wpAny_pure ⟨plainId_quiet F.plain_extend_loop _, codeAny_extend_loopS W hn _ hSf _ b.size 0 _ _ _ rfl (Nat.zero_le _) ⟨_, Heap.get?_push_size _ rfl, rfl, rfl⟩ (Heap.get?_push_of_some _ hS) (ItemsOf.nil _) fun s' acc' c' hm hS' hacc => ?_⟩
  rw [Moved.eq_with hm]
  refine hR s'.heap s'.toks acc' c' (fun b ob hb e => hm.heap b ob (fun hmem => ?_) (Heap.get?_push_of_some _ e)) hS' hacc
  rcases List.mem_cons.mp hmem with e' | hmem
  · exact hb e'
  · exact absurd (Heap.lt_size e) (by rw [List.mem_singleton.mp hmem]; exact Nat.lt_irrefl _)

theorem by_list_init {R : Result → Shared → Prop} (hh : A.handled = none) (x : Array UInt8) (t : Tok) (S : Addr) (hS : s.heap.get? S = some { cls := .type "list", data := .seq #[] })
    (hR : ∀ h' tk acc' c', (∀ b o, b ≠ S → s.heap.get? b = some o → h'.get? b = some o) → h'.get? S = some { cls := .type "list", dict := none, data := .seq acc' c', slots := #[] } →
      ItemsOf (fun i v => ∃ c u, x[i]? = some c ∧ v = .int (c.toNat : Int) u) acc' x.size → R (.ok (.ret .none)) { s with heap := h', toks := tk }) (hn : x.size ≤ sizeLine) :
    wpAny (model prog w) A.in1 (Builtin.«list.__init__» ⟨[.ref S, .bytes x t], []⟩)
      (fun fin s' => match fin with | .done f => R (.ok f) s' | .again c' => c'.quiet = true ∧ codeAny (model prog w) A c' R s') (fun e s' => R (.error e) s') s := by
  show wpAny _ _ (do let old ← Builtin.List.listItems (.ref S); Builtin.List.listUpdate (.ref S) (fun _ => #[]); letGo old.toList.reverse; Builtin.List.listExtendWith (.ref S) (.bytes x t) .none) _ _ s
  refine wpAny_bind ?_
  unfold Builtin.List.listItems
  refine wpAny_bind (wpAny_seqItems hS rfl (wpAny_pure ?_))
  show wpAny _ _ (updateSeq S (fun _ => #[]) >>= fun _ => letGo (#[] : Array Value).toList.reverse >>= fun _ => Builtin.List.listExtendWith (.ref S) (.bytes x t) .none) _ _ s
  refine wpAny_bind (wpAny_updateSeq hS rfl ?_)
  have hS₂ := Heap.get?_update_self (Obj.mapSeq (fun _ => (#[] : Array Value))) hS rfl
  have oth : ∀ b o, b ≠ S → s.heap.get? b = some o → (s.heap.update S (Obj.mapSeq (fun _ => (#[] : Array Value)))).get? b = some o :=
    fun b o hb e => (Heap.get?_update_other _ _ (Ne.symm hb)).trans e
  refine wpAny_bind (wpAny_letGo ?_)
  refine by_extend (hn := hn) hh x t S .none _ hS₂ fun h' tk acc' c' hk hS' hacc => ?_
  exact hR h' tk acc' c' (fun b o hb e => hk b o hb (oth b o hb e)) hS' hacc

theorem call_list_bytes {Q : Value → Shared → Prop} (hh : A.handled = none) (x : Array UInt8) (t : Tok)
    (hQ : ∀ h' tk acc' c', (∀ b o, s.heap.get? b = some o → h'.get? b = some o) →
      h'.get? s.heap.objs.size = some { cls := .type "list", dict := none, data := .seq acc' c', slots := #[] } → ItemsOf (fun i v => ∃ c u, x[i]? = some c ∧ v = .int (c.toNat : Int) u) acc' x.size → Q (.ref s.heap.objs.size) { s with heap := h', toks := tk }) (hn : x.size ≤ sizeLine) :
    wpAny (model prog w) A (call (.type "list") [.bytes x t]) Q E s := by
  refine callType_codes (Q₁ := fun obj s₁ => obj = .ref s.heap.objs.size ∧ s₁ = { s with heap := s.heap.push { cls := .type "list", data := .seq #[] } }) F.called_list (F.typeCall_list_1 _) F.entry_list_init
    (code_list_new _ ⟨rfl, rfl⟩) fun obj s₁ h₁ => ?_
  obtain ⟨rfl, rfl⟩ := h₁
  have hS : (s.heap.push { cls := .type "list", data := .seq #[] }).get? s.heap.objs.size = some { cls := .type "list", data := .seq #[] } := Heap.get?_push_size _ rfl
  refine ⟨⟨_, hS, rfl⟩, F.args_list_init_2 _ _, by_list_init (A := A.in1) (hn := hn) hh x t _ hS fun h' tk acc' c' hk hS' hacc => ?_⟩
  exact ⟨rfl, hQ h' tk acc' c' (fun b o e => hk b o (Nat.ne_of_lt (Heap.lt_size e)) (Heap.get?_push_of_some _ e)) hS' hacc⟩
end

section
variable {W : Wd} {n : Nat} {σ : St} {X : St → Prop} {K : V → St → Prop}
theorem rps_ints {ρ : Rho} {h : Heap} : ∀ (l : List UInt8) (vs : List Value), vs.length = l.length → (∀ (j : Nat) v, vs[j]? = some v → ∃ c u, l[j]? = some c ∧ v = .int (c.toNat : Int) u) → Rps ρ h (l.map fun c => .int (c.toNat : Int)) vs
  | [], vs, hl, _ => by
    have : vs = [] := by simpa using hl
    subst this; exact Rps.nil
  | c :: l, [], hl, _ => by simp at hl
  | c :: l, v :: vs, hl, he => by
    obtain ⟨c', u, h1, h2⟩ := he 0 v rfl
    simp at h1
    subst h1
    refine Rps.cons ?_ (rps_ints l vs (by simpa using hl) fun j v' e => by simpa using he (j + 1) v' (by simpa using e))
    unfold Rp
    exact ⟨u, h2⟩
/-- list(bytes) -/
theorem c_listB {l : List UInt8} (hz : l.length ≤ 1000000) (h : K (.lst (l.map fun c => .int (c.toNat : Int))) σ) : OKc W n (.type "list") [.bytes l.toArray] σ K X := .one fun A ρ s x E P r H => by
  obtain ⟨t, rfl⟩ := r.bytes
  refine call_list_bytes P.hand _ t (fun h' tk acc c' hk hD hi => ?_) (by rw [sizeLine_eq]; simp; omega)
  refine PV.grown (v := .lst _) P.inv hk ?_ h
  unfold Rp
  refine ⟨_, _, _, _, rfl, hD, rfl, rfl, P.inv.out (none_at_size _), rps_ints l _ (by simpa using hi.1) fun j v e => ?_⟩
  obtain ⟨c, u, a, b⟩ := hi.2 j v (by simpa using e)
  exact ⟨c, u, by simpa using a, b⟩
/-- list(list), to be changed -/
theorem c_listM {v : V} {vs : List V} (e : Elems σ v vs) (hz : vs.length ≤ 1000000) (h : K (.obj σ.length) (σ ++ [.list vs])) (hn : noRng v = true := by rfl) : OKc W n (.type "list") [v] σ K X := .one fun A ρ s x E P r H => by
  obtain ⟨l, items, rfl, ⟨o, ho, hc, k, hd⟩, hr, hs⟩ := lst_at' P.inv r e hn
  refine call_list_seq (hsz := by rw [hs, sizeLine_eq]; omega) l (.inl rfl) ho hc hd fun h' c' hk hD => ?_
  have hn : ∀ d ∈ (Loc.one s.heap.objs.size).addrs, s.heap.get? d = none := by simp [Loc.addrs]; exact none_at_size _
  have t : Stp [] ρ s (ρ ++ [.one s.heap.objs.size]) { s with heap := h' } := Stp.new (s := s) (t' := s.toks) hk hn
  refine ⟨_, _, ρ ++ [.one s.heap.objs.size], h, t, P.inv.push (l := .one s.heap.objs.size) (o' := .list vs) hk hn (by simp [Loc.addrs]) ⟨items, ⟨_, hD⟩, t.rps hr⟩, ?_⟩
  unfold Rp
  exact ⟨.one s.heap.objs.size, by rw [← P.inv.len]; simp, rfl⟩

/-! deep equality of what is the same -/
mutual
noncomputable def toPy : V → PyData
  | .bool b => .bool b
  | .int i => .int i
  | .tup vs => .tuple (toPys vs)
  | .lst vs => .list (toPys vs)
  | .none | .str _ | .bytes _ | .rng _ _ _ | .obj _ | .con _ => .none
noncomputable def toPys : List V → List PyData
  | [] => []
  | v :: r => toPy v :: toPys r
end
mutual
noncomputable def okV : V → Bool
  | .none | .bool _ | .int _ => true
  | .tup vs => okVs vs
  | .lst vs => okVs vs
  | .str _ | .bytes _ | .rng _ _ _ | .obj _ | .con _ => false
noncomputable def okVs : List V → Bool
  | [] => true
  | v :: r => okV v && okVs r
end
mutual
noncomputable def dV : V → Nat
  | .tup vs => dVs vs + 1
  | .lst vs => dVs vs + 1
  | _ => 0
noncomputable def dVs : List V → Nat
  | [] => 0
  | v :: r => max (dV v) (dVs r)
end
mutual
theorem py_reads {ρ : Rho} {h : Heap} : ∀ (v : V) (x : Value), okV v = true → Rp ρ h v x → ∃ as, Reads h x (toPy v) as
  | .none, x, _, r => by unfold Rp at r; subst r; unfold toPy; exact ⟨_, .none⟩
  | .bool b, x, _, r => by unfold Rp at r; subst r; unfold toPy; exact ⟨_, .bool b⟩
  | .int i, x, _, r => by unfold Rp at r; obtain ⟨t, rfl⟩ := r; unfold toPy; exact ⟨_, .int i t⟩
  | .tup vs, x, o, r => by
    unfold Rp at r; unfold okV at o; unfold toPy
    obtain ⟨a, ob, items, n, rfl, ho, hc, hd, ha, hr⟩ := r
    obtain ⟨as, q⟩ := py_readsAll vs _ o hr
    exact ⟨_, .tuple ho hc hd q⟩
  | .lst vs, x, o, r => by
    unfold Rp at r; unfold okV at o; unfold toPy
    obtain ⟨a, ob, items, n, rfl, ho, hc, hd, ha, hr⟩ := r
    obtain ⟨as, q⟩ := py_readsAll vs _ o hr
    exact ⟨_, .list ho hc hd q⟩
  | .str _, _, o, _ => by simp [okV] at o
  | .bytes _, _, o, _ => by simp [okV] at o
  | .rng _ _ _, _, o, _ => by simp [okV] at o
  | .obj _, _, o, _ => by simp [okV] at o
  | .con _, _, o, _ => by simp [okV] at o
theorem py_readsAll {ρ : Rho} {h : Heap} : ∀ (vs : List V) (xs : List Value), okVs vs = true → Rps ρ h vs xs → ∃ as, ReadsAll h xs (toPys vs) as
  | [], xs, _, r => by unfold Rps at r; subst r; unfold toPys; exact ⟨_, .nil⟩
  | v :: r', xs, o, r => by
    unfold Rps at r; unfold okVs at o; unfold toPys
    obtain ⟨x, xr, rfl, a, b⟩ := r
    obtain ⟨o1, o2⟩ := Bool.and_eq_true_iff.mp o
    obtain ⟨as, q⟩ := py_reads v x o1 a
    obtain ⟨bs, q'⟩ := py_readsAll r' xr o2 b
    exact ⟨_, .cons q q'⟩
end
mutual
theorem py_can : ∀ v : V, (toPy v).canLay0 = true
  | .none => by unfold toPy; rfl
  | .bool b => by unfold toPy; rfl
  | .int i => by unfold toPy; rfl
  | .str i => by unfold toPy; rfl
  | .bytes i => by unfold toPy; rfl
  | .rng i _ _ => by unfold toPy; rfl
  | .obj i => by unfold toPy; rfl
  | .con i => by unfold toPy; rfl
  | .tup vs => by unfold toPy; exact py_canAll vs
  | .lst vs => by unfold toPy; exact py_canAll vs
theorem py_canAll : ∀ vs : List V, PyData.canLayAll0 (toPys vs) = true
  | [] => by unfold toPys; rfl
  | v :: r => by unfold toPys; exact Bool.and_eq_true_iff.mpr ⟨py_can v, py_canAll r⟩
end
mutual
theorem py_depth : ∀ v : V, (toPy v).depth ≤ dV v
  | .none => by unfold toPy; exact Nat.zero_le _
  | .bool b => by unfold toPy; exact Nat.zero_le _
  | .int i => by unfold toPy; exact Nat.zero_le _
  | .str i => by unfold toPy; exact Nat.zero_le _
  | .bytes i => by unfold toPy; exact Nat.zero_le _
  | .rng i _ _ => by unfold toPy; exact Nat.zero_le _
  | .obj i => by unfold toPy; exact Nat.zero_le _
  | .con i => by unfold toPy; exact Nat.zero_le _
  | .tup vs => by
    unfold toPy dV
    have := py_depthAll vs
    show PyData.depthAll _ + 1 ≤ _; omega
  | .lst vs => by
    unfold toPy dV
    have := py_depthAll vs
    show PyData.depthAll _ + 1 ≤ _; omega
theorem py_depthAll : ∀ vs : List V, PyData.depthAll (toPys vs) ≤ dVs vs
  | [] => by unfold toPys; exact Nat.le_refl _
  | v :: r => by
    unfold toPys dVs
    have := py_depth v
    have := py_depthAll r
    show max _ _ ≤ max _ _; omega
end
theorem same_py {A : Around} {ρ : Rho} {s : Shared} {E : Value → Shared → Prop} {u v w : V} {x y : Value} (P : Pre W n A ρ σ s) (rx : Rp ρ s.heap v x) (ry : Rp ρ s.heap w y) (fv : Fz σ 0 u v) (fw : Fz σ 0 u w) (ho : okV u = true) (hd : dV u ≤ 50) :
    (∀ {Q : Value → Shared → Prop}, Q (.bool true) s → wpAny W.M A (compareOp .Eq x y) Q E s) ∧ (∀ {Q : Value → Shared → Prop}, Q (.bool false) s → wpAny W.M A (compareOp .NotEq x y) Q E s) := by
  obtain ⟨as, q⟩ := py_reads u x ho (Fz.rp P.inv (Nat.zero_le _) u v x fv rx)
  obtain ⟨bs, q'⟩ := py_reads u y ho (Fz.rp P.inv (Nat.zero_le _) u w y fw ry)
  have hr : A.units + min (toPy u).depth (toPy u).depth < cLine := by
    have := py_depth u; have := P.room.units; rw [Nat.min_self]; omega
  have he := SeqAt.eqv_refl (toPy u) (py_can u)
  refine ⟨fun {Q} h => SeqAt.compareEq_reads q q' (py_can u) (py_can u) hr ?_, fun {Q} h => SeqAt.compareNe_reads q q' (py_can u) (py_can u) hr ?_⟩
  · rw [he]; exact h
  · rw [he]; exact h
theorem t_eqP {v w : V} (u : V) (fv : Fz σ 0 u v) (fw : Fz σ 0 u w) (ho : okV u = true) (hd : dV u ≤ 50) (h : K (.bool true) σ) : OKt W n (cmpT .Eq) [v, w] σ K X := .two fun A ρ s x y E P ra rb H =>
  (same_py P ra rb fv fw ho hd).1 (.bool P.inv h)
theorem t_neP {v w : V} (u : V) (fv : Fz σ 0 u v) (fw : Fz σ 0 u w) (ho : okV u = true) (hd : dV u ≤ 50) (h : K (.bool false) σ) : OKt W n (cmpT .NotEq) [v, w] σ K X := .two fun A ρ s x y E P ra rb H =>
  (same_py P ra rb fv fw ho hd).2 (.bool P.inv h)

theorem eqAt_bytes {A : Around} {s : Shared} {b : Array UInt8} {t u : Tok} : SeqAt.EqAt A s (.bytes b t) (.bytes b u) true := fun prog w E Q hq => by
  unfold eqBool
  refine wpAny_holding ?_
  refine wpAny_ite_split (fun _ => wpAny_bind (wpAny_rule (wpAny_pure hq))) (fun _ => ?_)
  refine wpAny_bind (m := richCompare .Eq (.bytes b t) (.bytes b u)) (eq_bytes ?_)
  rw [beq_self_eq_true]
  exact wpAny_truthy_bool hq
/-- (bytes, int) == the same -/
theorem t_eqB {b : Array UInt8} {i : Int} (h : K (.bool true) σ) : OKt W n (cmpT .Eq) [.tup [.bytes b, .int i], .tup [.bytes b, .int i]] σ K X := .two fun A ρ s x y E P ra rb H => by
  unfold Rp at ra rb
  obtain ⟨a, o, items, k, rfl, ho, hc, hd, ha, hr⟩ := ra
  obtain ⟨a', o', items', k', rfl, ho', hc', hd', ha', hr'⟩ := rb
  have two : ∀ {items : Array Value}, Rps ρ s.heap [.bytes b, .int i] items.toList → ∃ t u, items = #[.bytes b t, .int i u] := fun {items} r => by
    unfold Rps at r; obtain ⟨x1, r1, e1, p1, r⟩ := r
    unfold Rps at r; obtain ⟨x2, r2, rfl, p2, r⟩ := r
    unfold Rps at r; subst r
    obtain ⟨t, rfl⟩ := p1.bytes
    obtain ⟨u, rfl⟩ := p2.int
    exact ⟨t, u, by rw [← Array.toArray_toList (xs := items), e1]⟩
  obtain ⟨t, u, rfl⟩ := two hr
  obtain ⟨t', u', rfl⟩ := two hr'
  refine SeqAt.eq_tupleAt (e := fun _ => true) ⟨o, ho, hc, k, hd⟩ ⟨o', ho', hc', k', hd'⟩ P.u (fun j h1 h2 => ?_) ?_
  · match j, h1 with
    | 0, _ => exact eqAt_bytes
    | 1, _ =>
      have := SeqAt.EqAt.int_int (A := A.in1) (s := s) i u i u'
      rw [beq_self_eq_true] at this
      exact this
  · exact .bool P.inv h
theorem t_eqN (h : K (.bool true) σ) : OKt W n (cmpT .Eq) [.none, .none] σ K X := t_eqP .none (by unfold Fz; rfl) (by unfold Fz; rfl) rfl (by decide) h
noncomputable def notNone : V → Bool
  | .none => false
  | .con _ => false
  | _ => true
theorem t_isnot {v : V} (hv : notNone v = true) (h : K (.bool true) σ) : OKt W n (cmpT .IsNot) [v, .none] σ K X := .two fun A ρ s x y E P ra rb H => by
  unfold Rp at rb; subst rb
  refine isnot_none_ne (fun e => ?_) (.bool P.inv h)
  subst e
  cases v with
  | none => cases hv
  | con c => cases hv
  | bool b => unfold Rp at ra; cases ra
  | int b => unfold Rp at ra; obtain ⟨t, e⟩ := ra; cases e
  | str b => unfold Rp at ra; obtain ⟨t, e⟩ := ra; cases e
  | bytes b => unfold Rp at ra; obtain ⟨t, e⟩ := ra; cases e
  | tup b => unfold Rp at ra; obtain ⟨a, o, i, n, e, _⟩ := ra; cases e
  | lst b => unfold Rp at ra; obtain ⟨a, o, i, n, e, _⟩ := ra; cases e
  | rng a b c => unfold Rp at ra; obtain ⟨a, t, u, w, e, _⟩ := ra; cases e
  | obj i => unfold Rp at ra; obtain ⟨l, _, e⟩ := ra; cases e
theorem t_isnotN (h : K (.bool false) σ) : OKt W n (cmpT .IsNot) [.none, .none] σ K X := .two fun A ρ s x y E P ra rb H => by
  unfold Rp at ra rb; subst ra rb
  exact wpAny_isNot_self rfl (.bool P.inv h)
end
end Mine
end

section
set_option maxRecDepth 100000
namespace Mine
open PySem PySem.W PySem.Calls PyProof.Rows
open Sem (wp)

/-- the class FilterFault, as it stands in the heap -/
noncomputable abbrev ffMro : List Value := [.ref 39, .type "Exception", .type "BaseException", .type "object"]
noncomputable abbrev ffObj : Obj := excClassObj "FilterFault" "FilterFault" 52 51 [.ref 39] ffMro true [] [] false none none (some (.ref 43)) none (some (.str "FilterFault" 229)) (some (.str "FilterFault" 237)) (some (.bool true)) "Exception.__new__"
theorem ff_at {W : Wd} {h : Heap} (X : W.K.In h) : h.get? 52 = some ffObj := X _ _ rfl
/-- an exception of it -/
noncomputable abbrev ffExc (t : Addr) (dd : Option Addr) : Obj := { cls := .ref 52, dict := dd, data := .fields #[.ref t, .none, .none, .none, .bool false, .none] }
theorem ff_B : (Value.ref 52 :: ffMro).contains (.type "Exception") = true := by decide
theorem ff_BE : (Value.ref 52 :: ffMro).contains (.type "BaseException") = true := by decide
theorem ff_A : (Value.ref 52 :: ffMro).contains (.type "AttributeError") = false := by decide
theorem ff_N : (Value.ref 52 :: ffMro).contains (.type "NameError") = false := by decide
theorem ff_C : (Value.ref 52 :: ffMro).contains (.ref 52) = true := by decide
theorem ff_T : (Value.ref 52 :: ffMro).contains (.type "tuple") = false := by decide

section
variable {M : Model} {A : Around} {E : Value → Shared → Prop} {h : Heap} {g : Array GenState} {d : Drawn} {t : Nat} {os : OsState}
theorem ff_check {rest : List Value} {Q : Unit → Shared → Prop} (hC : h.get? 52 = some ffObj) (hq : Q () ⟨h, g, d, t, os⟩) :
    wpAny M A (checkBuiltinCall "Exception.__new__" ⟨.ref 52 :: rest, []⟩) Q E ⟨h, g, d, t, os⟩ := by
  have F := F.excBase_Exception
  have hcont := ff_B
  have hstar := F.noStar
  simp only [checkBuiltinCall, F.newKind, F.newSplit, F.newRow]
  repeat (first | refine wpAny_loadPart_at hC ?_ | (refine wpAny_isSubtype_exc hC ?_; rw [hcont]) | refine wpAny_staticBase_exc hC ?_ | refine wpAny_madeBy_exc hC ?_ | simp only [bne_self_eq_false, Bool.false_eq_true, if_false] | wp_step)
  exact hq
end

section
variable {prog : Program} {w : World} {A : Around} {E : Value → Shared → Prop} {R : Result → Shared → Prop} {h : Heap} {g : Array GenState} {d : Drawn} {t : Nat} {os : OsState}
theorem ff_new {rest : List Value} (hC : h.get? 52 = some ffObj)
    (hq : R (.ok (.ret (.ref (h.objs.size + 1)))) ⟨(h.push { cls := .type "tuple", data := .seq rest.toArray }).push (ffExc h.objs.size none), g, d, t, os⟩) (hrest : rest.length ≤ sizeLine) :
    codeAny (model prog w) A (.builtin "Exception.__new__" ⟨.ref 52 :: rest, []⟩) R ⟨h, g, d, t, os⟩ := by
  have F := F.excBase_Exception
  have hends := F.ends
  have hcB := ff_B
  have hcA := ff_A
  have hcN := ff_N
  refine codeAny_builtinAt F.entry ?_
  unfold Builtin.«BaseException.__new__»
  refine PySem.wpAt_bind ?_
  show PySem.wpAt _ _ _ (stack >>= _) _ _ _
  refine PySem.wpAt_bind (PySem.wpAt_stack fun p below => PySem.wpAt_of_wpAny ?_)
  wp_walk
  refine PySem.wpAt_of_wpAny ?_
  rw [F.owner]
  repeat (first | with_reducible refine wpAny_madeHere_exc F.canon hC ?_ | with_reducible refine wpAny_loadPart_at hC ?_ | (with_reducible refine wpAny_isSubtype_exc hC ?_; first | rw [hcB] | rw [hcA] | rw [hcN]) | wp_step)
  show R _ _
  rw [Heap.size_push]
  exact hq

theorem ff_type_call {W : Wd} {rest : List Value} {Q : Fin → Shared → Prop} (X : W.K.In h)
    (hq : ∀ h' e, Heap.MadeExcOf h h' e (.ref 52) rest →
      wpAny (model prog w) A (call (.ref 29) (.ref e :: rest)) (fun r s' => r = .none ∧ Q (.done (.ret (.ref e))) s') E ⟨h', g, d, t, os⟩) (hrest : rest.length ≤ sizeLine) :
    wpAny (model prog w) A (Builtin.«type.__call__» ⟨.ref 52 :: rest, []⟩) Q E ⟨h, g, d, t, os⟩ := by
  have hC := ff_at X
  have F := F.excBase_Exception
  repeat (first | with_reducible refine wpAny_loadPart_at hC ?_ | with_reducible refine wpAny_madeBy_exc hC ?_ | wp_step)
  refine codeAny_call_builtin_code (Code.quiet_builtin _ F.quiet) (ff_check hC ?_)
  refine ff_new hC ?_ hrest
  show wpAny _ _ _ _ _ _
  have hk : ∀ b o, h.get? b = some o → ((h.push { cls := .type "tuple", data := .seq rest.toArray }).push (ffExc h.objs.size none)).get? b = some o := fun b o e => Heap.get?_push_of_some _ (Heap.get?_push_of_some _ e)
  have hC₁ := hk _ _ hC
  have X₁ := X.keeps hk
  have hget : ((h.push { cls := .type "tuple", data := .seq rest.toArray }).push (ffExc h.objs.size none)).get? (h.objs.size + 1) = some (ffExc h.objs.size none) := by heap_get
  have hcC := ff_C
  unfold isInstance
  repeat (first | with_reducible refine wpAny_loadPart_at hget ?_ | (with_reducible refine wpAny_isSubtype_exc hC₁ ?_; rw [hcC]) | wp_step)
  show wpAny _ _ (typeLookup (.ref 52) _) _ _ _
  refine (looks_findIn X₁ (show findIn W.K (.ref 52) "__init__" = some (some (.ref 29)) from rfl)).at ?_
  refine wpAny_holding (wpAny_bind ?_)
  refine (bind_fn X₁ _ (show typeIn W.K (.ref 29) = some (.type "function") from rfl)).at ?_
  refine wpAny_bind (wpAny_mono (hq _ (h.objs.size + 1) ⟨hk, Heap.get?_none_of_le (Nat.le_succ _), h.objs.size, hget, Heap.get?_none_of_le (Nat.le_refl _), ?_⟩) (fun r s' hr => ?_) fun _ _ x => x)
  · exact Heap.get?_push_of_some _ (Heap.get?_push_at rfl rfl)
  · obtain ⟨rfl, hQ⟩ := hr
    wp_walk
    exact hQ

theorem ff_call {W : Wd} {rest : List Value} {Q : Value → Shared → Prop} (X : W.K.In h)
    (hq : ∀ h' e, Heap.MadeExcOf h h' e (.ref 52) rest →
      wpAny (model prog w) (A.under (.builtin "type.__call__" ⟨.ref 52 :: rest, []⟩)) (call (.ref 29) (.ref e :: rest)) (fun r s' => r = .none ∧ Q (.ref e) s') E ⟨h', g, d, t, os⟩) (hrest : rest.length ≤ sizeLine) :
    wpAny (model prog w) A (call (.ref 52) rest) Q E ⟨h, g, d, t, os⟩ := by
  have hC := ff_at X
  have f1 := tc_lookup
  have f2 := tc_bind (.ref 52)
  have hT : (⟨h, g, d, t, os⟩ : Shared).TypeIs (.ref 52) "type" := ⟨_, hC, rfl⟩
  refine wpAny_call (codeAny_of_tree ?_)
  show wpAny _ _ (callAny (.ref 52) _) _ _ _
  repeat (any_goals (first | assumption | with_reducible refine wpAny_loadPart_at hC ?_ | wp_step))
  refine ⟨rfl, ?_⟩
  exact codeAny_call_builtin_at (Code.quiet_builtin _ (by decide +kernel)) entry_typeCall (wpAny_check_type_call_sub hC (ff_type_call X hq hrest))
end
end Mine
end

section
set_option maxRecDepth 100000
namespace Mine
open PySem PySem.W PySem.Calls PyProof.Rows Builtin Builtin.ObjectAttr
open Sem (wp)

/-- while the exception at e is filled -/
noncomputable def FfS (h0 : Heap) (e : Addr) (k : Nat) (h : Heap) : Prop :=
  (∀ b o, h0.get? b = some o → b ≠ e → h.get? b = some o) ∧ ∃ t dd, h.get? e = some (ffExc t dd) ∧
    (dd = none ∨ ∃ dx od es n, dd = some dx ∧ dx ≠ e ∧ h0.get? dx = none ∧ h.get? dx = some od ∧ od.data = .dict es n ∧ StrKeys es ∧ es.size ≤ k)

section
variable {W : Wd} {A : Around} {E : Value → Shared → Prop} {s : Shared}
theorem ff_set {h0 : Heap} {e : Addr} {k : Nat} {name : Str} {v : Value} {Q : Unit → Shared → Prop} (X : W.K.In s.heap) (S : FfS h0 e k s.heap) (hk : k ≤ 100)
    (ha : findIn W.K (.ref 52) name = some none) (h : ∀ h' t', FfS h0 e (k + 1) h' → Q () { s with heap := h', toks := t' }) : wpAny W.M A (setAttr (.ref e) name v) Q E s := by
  obtain ⟨hp, g, d, tk, os⟩ := s
  obtain ⟨kp, t, dd, he, hdd⟩ := S
  dsimp only at X kp he hdd h ⊢
  have hI : ∃ od, InstAt hp e (ffExc t dd) 52 od := by
    rcases hdd with rfl | ⟨dx, od, es, n, rfl, _, _, hd, _⟩
    · exact ⟨none, he, rfl, rfl, trivial⟩
    · exact ⟨some od, he, rfl, rfl, hd⟩
  obtain ⟨od', I⟩ := hI
  refine set_plain X I (show findIn W.K (.ref 52) "__setattr__" = some (some (.builtin "object.__setattr__")) from rfl) ?_
  have SF := PySem.F.store_object
  have SX := PySem.F.store_Exception
  have hm : Looks W.M hp (mroOf (.ref 52)) (.ref 52 :: ffMro) := (looks_clsIn X (show clsIn W.K 52 = some _ from rfl)).andThen .now
  have sub : Looks W.M hp (isInstance (.ref e) (.type "object")) true := I.type.andThen (looks_mroIn X (show mroIn W.K 52 (.type "object") = some true from rfl))
  refine codeAny_call_builtin SF.slot.plain SF.entry (@check_slot W.M _ _ ⟨hp, g, d, tk + 1, os⟩ "object.__setattr__" "object" "__setattr__" (.ref e) [.str name tk, v] [] _ SF.kind SF.split sub (SF.args (.ref e) (.str name tk) v) ?_)
  rw [osa_eq, refuse_eq]
  refine wpAny_bind (wpAny_bind (I.type.at (wpAny_bind (hm.at ?_))))
  rw [refuseLoop_ref, refuseLoop_ref, SX.passes]
  refine wpAny_pure (wpAny_bind (I.type.at (wpAny_bind ((looks_findIn X ha).at ?_))))
  refine wpAny_bind (m := storeTaker? none) (wpAny_pure ?_)
  show wpAny _ _ (storeInOwnDict (.ref e) (.ref 52) (.str name tk) name v false) _ _ _
  refine wpAny_bind (wpAny_pure (wpAny_bind (wpAny_bind (wpAny_loadPart he (wpAny_bind (Looks.at (looks_clsIn (h := hp) X (show clsIn W.K 52 = some _ from rfl)) ?_))))))
  rcases hdd with rfl | ⟨dx, od, es, n, rfl, hne, hnew, hd, hdata, hks, hz⟩
  · have hxs : e ≠ hp.objs.size := Nat.ne_of_lt (Heap.lt_size he)
    have hx₁ : (hp.push { cls := .type "dict", data := .dict #[] }).get? e = some (ffExc t none) := Heap.get?_push_of_some _ he
    refine wpAny_bind (wpAny_alloc (wpAny_bind (wpAny_update hx₁ ?_)))
    have hx₂ := Heap.get?_update_self (fun o : Obj => { o with dict := some hp.objs.size }) hx₁ rfl
    have hd₂ : ((hp.push { cls := .type "dict", data := .dict #[] }).update e (fun o : Obj => { o with dict := some hp.objs.size })).get? hp.objs.size = some { cls := .type "dict", data := .dict #[] } :=
      (Heap.get?_update_other _ _ hxs).trans (Heap.get?_push_size _ rfl)
    refine wpAny_pure (a := some hp.objs.size) ?_
    refine wpAny_bind (wpAny_pure (wpAny_bind ?_))
    refine ns_put hd₂ rfl (by intro e he; simp at he) fun h' es' ep' ho' hk' hf' hz' hsb => ?_
    refine wpAny_bind (wpAny_lookBehind ho' (pastItsLine_dict (by rw [hz', sizeLine_eq]; split <;> simp)) ?_)
    refine wpAny_pure (h h' _ ⟨fun b o eb hb => ?_, t, some hp.objs.size, (hsb.2 e hxs).trans hx₂, .inr ⟨_, _, es', ep', rfl, Ne.symm hxs, ?_, ho', rfl, hk', ?_⟩⟩)
    · have := kp b o eb hb
      have hbs : b ≠ hp.objs.size := Nat.ne_of_lt (Heap.lt_size this)
      exact (hsb.2 b hbs).trans ((Heap.get?_update_other _ _ (Ne.symm hb)).trans (Heap.get?_push_of_some _ this))
    · cases q : h0.get? hp.objs.size with
      | none => rfl
      | some o => have := kp _ o q (Ne.symm hxs); rw [none_at_size] at this; cases this
    · rw [hz']; split <;> simp
  · refine wpAny_pure (a := some dx) ?_
    refine wpAny_bind (wpAny_pure (wpAny_bind ?_))
    refine ns_put hd hdata hks fun h' es' ep' ho' hk' hf' hz' hsb => ?_
    refine wpAny_bind (wpAny_lookBehind ho' (pastItsLine_dict (by rw [hz', sizeLine_eq]; split <;> omega)) ?_)
    refine wpAny_pure (h h' _ ⟨fun b o eb hb => ?_, t, some dx, (hsb.2 e (Ne.symm hne)).trans he, .inr ⟨_, _, es', ep', rfl, hne, hnew, ho', rfl, hk', ?_⟩⟩)
    · exact (hsb.2 b (fun q => by subst q; rw [hnew] at eb; cases eb)).trans (kp b o eb hb)
    · rw [hz']; split <;> omega

theorem ff_base {e t0 : Addr} {v : Value} {Q : Value → Shared → Prop} (X : W.K.In s.heap) (he : s.heap.get? e = some (ffExc t0 none))
    (h : ∀ h' t1, h'.get? e = some (ffExc t1 none) → (∀ b o, s.heap.get? b = some o → b ≠ e → h'.get? b = some o) → Q .none { s with heap := h' }) :
    wpAny W.M A (call (.builtin "Exception.__init__") [.ref e, v]) Q E s := by
  have F := F.excBase_Exception
  have hC := ff_at X
  have hcB := ff_B
  have hshort := F.noStar
  have hlt := Heap.lt_size he
  obtain ⟨hp, g, d, tk, os⟩ := s
  refine wpAny_call (codeAny_call_builtin F.init.plain F.initEntry ?_)
  simp only [checkBuiltinCall, F.initKind, F.initSplit, F.initRow]
  repeat (first | with_reducible refine wpAny_loadPart_at he ?_ | with_reducible refine wpAny_loadPart_at hC ?_ | (with_reducible refine wpAny_isSubtype_exc hC ?_; rw [hcB]) | wp_step)
  have he₁ := Heap.get?_push_of_some (h := hp) { cls := .type "tuple", data := .seq [v].toArray } he
  show Q .none _
  refine h _ hp.objs.size ?_ fun b o eb hb => (Heap.get?_update_other _ _ (Ne.symm hb)).trans (Heap.get?_push_of_some _ eb)
  rw [Heap.get?_update_self _ he₁ rfl]
  rfl
end
end Mine
end

section
set_option maxRecDepth 100000
namespace Mine
open PySem PySem.W PySem.Calls PyProof.Rows
open Sem (wp)

section
variable {W : Wd} {n : Nat} {σ : St}
/-- a call of a def, for a walk by hand that raises nothing -/
theorem c_raw {f : Addr} {oc od : _} {osl : Array (Option Value)} {name qual : Str} {params : Arguments} {body : List Stmt} {scope : Scope} {dV kV doc pm : Value} {an : Option Addr} {cdv ct : Value} {args : List V} (names : List Str)
    (ho : W.K.lookup f = some ⟨oc, od, .func (fnOf name qual params body scope dV kV doc pm an cdv ct), osl⟩) (hcd : codeIn W.K cdv qual = true)
    (hl : names.length = args.length)
    (hb : ∀ (s : Shared) (vs : List Value), W.K.In s.heap → vs.length = args.length → BindsTo s (fnOf name qual params body scope dV kV doc pm an cdv ct) ⟨vs, []⟩ (names.zip vs))
    (hy : ∀ y ∈ names, scope.names.lookup y = some .local ∨ scope.names.lookup y = some .cell)
    {A : Around} {ρ : Rho} {s : Shared} {vs : List Value} {R : Result → Shared → Prop} (P : Pre W (n + 1) A ρ σ s) (r : Rps ρ s.heap args vs)
    (h : ∀ env s₁, Pre W n (A.deeper env) ρ σ s₁ → EnvOk W scope ρ s₁.heap env (names.zip args).reverse → Stp [] ρ s ρ s₁ →
      wpAny W.M (A.deeper env) (execs body env) (fun f s' => R (.ok (.ret (match f with | .ret v => v | _ => .none))) s') (fun _ _ => False) s₁)
    (hco : scope.isCoroutine = false := by rfl) (hgen : scope.isGenerator = false := by rfl) (hk : scope.kind = .function := by rfl) : codeAny W.M A (.call (.ref f) ⟨vs, []⟩) R s := by
  refine codeAny_call_function (fd := fnOf name qual params body scope dV kV doc pm an cdv ct) (body := body) P.d (P.kin _ _ ho) rfl hco hgen rfl (codeRec_of P.kin hcd) ?_
  refine def_core names hl hb hy hk P r fun env s₁ P₁ N₁ up lv => codeAny_func ?_
  exact noE (h env s₁ P₁ N₁ (up _ _ (Stp.refl _ _)))

theorem ff_method {A : Around} {E : Value → Shared → Prop} {s : Shared} {L : Addr} {m : Str → Option Value} {pl : Sem Bool} {Q : Value × List Value → Shared → Prop} (hn : s.heap.Ns L m) (h : ∀ t, Q (.builtin "Exception.__init__", []) { s with toks := t }) :
    wpAny W.M A (getMethod (.type "Exception") "__init__" pl) Q E s := by
  have F : Fr ({} : Heap) L s.heap m := ⟨hn, fun b o e => by simp [Heap.get?] at e, Nat.zero_le _⟩
  refine method_type (K := []) F (fun a o e => by cases e) (by kernel_rfl) (by decide +kernel) (v := .builtin "Exception.__init__") (by rfl) (by rfl) (h _)

/-- FilterFault(what, at) -/
theorem c_fault {A : Around} {ρ : Rho} {s : Shared} {x : Str} {i : Int} {vx va : Value} {E : Value → Shared → Prop} {Q : Value → Shared → Prop} (P : Pre W (n + 2) A ρ σ s) (rx : Rp ρ s.heap (.str x) vx) (ra : Rp ρ s.heap (.int i) va)
    (hq : ∀ e s', Stp [] ρ s ρ s' → Inv W ρ σ s'.heap → s.heap.get? e = none → e ∉ Dm ρ → (∃ t dd, s'.heap.get? e = some (ffExc t dd)) → Q (.ref e) s') : wpAny W.M A (call (.ref 52) [vx, va]) Q E s := by
  obtain ⟨hp, g, d, tk, os⟩ := s
  refine ff_call P.kin (fun h1 e hm => ?_) (by rw [sizeLine_eq]; simp)
  obtain ⟨t0, he, _, _⟩ := hm.there
  have t₁ : Stp [] ρ ⟨hp, g, d, tk, os⟩ ρ ⟨h1, g, d, tk, os⟩ := Stp.all (s := ⟨hp, g, d, tk, os⟩) hm.keeps
  have I₁ : Inv W ρ σ h1 := P.inv.all hm.keeps
  have hen := hm.new
  have heD : e ∉ Dm ρ := P.inv.out hen
  have P₁ : Pre W (n + 1) (A.under (.builtin "type.__call__" ⟨[.ref 52, vx, va], []⟩)) ρ σ ⟨h1, g, d, tk, os⟩ := by
    have P' := P.step t₁ I₁
    refine ⟨⟨?_, ?_⟩, P'.hand, P'.frs, I₁⟩
    · have := P.room.depth; show A.depth + 1 + _ + _ < _; omega
    · have := P.room.units; show A.units + 1 + _ + _ < _; omega
  refine wpAny_call (c_raw ["self", "what", "at"] (args := [.con (.ref e), .str x, .int i]) rfl rfl rfl ?_ (by decide) P₁ (Rps.cons (by unfold Rp; rfl) (Rps.cons (t₁.rp rx) (Rps.one (t₁.rp ra)))) fun env s₁ P₂ N₂ t₂ => ?_)
  · intro s vs X hv
    match vs, hv with
    | [a, b, c], _ => exact binds_K X rfl rfl rfl rfl rfl
  have he₁ : s₁.heap.get? e = some (ffExc t0 none) := t₂.keeps.strict he (by simpa using heD) (by show Value.ref 52 ≠ _; intro q; cases q)
  have NL : ∃ m, s₁.heap.Ns env.locals m ∧ m "self" = some (.ref e) ∧ (∃ y, m "what" = some y) ∧ (∃ y, m "at" = some y) := by
    obtain ⟨m, hn, hv⟩ := N₂.ns
    obtain ⟨r1, e1, q1⟩ := hv "self" (.con (.ref e)) rfl rfl
    obtain ⟨r2, e2, q2⟩ := hv "what" (.str x) rfl rfl
    obtain ⟨r3, e3, q3⟩ := hv "at" (.int i) rfl rfl
    unfold Rp at q1
    subst q1
    exact ⟨m, hn, e1, ⟨r2, e2⟩, r3, e3⟩
  obtain ⟨m, hn, m1, ⟨y2, m2⟩, y3, m3⟩ := NL
  have hle : env.locals ≠ e := fun q => by
    obtain ⟨o, es, ep, ho, hd, _⟩ := hn
    rw [q, he₁] at ho; cases ho; cases hd
  have load : ∀ (z : Str) (y : Value) (pos : Pos) (s' : Shared) (Q : Value → Shared → Prop) (E : Value → Shared → Prop), FfS s₁.heap e 9 s'.heap → m z = some y → env.scope.names.lookup z = some .local → (z == ("__debug__" : Str)) = false → Q y s' →
      wpAny W.M (((A.under (.builtin "type.__call__" ⟨[.ref 52, vx, va], []⟩))).deeper env) (eval (.Name z pos) env) Q E s' := fun z y pos s' Q E S e1 e2 e3 h => by
    have hn' : s'.heap.Ns env.locals m := by
      obtain ⟨o, es, ep, ho, r⟩ := hn
      exact ⟨o, es, ep, S.1 _ _ ho hle, r⟩
    exact wpAny_Name (wpAny_loadName_local N₂.hk e2 hn' e1 h) e3
  have S₀ : FfS s₁.heap e 0 s₁.heap := ⟨fun b o e _ => e, t0, none, he₁, .inl rfl⟩
  have up : ∀ {k h}, FfS s₁.heap e k h → k ≤ 9 → FfS s₁.heap e 9 h := fun {k h} S hk => by
    obtain ⟨a, t, dd, b, c⟩ := S
    refine ⟨a, t, dd, b, c.imp id ?_⟩
    rintro ⟨dx, od, es, n, c1, c2, c3, c4, c5, c6, c7⟩
    exact ⟨dx, od, es, n, c1, c2, c3, c4, c5, c6, by omega⟩
  have hsc : env.scope.names = ([("self", .local), ("what", .local), ("at", .local), ("Exception", .globalImplicit)] : List (Str × NameKind)) := by rw [N₂.scope]
  have hi : interactive env = false := by unfold interactive; rw [N₂.hk]; rfl
  have X₁ := P₂.kin
  refine wpAny_execs_cons (wpAny_Expr_any ?_ hi (by rfl))
  refine MethodCall_ (load_glb P₂ N₂ (v := .type "Exception") rfl rfl ?_ (by decide)) (by rfl)
  refine ff_method hn fun tk₁ => ?_
  refine callWith_any (W := W) (s := { s₁ with toks := tk₁ }) (first := []) (f := .builtin "Exception.__init__") (es := [.Name "self" _, .Name "what" _]) rfl rfl ?_
  refine wpAny_items_cons (load "self" _ _ _ _ _ (up S₀ (by decide)) m1 (by rw [hsc]; rfl) (by decide) ?_) (by rfl)
  refine wpAny_items_cons (load "what" _ _ _ _ _ (up S₀ (by decide)) m2 (by rw [hsc]; rfl) (by decide) ?_) (by rfl)
  refine wpAny_pure ⟨X₁, ff_base (s := { s₁ with toks := tk₁ }) X₁ he₁ fun h₂ t1 he₂ k₂ => ?_⟩
  have S₂ : FfS s₁.heap e 0 h₂ := ⟨k₂, t1, none, he₂, .inl rfl⟩
  have he52 : (52 : Addr) ≠ e := fun q => by rw [← q, ff_at P.kin] at hen; cases hen
  have kin : ∀ {k h}, FfS s₁.heap e k h → W.K.In h := fun {k h} S a o ho => S.1 a o (X₁ a o ho) (fun q => by
    have := P.kin a o ho
    rw [q] at this
    rw [show hp.get? e = none from hen] at this
    cases this)
  show wpAny _ _ (execs _ env) _ _ _
  refine wpAny_execs_cons (plainObj_wpAny_Assign_Attribute (load "what" _ _ _ _ _ (up S₂ (by decide)) m2 (by rw [hsc]; rfl) (by decide) (load "self" _ _ _ _ _ (up S₂ (by decide)) m1 (by rw [hsc]; rfl) (by decide) ?_)) (by rfl))
  refine ff_set (kin S₂) S₂ (by decide) rfl fun h₃ tk₃ S₃ => ?_
  show wpAny _ _ (execs _ env) _ _ _
  refine wpAny_execs_cons (plainObj_wpAny_Assign_Attribute (load "at" _ _ _ _ _ (up S₃ (by decide)) m3 (by rw [hsc]; rfl) (by decide) (load "self" _ _ _ _ _ (up S₃ (by decide)) m1 (by rw [hsc]; rfl) (by decide) ?_)) (by rfl))
  refine ff_set (kin S₃) S₃ (by decide) rfl fun h₄ tk₄ S₄ => ?_
  show wpAny _ _ (execs _ env) _ _ _
  refine wpAny_execs_nil ⟨rfl, ?_⟩
  have hnv : ¬ isVal (ffExc t0 none) := by
    rintro (⟨xs, k, q⟩ | ⟨vs, q, q', _⟩)
    · cases q
    · cases q'
  obtain ⟨t5, dd5, he₅, _⟩ := S₄.2
  have T : Turn e ρ s₁ { s₁ with heap := h₄, toks := tk₄ } := Turn.of (s := s₁) he₁ hnv S₄.1
  have heh : W.h₀.get? e = none := by
    cases q : W.h₀.get? e with
    | none => rfl
    | some o => have := P.inv.keep _ o q; rw [show hp.get? e = none from hen] at this; cases this
  exact hq e _ (T.stp (t₁.tr t₂) hen) (T.inv P₂.inv heD heh) hen heD ⟨t5, dd5, he₅⟩
end
end Mine
end

section
set_option maxRecDepth 100000
namespace Mine
open PySem PySem.W PySem.Calls PyProof.Rows
open Sem (wp)

section
variable {W : Wd} {n : Nat} {sc : Scope} {loc : Lc} {σ : St} {X : St → Prop} {K : Fl → Lc → St → Prop} {KV : V → St → Prop}

theorem ff_raise {A : Around} {E : Value → Shared → Prop} {s : Shared} {env : Env} {x : Sem Value} {Q : Flow → Shared → Prop} (hh : A.handled = none)
    (h : wpAny W.M A x (fun v s₁ => ∃ e t dd, v = .ref e ∧ W.K.In s₁.heap ∧ s₁.heap.get? e = some (ffExc t dd) ∧ E (.ref e) s₁) E s) : wpAny W.M A (raiseStmt env (some x) none) Q E s := by
  have hcB := ff_BE
  unfold raiseStmt
  refine wpAny_bind (wpAny_mono h (fun v s₁ h₁ => ?_) fun _ _ x => x)
  obtain ⟨e, t, dd, rfl, X₁, he, hE⟩ := h₁
  have hC := ff_at X₁
  obtain ⟨hp, g, d, tk, os⟩ := s₁
  repeat (first | with_reducible refine wpAny_loadPart_at he ?_ | with_reducible refine wpAny_loadPart_at hC ?_ | (with_reducible refine wpAny_isSubtype_exc hC ?_; rw [hcB]) | wp_step)
  exact wpAny_raiseNew_none hh hE

/-- raise FilterFault(what, at) -/
theorem x_raise {p cpos pos : Pos} {es : List Expr} (h : OKa W (n + 2) sc es loc σ (fun vs σ₁ => ∃ x i, vs = [.str x, .int i] ∧ X σ₁) X) (hsc : sc.names.lookup (Str.ofString "FilterFault") = some .globalImplicit := by rfl)
    (hp : (es.all fun e => match e with | .Starred .. => false | _ => true) = true := by rfl) : OKx W (n + 2) sc (.Raise (some (.Call (.Name "FilterFault" p) es [] cpos)) none pos) loc σ K X := by
  intro A env ρ s E P N H
  rw [arm_exec_Raise]
  refine wpAny_bind (wpAny_standAt ?_)
  show wpAny W.M A (raiseStmt env (some (do let v ← eval (.Call (.Name "FilterFault" p) es [] cpos) env; standAt pos; pure v)) none) _ E s
  refine ff_raise P.hand (wpAny_bind (wpAny_mono (wpAny_Call_Name_kw (load_glb P N hsc (v := .ref 52) rfl ?_ (by decide))) (fun v s₁ h₁ => wpAny_bind (wpAny_standAt (wpAny_pure h₁))) fun _ _ x => x))
  refine callWith_any rfl hp (wpAny_mono (h A env ρ s E cpos P N H) (fun vs s₁ ⟨ds, σ₁, ρ₁, ⟨x, i, e, hx⟩, t₁, I₁, r₁⟩ => ⟨I₁.kin, ?_⟩) fun _ _ x => x)
  subst e
  unfold Rps at r₁; obtain ⟨vx, q1, rfl, rx, r₁⟩ := r₁
  unfold Rps at r₁; obtain ⟨va, q2, rfl, ra, r₁⟩ := r₁
  unfold Rps at r₁; subst r₁
  refine c_fault (P.step t₁ I₁) rx ra fun e s' t' I' hn hD ⟨t, dd, he⟩ => ⟨e, t, dd, rfl, I'.kin, he, ?_⟩
  have hs : s.heap.get? e = none := by
    cases q : s.heap.get? e with
    | none => rfl
    | some o => obtain ⟨o', z⟩ := t₁.ex e o q; rw [hn] at z; cases z
  exact H.ex e σ₁ ρ₁ s' hx (t₁.tr t').weak I' ⟨_, _, _, he, rfl, rfl, rfl, hs, hD, .inl rfl⟩

theorem glb_I {A : Around} {E : Value → Shared → Prop} {ρ : Rho} {s : Shared} {env : Env} {x : Str} {v : Value} {Q : Value → Shared → Prop} (I : Inv W ρ σ s.heap) (hkf : env.scope.kind = .function) (hgl : env.globals = mainGlobals) (hbi : env.builtins = builtinsNs)
    (hk : env.kindOf x = some .globalImplicit) (hg : glb W x = some v) (h : Q v s) (hd : (x == ("__debug__" : Str)) = false) {pos : Pos} : wpAny W.M A (eval (.Name x pos) env) Q E s := by
  refine Name_function_global hkf hk ?_ hd
  unfold loadGlobal
  rw [hgl, hbi]
  unfold glb at hg
  split at hg
  · rename_i u e
    cases hg
    exact wpAny_bind ((looks_nsIn I.kin e).here (wpAny_pure h))
  · rename_i e
    refine wpAny_bind ((looks_nsIn I.kin e).here ?_)
    split at hg
    · cases hg
    · rename_i ne
      refine wpAny_bind (wpAny_nsGet (W.b.keeps I.keep) ?_)
      rw [W.hb x (by intro q; rw [q] at ne; exact ne (by decide)), hg]
      exact wpAny_pure h
  · cases hg

/-- a trace that lands -/
theorem land {A : Around} {E : Value → Shared → Prop} {hb : Heap} {ρ : Rho} {s : Shared} {e : Addr} {Q : Unit → Shared → Prop} (f : Fly hb ρ e s.heap) (h : ∀ h', (∀ b, h'.get? b = s.heap.get? b) → Q () { s with heap := h' }) : wpAny W.M A (setFlight (.ref e) none) Q E s := by
  obtain ⟨oe, vs, a0, he, hc, hd, h0, hbe, heD, h1⟩ := f
  unfold setFlight
  rcases h1 with h1 | ⟨T, oT, ts, h1, hbT, hTD, hTe, hT, hTd, hT3⟩
  · refine wpAny_bind (wpAny_field he hd h1 ?_)
    rw [if_neg (by decide)]
    exact wpAny_pure (h s.heap fun _ => rfl)
  · refine wpAny_bind (wpAny_field he hd h1 ?_)
    rw [if_pos (show (Value.ref T != Value.none) = true from by simp)]
    refine wpAny_setField hT hTd (Array.getElem?_eq_some_iff.mp hT3).1 (h _ fun b => ?_)
    by_cases q : b = T
    · subst q
      have hf : (Obj.mapFields (fun x => x.setIfInBounds 3 ((none : Option Addr).elim Value.none fun f => rawInt f)) oT) = oT := by
        obtain ⟨c, d, dt, sl⟩ := oT
        simp only at hTd
        subst hTd
        unfold Obj.mapFields
        simp only
        congr 2
        obtain ⟨h3, h3'⟩ := Array.getElem?_eq_some_iff.mp hT3
        apply Array.ext
        · simp
        · intro i hi1 hi2
          rw [Array.getElem_setIfInBounds (by simpa using hi2)]
          split
          · rename_i e; subst e; exact h3'.symm
          · rfl
      rw [Heap.get?_update_self _ hT (Obj.isFreed_of_fields (Obj.data_mapFields hTd _)), hf, hT]
    · exact Heap.get?_update_other _ _ (Ne.symm q)

theorem r_tryDef {f : Addr} {oc od : _} {osl : Array (Option Value)} {name qual : Str} {params : Arguments} {tb : List Stmt} {np hp rp np' pos : Pos} {k0 : Nat} {scope : Scope} {dV kV doc pm : Value} {an : Option Addr} {cdv ct : Value} {args : List V} (names : List Str)
    (ho : W.K.lookup f = some ⟨oc, od, .func (fnOf name qual params [.Try tb [.ExceptHandler (some (.Name "FilterFault" np)) none [.Return (some (.Constant .none k0 np')) rp] hp] [] [] pos] scope dV kV doc pm an cdv ct), osl⟩) (hcd : codeIn W.K cdv qual = true)
    (hl : names.length = args.length)
    (hb : ∀ vs : List Value, vs.length = args.length → bindArgs (fnOf name qual params [.Try tb [.ExceptHandler (some (.Name "FilterFault" np)) none [.Return (some (.Constant .none k0 np')) rp] hp] [] [] pos] scope dV kV doc pm an cdv ct) ⟨vs, []⟩ = pure (names.zip vs))
    (hy : ∀ y ∈ names, scope.names.lookup y = some .local ∨ scope.names.lookup y = some .cell)
    (h : OKsR W n scope tb (names.zip args).reverse σ (fun fl _ σ' => ∃ v, fl = .ret v ∧ KV v σ') (fun σ' => KV .none σ')) (hff : scope.names.lookup (Str.ofString "FilterFault") = some .globalImplicit := by rfl)
    (hco : scope.isCoroutine = false := by rfl) (hgen : scope.isGenerator = false := by rfl) (hk : scope.kind = .function := by rfl) : OKdR W (n + 1) (.ref f) args σ KV X := by
  intro A ρ s vs R P r HR H
  refine codeR_call_function (fd := fnOf name qual params _ scope dV kV doc pm an cdv ct) P.d (P.kin _ _ ho) rfl hco hgen rfl (codeRec_of P.kin hcd) ?_
  refine def_core names hl (fun s vs _ h => BindsTo.of_eq (hb vs h)) hy hk P r fun env s₁ P₁ N₁ up lv => codeR_func ?_
  rw [execs_cons]
  refine wpR_bind ?_
  rw [arm_exec_Try]
  refine wpR_then (wpAny_standAt ?_)
  unfold tryStmt
  simp only [List.isEmpty_nil, if_true, List.isEmpty_cons, Bool.false_and, Bool.false_eq_true, if_false]
  refine wpR_bind (wpR_attempt (wpR_mono (h (A.deeper env) env ρ s₁ (fun e s' => wpAny W.M (A.deeper env) (leaving env e) (fun _ s'' => wpR W.M (A.deeper env) (handleBy e env [.ExceptHandler (some (.Name "FilterFault" np)) none [.Return (some (.Constant .none k0 np')) rp] hp])
    (fun f s' => wpR W.M (A.deeper env) (match f with | .next => execs [] env | f => pure f) (fun f s' => R (.ok (.ret (match f with | .ret v => v | _ => .none))) s') (fun e s' => wpAny W.M (A.deeper env) (leaving env e) (fun _ s'' => R (.error e) s'') (fun e' s'' => R (.error e') s'') s') s')
    (fun e s' => wpAny W.M (A.deeper env) (leaving env e) (fun _ s'' => R (.error e) s'') (fun e' s'' => R (.error e') s'') s') s'') (fun e s' => wpAny W.M (A.deeper env) (leaving env e) (fun _ s'' => R (.error e) s'') (fun e' s'' => R (.error e') s'') s') s') P₁ N₁ ⟨PassesOwn.leaving, fun e σ' ρ' s' hx t I fl => ?_⟩) ?_ ?_))
  · refine lv e σ' ρ' s' _ _ t I fl fun h' tt IY fY => ?_
    refine wpR_of (wpAny_handleBy_cons (codeAny_handlers_test ?_) (by intro q; cases q))
    refine glb_I (v := .ref 52) (s := { s' with heap := h' }) IY N₁.hk N₁.glob N₁.bi ((N₁.kindOf _).trans hff) rfl ?_ (by decide)
    obtain ⟨oe, ws, a0, he, hc, _⟩ := id fY
    refine wpAny_excMatches_sub_self (ff_at IY.kin) he hc (by decide) ?_
    refine codeAny_handlers_suite (land (s := { s' with heap := h' }) fY fun h₂ same => ?_)
    refine wpAny_execs_cons (wpAny_Return_some (PySem.wpAny_Constant_none ?_))
    have all : ∀ b o, h'.get? b = some o → h₂.get? b = some o := fun b o e => (same b).trans e
    refine wpR_pure (HR _ _ ⟨.none, σ', ρ', hx, ?_, IY.all all, by unfold Rp; rfl⟩)
    exact tt.tr (Stp.all (s := { s' with heap := h' }) (t' := s'.toks) all)
  · rintro f s' ⟨fl, loc', σ', ρ', ⟨v, rfl, kv⟩, t, I, N, rf⟩
    unfold FlR at rf
    obtain ⟨x, rfl, rx⟩ := rf
    exact wpR_pure (wpR_pure (HR _ _ ⟨v, σ', ρ', kv, up _ _ t, I, rx⟩))
  · intro e s' he
    show wpR _ _ (noteFrame e env >>= fun _ => setFlight e none >>= fun _ => handleBy e env [.ExceptHandler (some (.Name "FilterFault" np)) none [.Return (some (.Constant .none k0 np')) rp] hp]) _ _ _
    rw [← bind_assoc]
    exact wpR_then he
end
end Mine
end

namespace Mine
set_option maxRecDepth 100000
open PySem PySem.W PySem.Calls PyProof.Rows

theorem OKs.monoG {W : Wd} {n : Nat} {sc : Scope} {loc : Lc} {σ : St} {X : St → Prop} {ss : List Stmt} {K₀ K : Fl → Lc → St → Prop} (hk : ∀ f l σ', K₀ f l σ' → K f l σ') (h : ∀ K', (∀ f l σ', K₀ f l σ' → K' f l σ') → OKs W n sc ss loc σ K' X) :
    OKs W n sc ss loc σ K X := (h K₀ fun _ _ _ x => x).mono hk
theorem OKe.monoG {W : Wd} {n : Nat} {sc : Scope} {loc : Lc} {σ : St} {X : St → Prop} {e : Expr} {K₀ K : V → St → Prop} (hk : ∀ v σ', K₀ v σ' → K v σ') (h : ∀ K', (∀ v σ', K₀ v σ' → K' v σ') → OKe W n sc e loc σ K' X) :
    OKe W n sc e loc σ K X := (h K₀ fun _ _ x => x).mono hk
theorem pre {a n : Nat} (h : a ≤ n) (q : Nat.ble 1 a = true) : ∃ m, n = m + 1 := ⟨n - 1, (Nat.sub_add_cancel (Nat.le_trans (Nat.le_of_ble_eq_true q) h)).symm⟩
theorem dn {a b n : Nat} (h : a ≤ n + 1) (q : Nat.ble (b + 1) a = true) : b ≤ n := Nat.le_of_succ_le_succ (Nat.le_trans (Nat.le_of_ble_eq_true q) h)
theorem set_at {σ : St} {i : Nat} {o o' : O} (h : σ[i]? = some o) : (σ.set i o')[i]? = some o' := by
  have := (List.getElem?_eq_some_iff.mp h).1
  simp [this]
theorem app_at {σ τ : St} {i : Nat} {o : O} (h : σ[i]? = some o) : (σ ++ τ)[i]? = some o := by
  rw [List.getElem?_append_left (List.getElem?_eq_some_iff.mp h).1]; exact h
local macro_rules | `(tactic| walk_at "one") => `(tactic| first
  | (with_reducible refine' e_loc _ (hv := ?hv) (h := ?h) (hd := ?hd) (hc := ?hc)
     case hv => exact rfl
     case hd | hc => decide)
  | with_reducible first
    | refine' e_int ?_
    | refine' e_bin ?_
    | refine' t_add ?_
    | refine' t_sub ?_
    | refine' t_and ?_
    | refine' t_bor ?_
    | refine' b_not ?_
    | refine' b_or ?_
    | refine' or_cons ?_
    | refine' or_nil ?_
    | refine' t_lt ?_
    | refine' t_le ?_
    | refine' t_gt ?_
    | refine' t_ge ?_
    | refine' t_eq ?_
    | refine' t_ne ?_
    | refine' t_neg ?_
    | refine' t_iadd ?_
    | refine' e_un ?_
    | refine' e_ife ?_
    | refine' s_cons ?_
    | refine' s_nil ?_
    | refine' x_ret ?_
    | refine' x_ret0 ?_
    | refine' x_if ?_
    | refine' a_nil ?_
    | refine' e_str ?_
    | refine' e_none ?_
    | refine' e_bool ?_
  | (with_reducible refine' t_mul (h := ?h) (hm := ?hm)
     case hm => exact mulL (by decide))
  | (with_reducible refine' e_cmp (h := ?h) (hm := ?hm)
     case hm => with_unfolding_all rfl)
  | (with_reducible refine' b_cmp (h := ?h) (hm := ?hm)
     case hm => with_unfolding_all rfl)
  | (with_reducible refine' x_set (h := ?h) (hy := ?hy) (hs := ?hs)
     case hy => exact rfl
     case hs => exact fun _ => rfl)
  | (with_reducible refine' x_setA (h := ?h) (hs := ?hs)
     case hs => exact fun _ => rfl)
  | (with_reducible refine' x_expr (h := ?h) (hs := ?hs)
     case hs => exact fun _ => rfl)
  | (with_reducible refine' x_aug _ (hv := ?hv) (h := ?h) (hy := ?hy) (hcd := ?hcd)
     case hv | hy => exact rfl
     case hcd => decide)
  | (with_reducible refine' x_augI (h := ?h) (hi := ?hi)
     case hi => exact fun _ _ _ => rfl)
  | (with_reducible refine' x_setI (h := ?h) (hs := ?hs)
     case hs => exact fun _ => rfl)
  | (with_reducible refine' a_cons (h := ?h) (he := ?he)
     case he => exact fun _ => rfl)
  | (with_reducible refine' e_call (h := ?h) (hg := ?hg) (hk := ?hk) (hsc := ?hsc) (hp := ?hp) (hd := ?hd)
     case hg | hk | hsc | hp => exact rfl
     case hd => decide)
  | (with_reducible refine' e_callm (h := ?h) (he := ?he) (hp := ?hp)
     case he => exact fun _ => rfl
     case hp => exact rfl)
  | (with_reducible refine' e_attr (h := ?h) (he := ?he)
     case he => exact fun _ => rfl)
  | (with_reducible refine' e_idx (h := ?h) (hs := ?hs)
     case hs => exact rfl)
  | (with_reducible refine' e_glbI (i := _) (t := _) (hg := ?hg) (h := ?h) (hk := ?hk) (hd := ?hd)
     case hg | hk => exact rfl
     case hd => decide)
  | (with_reducible refine' t_attr (hi := ?hi) (hf := ?hf) (hv := ?hv) (hC := ?hC) (h := ?h)
     case hi => walk_at "at"
     case hf | hv => exact rfl
     case hC => exact ⟨rfl, rfl, rfl⟩)
  )
local macro_rules | `(tactic| walk_at "om") => `(tactic| first
  | exact Nat.le_of_ble_eq_true rfl
  | (apply Nat.le_trans; assumption; exact Nat.le_of_ble_eq_true rfl)
  | (apply Nat.le_trans; apply Nat.le_of_lt; assumption; exact Nat.le_of_ble_eq_true rfl)
  | (apply Nat.le_trans; apply Nat.add_le_add_right; assumption; exact Nat.le_of_ble_eq_true rfl)
  | (apply Nat.lt_of_le_of_lt; assumption; exact Nat.le_of_ble_eq_true rfl)
  | (apply Nat.lt_of_lt_of_le; assumption; exact Nat.le_of_ble_eq_true rfl)
  | (apply Nat.ne_of_lt; first | assumption | (apply And.left; assumption) | (apply And.right; assumption))
  | omega)
local macro_rules | `(tactic| walk_at "at") => `(tactic| first
  | assumption
  | (refine' set_at (h := ?h); case h => walk_at "at")
  | (refine' app_at (h := ?h); case h => walk_at "at"))
section
variable {W : Wd} {n : Nat} {σ : St} {X : St → Prop} {K : V → St → Prop}
theorem f_low_bits (hn : 1 ≤ n) {v c : Int} (h0 : 0 ≤ c) (h1 : c ≤ 1000) (h : K (.int (Builtin.bitAnd v (1 * 2 ^ c.toNat - 1))) σ) : OKd W n (.ref 61) [.int v, .int c] σ K X := by
  obtain ⟨n, rfl⟩ := pre hn rfl
  refine c_def ["value", "count"] rfl rfl rfl ?_ (by decide) ?_
  · exact len2 fun a b => rfl
  · repeat walk_at "one"
    refine t_shl ?_ h0 (by walk_at "om") (by decide)
    repeat walk_at "one"
    exact h
noncomputable def bitsF (d : List UInt8) (a h c : Int) : List (Str × V) := [("data", .bytes d.toArray), ("at", .int a), ("held", .int h), ("count", .int c)]
noncomputable def bitsO (d : List UInt8) (a h c : Int) : O := .inst 114 (bitsF d a h c)
theorem get_bits {name : Str} (h : plainGet W.K 114 name = true) (h' : findIn W.K (.ref 114) name = some none) : GetOk W 114 name := ⟨h, rfl, h'⟩
theorem bor_nat (x y : Nat) : Builtin.bitOr (x : Int) (y : Int) = ((x ||| y : Nat) : Int) := by
  unfold Builtin.bitOr Builtin.bitAnd Builtin.bitNot
  have h1 : decide ((0 : Int) ≤ -(x : Int) - 1) = false := by simp; walk_at "om"
  have h2 : decide ((0 : Int) ≤ -(y : Int) - 1) = false := by simp; walk_at "om"
  rw [h1, h2]
  simp only
  have e1 : (-(-(x : Int) - 1) - 1).toNat = x := by walk_at "om"
  have e2 : (-(-(y : Int) - 1) - 1).toNat = y := by walk_at "om"
  rw [e1, e2]
  omega
theorem held_more (N p c : Nat) : Builtin.bitOr ((N / 2 ^ p % 2 ^ c : Nat) : Int) (((N / 2 ^ (p + c) % 256 : Nat) : Int) * 2 ^ c) = ((N / 2 ^ p % 2 ^ (c + 8) : Nat) : Int) := by
  have e : (((N / 2 ^ (p + c) % 256 : Nat) : Int) * 2 ^ c) = ((2 ^ c * (N / 2 ^ (p + c) % 256) : Nat) : Int) := by push_cast; rw [Int.mul_comm]
  rw [e, bor_nat, Nat.or_comm, ← Nat.two_pow_add_eq_or_of_lt (Nat.mod_lt _ (Nat.two_pow_pos c))]
  congr 1
  rw [show (2 : Nat) ^ (c + 8) = 2 ^ c * 256 from by rw [Nat.pow_add], Nat.mod_mul, Nat.pow_add, Nat.div_div_eq_div_mul]
  omega
noncomputable def num : List UInt8 → Nat
  | [] => 0
  | b :: r => b.toNat + 256 * num r
theorem num_at : ∀ (d : List UInt8) (a : Nat) (v : UInt8), d[a]? = some v → num d / 2 ^ (8 * a) % 256 = v.toNat
  | [], a, v, h => by simp at h
  | b :: r, 0, v, h => by
    simp at h; subst h
    have := b.toNat_lt
    simp [num] <;> omega
  | b :: r, a + 1, v, h => by
    simp at h
    rw [← num_at r a v h]
    have := b.toNat_lt
    rw [show 8 * (a + 1) = 8 + 8 * a from by walk_at "om", Nat.pow_add, ← Nat.div_div_eq_div_mul]
    have e : num (b :: r) / 2 ^ 8 = num r := by simp [num] <;> omega
    rw [e]
noncomputable def c8 (p : Nat) : Nat := (p + 7) / 8
noncomputable def bitsQ (d : List UInt8) (p a : Nat) : O := bitsO d a (num d / 2 ^ p % 2 ^ (8 * a - p) : Nat) (8 * a - p : Nat)
noncomputable def bitsP (d : List UInt8) (p : Nat) : O := bitsQ d p (c8 p)
theorem bits_data {d : List UInt8} {a h c : Int} : fput (Str.ofString "data") (.bytes d.toArray) [] = [(Str.ofString "data", .bytes d.toArray)] := rfl
theorem bits_at {d : List UInt8} {a h c v : Int} : O.inst 114 (fput (Str.ofString "at") (.int v) (bitsF d a h c)) = bitsO d v h c := rfl
theorem bits_held {d : List UInt8} {a h c v : Int} : O.inst 114 (fput (Str.ofString "held") (.int v) (bitsF d a h c)) = bitsO d a v c := rfl
theorem bits_count {d : List UInt8} {a h c v : Int} : O.inst 114 (fput (Str.ofString "count") (.int v) (bitsF d a h c)) = bitsO d a h v := rfl
local macro_rules | `(tactic| walk_at "sa") => `(tactic| (
  refine' ⟨?i, ?C, ?fs, ?e, ?hi, ?hc, ?hz, ?hk⟩
  case e => exact rfl
  case hi => walk_at "at"
  case hc => exact ⟨rfl, rfl, rfl, rfl⟩
  case hz => exact Nat.le_of_ble_eq_true rfl
  (first | rw [bits_at] | rw [bits_held] | rw [bits_count])
  (try rw [List.set_set])))
theorem OKb.sub {sc : Scope} {loc loc' : Lc} {e : Expr} {K : Bool → St → Prop} (h : OKb W n sc e loc' σ K X) (hs : ∀ x v, loc'.lookup x = some v → loc.lookup x = some v) : OKb W n sc e loc σ K X :=
  fun A env ρ s E P N H => h A env ρ s E P (N.sub hs) H
theorem f_left (hn : 1 ≤ n) {i : Nat} {d : List UInt8} {a hh c : Int} (hi : σ[i]? = some (bitsO d a hh c)) (hz : d.length ≤ 1000000) (h : K (.int (c + 8 * (d.length - a))) σ) : OKd W n (.ref 83) [.obj i] σ K X := by
  obtain ⟨n, rfl⟩ := pre hn rfl
  refine c_def ["self"] rfl rfl rfl ?_ (by decide) ?_
  · exact len1 fun a => rfl
  · repeat walk_at "one"
    refine c_lenB (by simpa using hz) ?_
    repeat walk_at "one"
    simp only [List.size_toArray]
    exact h
theorem f_need (hn : 2 ≤ n) {i : Nat} {d : List UInt8} {a hh c : Int} {k : Int} (hi : σ[i]? = some (bitsO d a hh c)) (hz : d.length ≤ 1000000) (hk : k ≤ c + 8 * (d.length - a)) (h : K .none σ) : OKd W n (.ref 90) [.obj i, .int k] σ K X := by
  obtain ⟨n, rfl⟩ := pre hn rfl
  refine c_def ["self", "count"] rfl rfl rfl ?_ (by decide) ?_
  · exact len2 fun a b => rfl
  · repeat walk_at "one"
    refine ⟨.ref 83, m_inst hi rfl rfl rfl rfl, rfl, ?_⟩
    repeat walk_at "one"
    refine (f_left (dn hn rfl) hi hz ?_).call
    repeat walk_at "one"
    refine ⟨_, rfl, fun q => ?_, fun q => ?_⟩
    · simp at q; walk_at "om"
    · repeat walk_at "one"
      exact h
theorem low_val (N p : Nat) {c k : Nat} (h : k ≤ c) : Builtin.bitAnd ((N / 2 ^ p % 2 ^ c : Nat) : Int) (1 * 2 ^ (k : Int).toNat - 1) = ((N / 2 ^ p % 2 ^ k : Nat) : Int) := by
  rw [Int.one_mul, Int.toNat_natCast, kbt_mask]
  have : (2 : Int) ^ k = ((2 ^ k : Nat) : Int) := by push_cast; rfl
  rw [this, ← Int.natCast_emod, Nat.mod_mod_of_dvd _ (Nat.pow_dvd_pow 2 h)]
theorem high_val (N p : Nat) {c k : Nat} (h : k ≤ c) : Int.fdiv ((N / 2 ^ p % 2 ^ c : Nat) : Int) (2 ^ (k : Int).toNat) = ((N / 2 ^ (p + k) % 2 ^ (c - k) : Nat) : Int) := by
  have : (2 : Int) ^ (k : Int).toNat = ((2 ^ k : Nat) : Int) := by rw [Int.toNat_natCast]; push_cast; rfl
  rw [this, Int.fdiv_eq_ediv_of_nonneg _ (Int.natCast_nonneg _), ← Int.natCast_ediv]
  congr 1
  have e : 2 ^ c = 2 ^ k * 2 ^ (c - k) := by rw [← Nat.pow_add]; congr 1; walk_at "om"
  rw [e, Nat.mod_mul_right_div_self, Nat.div_div_eq_div_mul, Nat.pow_add]
theorem f_take (hn : 3 ≤ n) {i : Nat} {d : List UInt8} {p k : Nat} (hi : σ[i]? = some (bitsP d p)) (hz : d.length ≤ 1000000) (hp : p + k ≤ 8 * d.length) (hk : k ≤ 1000)
    (h : K (.int (num d / 2 ^ p % 2 ^ k : Nat)) (σ.set i (bitsP d (p + k)))) : OKd W n (.ref 97) [.obj i, .int k] σ K X := by
  obtain ⟨n, rfl⟩ := pre hn rfl
  refine c_def ["self", "count"] rfl rfl rfl ?_ (by decide) ?_
  · exact len2 fun a b => rfl
  · repeat walk_at "one"
    refine ⟨.ref 90, m_inst hi rfl rfl rfl rfl, rfl, ?_⟩
    repeat walk_at "one"
    refine (f_need (dn hn rfl) hi hz (by unfold c8; walk_at "om") ?_).call
    walk_at "one"
    refine x_while (fun m l σ' => ∃ a, m = d.length - a ∧ p ≤ 8 * a ∧ a ≤ d.length ∧ 8 * a < p + k + 8 ∧ σ' = σ.set i (bitsQ d p a) ∧ Sub [("self", .obj i), ("count", .int k)] l) (d.length - c8 p)
      ⟨c8 p, rfl, by unfold c8; walk_at "om", by unfold c8; walk_at "om", by unfold c8; walk_at "om", (by
        show σ = σ.set i (bitsP d p)
        have := List.getElem?_eq_some_iff.mp hi
        rw [← this.2]; simp), rfl, rfl, trivial⟩ ?_
    rintro J hJ m l σ' ⟨a, rfl, h1, h2, h3, rfl, hl⟩
    have hi' : (σ.set i (bitsQ d p a))[i]? = some (bitsO d a (num d / 2 ^ p % 2 ^ (8 * a - p) : Nat) (8 * a - p : Nat)) := set_at hi
    generalize hσ : σ.set i (bitsQ d p a) = σ' at hi'
    refine OKb.sub (loc' := [("self", .obj i), ("count", .int k)]) ?_ hl.look
    repeat walk_at "one"
    refine ⟨_, rfl, fun q => ?_, fun q => ?_⟩
    · refine OKs.sub (loc' := [("self", .obj i), ("count", .int k)]) ?_ hl.look
      have h4 : a < d.length := by simp at q; walk_at "om"
      repeat walk_at "one"
      refine i_bytes (by walk_at "om") hz (v := d[a]) (by simp) ?_
      repeat walk_at "one"
      refine t_shl ?_ (by walk_at "om") (by walk_at "om") (by have := d[a].toNat_lt; walk_at "om")
      repeat walk_at "one"
      walk_at "sa"
      repeat walk_at "one"
      walk_at "sa"
      repeat walk_at "one"
      walk_at "sa"
      repeat walk_at "one"
      refine hJ _ _ _ _ ⟨d.length - (a + 1), by walk_at "om", a + 1, rfl, by walk_at "om", by walk_at "om", by simp at q; walk_at "om", ?_, rfl, rfl, trivial⟩
      have e8 : 8 * a - p + 8 = 8 * (a + 1) - p := by omega
      rw [← hσ, List.set_set]
      congr 1
      unfold bitsQ
      congr 1
      · rw [← num_at d a d[a] (by simp), show 8 * a = p + (8 * a - p) from by walk_at "om", Int.toNat_natCast, Nat.add_sub_cancel_left, held_more]
        congr 5
      · exact congrArg Int.ofNat e8
    · refine OKs.sub (loc' := [("self", .obj i), ("count", .int k)]) ?_ hl.look
      repeat walk_at "one"
      refine OKd.call (f_low_bits (dn hn rfl) (c := k) (by walk_at "om") (by walk_at "om") ?_)
      repeat walk_at "one"
      refine t_shr ?_ (by walk_at "om")
      repeat walk_at "one"
      walk_at "sa"
      repeat walk_at "one"
      walk_at "sa"
      repeat walk_at "one"
      have hq : k ≤ 8 * a - p := by simp at q; walk_at "om"
      have ha : c8 (p + k) = a := by unfold c8; walk_at "om"
      show K (V.int _) _
      rw [low_val _ _ hq, high_val _ _ hq, ← hσ, List.set_set]
      have e : bitsP d (p + k) = bitsO d a (num d / 2 ^ (p + k) % 2 ^ (8 * a - p - k) : Nat) (((8 * a - p : Nat) : Int) - k) := by
        unfold bitsP bitsQ
        rw [ha, show 8 * a - (p + k) = 8 * a - p - k from by walk_at "om", Int.natCast_sub hq]
      rw [← e]
      exact h
theorem f_align (hn : 1 ≤ n) {i : Nat} {d : List UInt8} {p : Nat} (hi : σ[i]? = some (bitsP d p)) (h : K .none (σ.set i (bitsP d (8 * c8 p)))) : OKd W n (.ref 104) [.obj i] σ K X := by
  obtain ⟨n, rfl⟩ := pre hn rfl
  refine c_def ["self"] rfl rfl rfl ?_ (by decide) ?_
  · exact len1 fun a => rfl
  · have hi' : σ[i]? = some (bitsO d (c8 p) (num d / 2 ^ p % 2 ^ (8 * c8 p - p) : Nat) (8 * c8 p - p : Nat)) := hi
    repeat walk_at "one"
    walk_at "sa"
    repeat walk_at "one"
    walk_at "sa"
    repeat walk_at "one"
    show K .none _
    have e : bitsP d (8 * c8 p) = bitsO d (c8 p) 0 0 := by
      have e' : c8 (8 * c8 p) = c8 p := by unfold c8; walk_at "om"
      unfold bitsP bitsQ
      rw [e', Nat.sub_self, Nat.pow_zero, Nat.mod_one]; rfl
    rw [← e]
    exact h
theorem f_octets (hn : 3 ≤ n) {i : Nat} {d : List UInt8} {p k : Nat} (hi : σ[i]? = some (bitsP d p)) (hz : d.length ≤ 1000000) (hp : c8 p + k ≤ d.length)
    (h : K (.bytes ((d.drop (c8 p)).take k).toArray) (σ.set i (bitsP d (8 * (c8 p + k))))) : OKd W n (.ref 111) [.obj i, .int k] σ K X := by
  obtain ⟨n, rfl⟩ := pre hn rfl
  refine c_def ["self", "count"] rfl rfl rfl ?_ (by decide) ?_
  · exact len2 fun a b => rfl
  · have hi' : σ[i]? = some (bitsO d (c8 p) (num d / 2 ^ p % 2 ^ (8 * c8 p - p) : Nat) (8 * c8 p - p : Nat)) := hi
    repeat walk_at "one"
    refine ⟨.ref 90, m_inst hi rfl rfl rfl rfl, rfl, ?_⟩
    repeat walk_at "one"
    refine (f_need (dn hn rfl) hi' hz (by walk_at "om") ?_).call
    repeat walk_at "one"
    refine ⟨.ref 104, m_inst hi rfl rfl rfl rfl, rfl, ?_⟩
    repeat walk_at "one"
    refine OKd.call (f_align (dn hn rfl) hi ?_)
    have e : bitsP d (8 * c8 p) = bitsO d (c8 p) 0 0 := by
      have e' : c8 (8 * c8 p) = c8 p := by unfold c8; walk_at "om"
      unfold bitsP bitsQ
      rw [e', Nat.sub_self, Nat.pow_zero, Nat.mod_one]; rfl
    rw [e]
    have hi2 := set_at (o' := bitsO d (c8 p) 0 0) hi
    repeat walk_at "one"
    walk_at "sa"
    repeat walk_at "one"
    refine e_cut ?_
    repeat walk_at "one"
    show OKe _ _ _ _ _ _ _ _
    repeat walk_at "one"
    show OKe _ _ _ _ _ _ _ _
    repeat walk_at "one"
    refine cut_bytes (by walk_at "om") (by walk_at "om") (by walk_at "om") hz ?_
    repeat walk_at "one"
    refine c_bytesB ?_
    repeat walk_at "one"
    show K _ _
    have e2 : bitsP d (8 * (c8 p + k)) = bitsO d ((c8 p : Int) + k) 0 0 := by
      have e' : c8 (8 * (c8 p + k)) = c8 p + k := by unfold c8; walk_at "om"
      unfold bitsP bitsQ
      rw [e', Nat.sub_self, Nat.pow_zero, Nat.mod_one]; rfl
    show K (V.bytes _) _
    rw [← e2, show ((c8 p : Int) + k - k).toNat = c8 p from by walk_at "om", show ((c8 p : Int) + k).toNat - c8 p = k from by walk_at "om"]
    exact h
theorem f_bits (hn : 1 ≤ n) {i : Nat} {d : List UInt8} {a : Int} (hi : σ[i]? = some (.inst 114 [])) (h : K .none (σ.set i (bitsO d a 0 0))) : OKd W n (.ref 76) [.obj i, .bytes d.toArray, .int a] σ K X := by
  obtain ⟨n, rfl⟩ := pre hn rfl
  refine c_defD ["self", "data", "at"] rfl rfl rfl ?_ (by decide) ?_
  · exact fun s vs X hv => len3 (P := fun vs => BindsTo s _ ⟨vs, []⟩ (List.zip _ vs)) (fun a b c => binds_K X rfl rfl rfl rfl rfl) vs hv
  · repeat walk_at "one"
    refine ⟨_, _, _, rfl, hi, ⟨rfl, rfl, rfl, rfl⟩, Nat.le_of_ble_eq_true rfl, ?_⟩
    repeat walk_at "one"
    refine ⟨_, _, _, rfl, set_at hi, ⟨rfl, rfl, rfl, rfl⟩, Nat.le_of_ble_eq_true rfl, ?_⟩
    rw [List.set_set]
    repeat walk_at "one"
    refine ⟨_, _, _, rfl, set_at hi, ⟨rfl, rfl, rfl, rfl⟩, Nat.le_of_ble_eq_true rfl, ?_⟩
    rw [List.set_set]
    repeat walk_at "one"
    refine ⟨_, _, _, rfl, set_at hi, ⟨rfl, rfl, rfl, rfl⟩, Nat.le_of_ble_eq_true rfl, ?_⟩
    rw [List.set_set]
    repeat walk_at "one"
    exact h
end

section
variable {W : Wd} {n : Nat} {σ : St} {X : St → Prop} {K : V → St → Prop}
noncomputable def iZ (ls : List Nat) : List Int := ls.map fun l : Nat => (l : Int)
noncomputable abbrev iV (ls : List Nat) : List V := (iZ ls).map .int
noncomputable def mx (ls : List Nat) : Nat := ls.foldr max 0
theorem mx_ge : ∀ (ls : List Nat) (l : Nat), l ∈ ls → l ≤ mx ls
  | [], l, h => by cases h
  | a :: r, l, h => by
    show l ≤ max a (mx r)
    rcases List.mem_cons.mp h with e | e
    · omega
    · have := mx_ge r l e; walk_at "om"
theorem mx_mem : ∀ (ls : List Nat), mx ls = 0 ∨ mx ls ∈ ls
  | [] => .inl rfl
  | a :: r => by
    show max a (mx r) = 0 ∨ max a (mx r) ∈ a :: r
    rcases Nat.le_total a (mx r) with e | e
    · rw [Nat.max_eq_right e]
      rcases mx_mem r with h | h
      · exact .inl h
      · exact .inr (List.mem_cons_of_mem _ h)
    · rw [Nat.max_eq_left e]; exact .inr List.mem_cons_self
theorem mx_is {ls : List Nat} {M : Int} (h1 : M ∈ (0 :: iZ ls)) (h2 : ∀ a, a ∈ (0 :: iZ ls) → a ≤ M) : M = mx ls := by
  have a : ((mx ls : Nat) : Int) ≤ M := by
    rcases mx_mem ls with h | h
    · rw [h]; exact h2 0 List.mem_cons_self
    · exact h2 _ (List.mem_cons_of_mem _ (List.mem_map.mpr ⟨_, h, rfl⟩))
  have b : M ≤ mx ls := by
    rcases List.mem_cons.mp h1 with h | h
    · omega
    · obtain ⟨l, hl, rfl⟩ := List.mem_map.mp h
      have := mx_ge ls l hl; walk_at "om"
  omega
theorem iV_len (ls : List Nat) : (iV ls).length = ls.length := by simp [iV, iZ]
theorem iV_at {ls : List Nat} {k : Nat} {y : V} (h : (iV ls)[k]? = some y) : ∃ hk : k < ls.length, y = .int (ls[k] : Nat) := by
  unfold iV iZ at h
  simp only [List.map_map, List.getElem?_map, Option.map_eq_some_iff] at h
  obtain ⟨a, ha, rfl⟩ := h
  obtain ⟨hk, rfl⟩ := List.getElem?_eq_some_iff.mp ha
  exact ⟨hk, rfl⟩
theorem f_greatest (hn : 1 ≤ n) {ls : List Nat} (hz : ls.length ≤ 1000) (h : K (.int (mx ls)) σ) : OKd W n (.ref 125) [.lst (iV ls)] σ K X := by
  obtain ⟨n, rfl⟩ := pre hn rfl
  refine c_def ["lengths"] rfl rfl rfl ?_ (by decide) ?_
  · exact len1 fun a => rfl
  · repeat walk_at "one"
    refine e_lst ?_
    repeat walk_at "one"
    refine ⟨by simp, ?_⟩
    repeat walk_at "one"
    refine c_list rfl (by rw [iV_len]; walk_at "om") ?_
    refine t_addL rfl rfl (by rw [iV_len]; simp <;> omega) ?_
    repeat walk_at "one"
    refine c_max (ns := 0 :: iZ ls) rfl (by simp) fun M h1 h2 => ?_
    repeat walk_at "one"
    show K (.int M) σ
    rw [mx_is h1 h2]; exact h
noncomputable def tStep (t : List Nat) (l : Nat) : List Nat := if 0 < l then t.set l (t.getD l 0 + 1) else t
noncomputable def tallyF (ls : List Nat) : List Nat := ls.foldl tStep (List.replicate (mx ls + 1) 0)
theorem tStep_len (t : List Nat) (l : Nat) : (tStep t l).length = t.length := by unfold tStep; split <;> simp
theorem tFold_len : ∀ (ls : List Nat) (t : List Nat), (ls.foldl tStep t).length = t.length
  | [], _ => rfl
  | a :: r, t => by rw [List.foldl_cons, tFold_len r, tStep_len]
theorem iV_set (t : List Nat) (l v : Nat) : (iV t).set l (.int (v : Int)) = iV (t.set l v) := by
  simp [iV, iZ, List.map_set]
theorem iV_get {ls : List Nat} {k : Nat} (h : k < ls.length) : (iV ls)[k]? = some (.int (ls[k] : Nat)) := by
  simp [iV, iZ, h]
theorem f_tally (hn : 2 ≤ n) {ls : List Nat} (hz : ls.length ≤ 1000) (hm : mx ls ≤ 1000) (h : K (.lst (iV (tallyF ls))) σ) : OKd W n (.ref 132) [.lst (iV ls)] σ K X := by
  obtain ⟨n, rfl⟩ := pre hn rfl
  refine OKd.drop (c_def ["lengths"] rfl rfl rfl ?_ (by decide) ?_)
  · exact len1 fun a => rfl
  · repeat walk_at "one"
    refine e_lst ?_
    repeat walk_at "one"
    refine ⟨by simp, ?_⟩
    repeat walk_at "one"
    refine OKd.call (f_greatest (dn hn rfl) hz ?_)
    repeat walk_at "one"
    refine t_mulLM (vs := [.int 0]) rfl (by walk_at "om") (by simp <;> omega) ?_
    repeat walk_at "one"
    refine x_for ?_
    repeat walk_at "one"
    have el : ∀ σ' : St, Elems σ' (.lst (iV ls)) (iV ls) := fun _ => rfl
    refine ⟨iV ls, fun k l σ' => σ' = σ ++ [.list (iV ((ls.take k).foldl tStep (List.replicate (mx ls + 1) 0)))] ∧ Sub [("lengths", .lst (iV ls)), ("tally", .obj σ.length)] l, ⟨?_, rfl, rfl, trivial⟩, fun k l σ' _ => el σ', ?_, ?_⟩
    · have : (List.replicate ((mx ls : Int) + 1).toNat [V.int 0]).flatten = iV (List.replicate (mx ls + 1) 0) := by
        rw [show ((mx ls : Int) + 1).toNat = mx ls + 1 from by walk_at "om"]
        simp [iV, iZ]
      rw [this]; rfl
    · rintro J hJ k l σ' y ⟨rfl, hl⟩ hy
      obtain ⟨hk, rfl⟩ := iV_at hy
      have hl1 : ls[k] ≤ mx ls := mx_ge ls _ (List.getElem_mem hk)
      have hlen : ((ls.take k).foldl tStep (List.replicate (mx ls + 1) 0)).length = mx ls + 1 := by rw [tFold_len]; simp
      have hstep : (ls.take (k + 1)).foldl tStep (List.replicate (mx ls + 1) 0) = tStep ((ls.take k).foldl tStep (List.replicate (mx ls + 1) 0)) ls[k] := by
        rw [List.take_succ_eq_append_getElem hk, List.foldl_append]; rfl
      refine OKs.sub (loc' := [("length", .int (ls[k] : Nat)), ("lengths", .lst (iV ls)), ("tally", .obj σ.length)]) ?_ (Sub.look ⟨rfl, hl.1, hl.2.1, trivial⟩)
      generalize (ls.take k).foldl tStep (List.replicate (mx ls + 1) 0) = t at hlen hstep
      have ht : (σ ++ [O.list (iV t)])[σ.length]? = some (.list (iV t)) := by simp
      repeat walk_at "one"
      refine ⟨_, rfl, fun q => ?_, fun q => ?_⟩
      · have q' : 0 < ls[k] := by simpa using q
        repeat walk_at "one"
        refine itemT_lst (vs := iV t) ht (by walk_at "om") (iV_get (k := ls[k]) (by walk_at "om")) (by rw [iV_len]; walk_at "om") ?_
        repeat walk_at "one"
        refine u_set (vs := iV t) ht (by walk_at "om") (by rw [iV_len]; walk_at "om") (by rw [iV_len]; walk_at "om") ?_
        repeat walk_at "one"
        refine hJ _ _ _ _ ⟨?_, rfl, rfl, trivial⟩
        rw [hstep, List.set_append_right _ _ (Nat.le_refl _), Nat.sub_self]
        show σ ++ [O.list ((iV t).set ls[k] (.int ((t[ls[k]] : Nat) + 1)))] = _
        rw [show ((t[ls[k]] : Nat) : Int) + 1 = ((t[ls[k]] + 1 : Nat) : Int) from by simp, iV_set]
        unfold tStep
        rw [if_pos q', List.getD_eq_getElem?_getD, List.getElem?_eq_getElem (by walk_at "om")]
        rfl
      · have q' : ¬ 0 < ls[k] := by simpa using q
        repeat walk_at "one"
        refine hJ _ _ _ _ ⟨?_, rfl, rfl, trivial⟩
        rw [hstep]
        unfold tStep
        rw [if_neg q']
    · rintro l σ' ⟨rfl, hl⟩
      rw [iV_len, List.take_length]
      refine OKs.sub (loc' := [("tally", .obj σ.length)]) ?_ (Sub.look ⟨hl.2.1, trivial⟩)
      repeat walk_at "one"
      show DropOk _ _ _ _
      exact .lst (show (σ ++ [O.list (iV (tallyF ls))])[σ.length]? = _ by simp) (Nat.le_refl _) h
theorem iV_drop (ls : List Nat) (k : Nat) : (iV ls).drop k = iV (ls.drop k) := by simp [iV, iZ, List.map_drop]
noncomputable def rStep (r : Int) (t : Nat) : Int := 2 * r - t
noncomputable def roomF (ls : List Nat) : Int := ((tallyF ls).drop 1).foldl rStep 1
theorem tallyF_len (ls : List Nat) : (tallyF ls).length = mx ls + 1 := by unfold tallyF; rw [tFold_len]; simp
theorem f_room (hn : 3 ≤ n) {ls : List Nat} (hz : ls.length ≤ 1000) (hm : mx ls ≤ 1000) (h : K (.int (roomF ls)) σ) : OKd W n (.ref 139) [.lst (iV ls)] σ K X := by
  obtain ⟨n, rfl⟩ := pre hn rfl
  refine c_def ["lengths"] rfl rfl rfl ?_ (by decide) ?_
  · exact len1 fun a => rfl
  · repeat walk_at "one"
    refine x_for (e_cut ?_)
    repeat walk_at "one"
    refine OKd.call (f_tally (dn hn rfl) hz hm ?_)
    show OKe _ _ _ _ _ _ _ _
    repeat walk_at "one"
    refine cut_from rfl (by walk_at "om") (by rw [iV_len, tallyF_len]; walk_at "om") ?_
    rw [show (1 : Int).toNat = 1 from rfl, iV_drop]
    refine ⟨iV ((tallyF ls).drop 1), fun k l σ' => σ' = σ ∧ Sub [("room", .int ((((tallyF ls).drop 1).take k).foldl rStep 1))] l, ⟨rfl, rfl, trivial⟩, fun k l σ' _ => rfl, ?_, ?_⟩
    · rintro J hJ k l σ' y ⟨rfl, hl⟩ hy
      obtain ⟨hk, rfl⟩ := iV_at hy
      refine OKs.sub (loc' := [("taken", .int (((tallyF ls).drop 1)[k] : Nat)), ("room", .int ((((tallyF ls).drop 1).take k).foldl rStep 1))]) ?_ (Sub.look ⟨rfl, hl.1, trivial⟩)
      repeat walk_at "one"
      refine hJ _ _ _ _ ⟨rfl, ?_, trivial⟩
      rw [List.take_succ_eq_append_getElem hk, List.foldl_append]
      rfl
    · rintro l σ' ⟨rfl, hl⟩
      rw [iV_len, List.take_length] at hl
      refine OKs.sub (loc' := [("room", .int (roomF ls))]) ?_ (Sub.look ⟨hl.1, trivial⟩)
      repeat walk_at "one"
      exact h
theorem f_over (hn : 4 ≤ n) {ls : List Nat} (hz : ls.length ≤ 1000) (hm : mx ls ≤ 1000) (h : K (.bool (decide (roomF ls < 0))) σ) : OKd W n (.ref 153) [.lst (iV ls)] σ K X := by
  obtain ⟨n, rfl⟩ := pre hn rfl
  refine c_def ["lengths"] rfl rfl rfl ?_ (by decide) ?_
  · exact len1 fun a => rfl
  · repeat walk_at "one"
    refine OKd.call (f_room (dn hn rfl) hz hm ?_)
    repeat walk_at "one"
    exact h
end

section
variable {W : Wd} {n : Nat} {σ : St} {X : St → Prop} {K : V → St → Prop}
theorem set_mid (σ : St) (a b : O) (τ : St) : (σ ++ a :: τ).set σ.length b = σ ++ b :: τ := by
  rw [List.set_append_right _ _ (Nat.le_refl _), Nat.sub_self]; rfl
theorem get_mid (σ : St) (a : O) (τ : St) : (σ ++ a :: τ)[σ.length]? = some a := by
  rw [List.getElem?_append_right (Nat.le_refl _), Nat.sub_self]; rfl
theorem set_in (σ : St) (a b : O) (τ : St) (j : Nat) : (σ ++ a :: τ).set (σ.length + 1 + j) b = σ ++ a :: τ.set j b := by
  rw [List.set_append_right _ _ (by walk_at "om"), show σ.length + 1 + j - σ.length = j + 1 from by walk_at "om"]; rfl
theorem get_in (σ : St) (a : O) (τ : St) (j : Nat) : (σ ++ a :: τ)[σ.length + 1 + j]? = τ[j]? := by
  rw [List.getElem?_append_right (by walk_at "om"), show σ.length + 1 + j - σ.length = j + 1 from by walk_at "om"]; rfl
theorem rng_el {k : Nat} (hk : k ≤ 1000000000) : Elems σ (.rng 0 (k : Int) 1) (iV (List.range k)) := by
  refine ⟨by decide, by decide, by decide, by walk_at "om", ?_⟩
  have e : (rsz 0 (k : Int) 1).toNat = k := by
    unfold rsz Builtin.Range.rangeSize
    rw [if_pos (by decide)]
    split
    · simp <;> omega
    · omega
  unfold rngL
  rw [e]
  simp [iV, iZ]
theorem rng_at {k j : Nat} {y : V} (h : (iV (List.range k))[j]? = some y) : j < k ∧ y = .int (j : Nat) := by
  obtain ⟨hj, rfl⟩ := iV_at h
  simp at hj
  exact ⟨hj, by simp⟩
theorem symHeaps_len : ∀ (l : List Nat) (f : List (List Nat) → Nat → List (List Nat)) (hf : ∀ a b, (f a b).length = a.length) (t : List (List Nat)), (l.foldl f t).length = t.length
  | [], _, _, _ => rfl
  | a :: r, f, hf, t => by rw [List.foldl_cons, symHeaps_len r f hf, hf]
noncomputable def hStep (ls : List Nat) (hs : List (List Nat)) (s : Nat) : List (List Nat) := hs.set (ls.getD s 0) (hs.getD (ls.getD s 0) [] ++ [s])
noncomputable def heapsK (ls : List Nat) (k : Nat) : List (List Nat) := (List.range k).foldl (hStep ls) (List.replicate (mx ls + 1) [])
theorem heapsK_len (ls : List Nat) (k : Nat) : (heapsK ls k).length = mx ls + 1 := by
  unfold heapsK
  rw [symHeaps_len _ _ (fun a b => by simp [hStep])]; simp
theorem heapsK_step (ls : List Nat) (k : Nat) : heapsK ls (k + 1) = hStep ls (heapsK ls k) k := by
  unfold heapsK
  rw [List.range_succ, List.foldl_append]; rfl
noncomputable def symbolsF (ls : List Nat) : List Nat := ((heapsK ls ls.length).drop 1).flatten
noncomputable def objs (m k : Nat) : List V := (List.range k).map fun j => .obj (m + 1 + j)
noncomputable def hp (σ : St) (hs : List (List Nat)) : St := σ ++ .list (objs σ.length hs.length) :: hs.map fun h => .list (iV h)
theorem objs_len (m k : Nat) : (objs m k).length = k := by simp [objs]
theorem objs_at {m k j : Nat} (h : j < k) : (objs m k)[j]? = some (.obj (m + 1 + j)) := by
  unfold objs
  rw [List.getElem?_map, List.getElem?_range h]; rfl
theorem hp_len (σ : St) (hs : List (List Nat)) : (hp σ hs).length = σ.length + 1 + hs.length := by simp [hp]; walk_at "om"
theorem hp_mid (σ : St) (hs : List (List Nat)) : (hp σ hs)[σ.length]? = some (.list (objs σ.length hs.length)) := get_mid _ _ _
theorem hp_at (σ : St) (hs : List (List Nat)) {j : Nat} (h : j < hs.length) : (hp σ hs)[σ.length + 1 + j]? = some (.list (iV hs[j])) := by
  unfold hp
  rw [get_in, List.getElem?_map, List.getElem?_eq_getElem h]; rfl
theorem hp_set (σ : St) (hs : List (List Nat)) (j : Nat) (x : List Nat) : (hp σ hs).set (σ.length + 1 + j) (.list (iV x)) = hp σ (hs.set j x) := by
  unfold hp
  rw [set_in, List.length_set, List.map_set]
theorem iV_app (a b : List Nat) : iV a ++ iV b = iV (a ++ b) := by simp [iV, iZ]
theorem flat_le {α : Type} (c : Nat) : ∀ l : List (List α), (∀ h, h ∈ l → h.length ≤ c) → l.flatten.length ≤ c * l.length
  | [], _ => by simp
  | a :: r, h => by
    have h1 := h a List.mem_cons_self
    have h2 := flat_le c r fun x hx => h x (List.mem_cons_of_mem _ hx)
    rw [List.flatten_cons, List.length_append, List.length_cons, Nat.mul_add]
    omega
theorem heap_small (ls : List Nat) : ∀ (k : Nat) (h : List Nat), h ∈ heapsK ls k → h.length ≤ k
  | 0, h, hh => by
    unfold heapsK at hh
    simp at hh
    rw [hh]; simp
  | k + 1, h, hh => by
    rw [heapsK_step] at hh
    unfold hStep at hh
    rcases List.mem_or_eq_of_mem_set hh with q | q
    · have := heap_small ls k h q; walk_at "om"
    · subst q
      rw [List.length_append]
      have : ((heapsK ls k).getD (ls.getD k 0) []).length ≤ k := by
        rw [List.getD_eq_getElem?_getD]
        cases e : (heapsK ls k)[ls.getD k 0]? with
        | none => simp
        | some y => exact heap_small ls k y (List.mem_of_getElem? e)
      simp only [List.length_cons, List.length_nil]; walk_at "om"
theorem f_symbols (hn : 2 ≤ n) {ls : List Nat} (hz : ls.length ≤ 1000) (hm : mx ls ≤ 1000) (h : K (.lst (iV (symbolsF ls))) σ) : OKd W n (.ref 158) [.lst (iV ls)] σ K X := by
  obtain ⟨n, rfl⟩ := pre hn rfl
  refine OKd.drop (c_def ["lengths"] rfl rfl rfl ?_ (by decide) ?_)
  · exact len1 fun a => rfl
  · walk_at "one"
    refine x_comp [] ?_ trivial
    repeat walk_at "one"
    refine OKd.call (f_greatest (dn hn rfl) hz ?_)
    repeat walk_at "one"
    refine c_range1 ?_
    rw [show ((mx ls : Nat) : Int) + 1 = ((mx ls + 1 : Nat) : Int) from by simp]
    refine ⟨iV (List.range (mx ls + 1)), fun k σ' => σ' = hp σ (List.replicate k []), rng_el (by walk_at "om"), fun k σ' _ => rng_el (by walk_at "om"), rfl, ?_, ?_⟩
    · rintro k σ' y rfl hy
      obtain ⟨hk, rfl⟩ := rng_at hy
      refine ⟨fun _ => ?_, fun q => by cases q⟩
      refine e_lstM ?_
      repeat walk_at "one"
      refine ⟨by simp, objs σ.length k, ?_, ?_, ?_⟩
      · rw [List.getElem?_append_left (by rw [hp_len]; walk_at "om"), hp_mid]; simp
      · rw [objs_len]; walk_at "om"
      · unfold hp
        rw [List.append_assoc, List.cons_append, set_mid]
        simp [objs, List.replicate_succ', List.range_succ, Nat.add_assoc]
        exact ⟨by walk_at "om", rfl⟩
    · rintro σ' rfl
      rw [iV_len, List.length_range]
      repeat walk_at "one"
      refine x_for ?_
      repeat walk_at "one"
      refine c_len rfl (by rw [iV_len]; walk_at "om") ?_
      repeat walk_at "one"
      refine c_range1 ?_
      rw [iV_len]
      refine ⟨iV (List.range ls.length), fun k l σ' => σ' = hp σ (heapsK ls k) ∧ Sub [("heaps", .obj σ.length), ("lengths", .lst (iV ls))] l, ⟨rfl, rfl, rfl, trivial⟩, fun k l σ' _ => rng_el (by walk_at "om"), ?_, ?_⟩
      · rintro J hJ k l σ' y ⟨rfl, hl⟩ hy
        obtain ⟨hk, rfl⟩ := rng_at hy
        have hl1 : ls[k] ≤ mx ls := mx_ge ls _ (List.getElem_mem hk)
        have hlen := heapsK_len ls k
        refine OKs.sub (loc' := [("symbol", .int (k : Nat)), ("heaps", .obj σ.length), ("lengths", .lst (iV ls))]) ?_ (Sub.look ⟨rfl, hl.1, hl.2.1, trivial⟩)
        repeat walk_at "one"
        refine i_lst (vs := iV ls) rfl (by walk_at "om") (iV_get (k := k) hk) (by rw [iV_len]; walk_at "om") ?_
        have hg : (hp σ (heapsK ls k))[σ.length]? = some (.list (objs σ.length (mx ls + 1))) := by rw [hp_mid, hlen]
        refine i_lst (vs := objs σ.length (mx ls + 1)) (x := .obj (σ.length + 1 + ls[k])) hg (by walk_at "om") (objs_at (by walk_at "om")) (by rw [objs_len]; walk_at "om") ?_
        have hg2 := hp_at σ (heapsK ls k) (j := ls[k]) (by walk_at "om")
        have hsm := heap_small ls k _ (List.getElem_mem (l := heapsK ls k) (n := ls[k]) (by walk_at "om"))
        refine ⟨_, m_list hg2 F.slot_list_append (by rfl), rfl, ?_⟩
        repeat walk_at "one"
        refine c_append hg2 (by rw [iV_len]; walk_at "om") ?_
        repeat walk_at "one"
        refine hJ _ _ _ _ ⟨?_, rfl, rfl, trivial⟩
        rw [show (iV (heapsK ls k)[ls[k]]) ++ [V.int (k : Nat)] = iV ((heapsK ls k)[ls[k]] ++ [k]) from iV_app _ [k], hp_set, heapsK_step]
        unfold hStep
        rw [List.getD_eq_getElem?_getD, List.getElem?_eq_getElem hk, List.getD_eq_getElem?_getD]
        simp only [Option.getD_some]
        rw [List.getElem?_eq_getElem (by walk_at "om")]
        rfl
      · rintro l σ' ⟨rfl, hl⟩
        rw [iV_len, List.length_range]
        refine OKs.sub (loc' := [("heaps", .obj σ.length)]) ?_ (Sub.look ⟨hl.1, trivial⟩)
        have hlen := heapsK_len ls ls.length
        have hsm := heap_small ls ls.length
        unfold symbolsF at h
        generalize heapsK ls ls.length = hs at hlen hsm h
        repeat walk_at "one"
        refine e_lstM ?_
        repeat walk_at "one"
        refine ⟨by simp, ?_⟩
        repeat walk_at "one"
        refine x_for (e_cut ?_)
        repeat walk_at "one"
        show OKe _ _ _ _ _ _ _ _
        repeat walk_at "one"
        have hg : (hp σ hs ++ [O.list []])[σ.length]? = some (.list (objs σ.length (mx ls + 1))) := by
          rw [List.getElem?_append_left (by rw [hp_len]; walk_at "om"), hp_mid, hlen]
        refine cut_from (vs := objs σ.length (mx ls + 1)) hg (by walk_at "om") (by rw [objs_len]; walk_at "om") ?_
        refine ⟨(objs σ.length (mx ls + 1)).drop 1, fun k l σ' => σ' = hp σ hs ++ [.list (iV ((hs.drop 1).take k).flatten)] ∧ Sub [("found", .obj (hp σ hs).length)] l, ⟨rfl, rfl, trivial⟩, fun k l σ' _ => rfl, ?_, ?_⟩
        · rintro J hJ k l σ' y ⟨rfl, hl⟩ hy
          have hk : k < mx ls := by
            have := (List.getElem?_eq_some_iff.mp hy).1
            rw [List.length_drop, objs_len] at this; walk_at "om"
          rw [List.getElem?_drop, objs_at (by walk_at "om")] at hy
          cases hy
          refine OKs.sub (loc' := [("heap", .obj (σ.length + 1 + (1 + k))), ("found", .obj (hp σ hs).length)]) ?_ (Sub.look ⟨rfl, hl.1, trivial⟩)
          generalize hfo : ((hs.drop 1).take k).flatten = fo
          have hfl : fo.length ≤ 1000 * k := by
            rw [← hfo]
            refine Nat.le_trans (flat_le 1000 _ fun h hh => ?_) (Nat.mul_le_mul_left _ (by rw [List.length_take]; walk_at "om"))
            have := hsm h (List.mem_of_mem_drop (List.mem_of_mem_take hh)); walk_at "om"
          have hf : (hp σ hs ++ [O.list (iV fo)])[(hp σ hs).length]? = some (.list (iV fo)) := by simp
          have hh : (hp σ hs ++ [O.list (iV fo)])[σ.length + 1 + (1 + k)]? = some (.list (iV hs[1 + k])) := by
            rw [List.getElem?_append_left (by rw [hp_len]; walk_at "om"), hp_at σ hs (by walk_at "om")]
          have := hsm _ (List.getElem_mem (l := hs) (n := 1 + k) (by walk_at "om"))
          repeat walk_at "one"
          refine ⟨_, m_list hf F.slot_list_extend (by rfl), rfl, ?_⟩
          repeat walk_at "one"
          refine c_extend hf hh (by rw [iV_len, iV_len]; walk_at "om") ?_
          repeat walk_at "one"
          refine hJ _ _ _ _ ⟨?_, rfl, trivial⟩
          rw [List.set_append_right _ _ (Nat.le_refl _), Nat.sub_self, iV_app]
          have : ((hs.drop 1).take (k + 1)).flatten = fo ++ hs[1 + k] := by
            rw [List.take_succ_eq_append_getElem (by rw [List.length_drop]; walk_at "om"), List.flatten_append, hfo]
            simp [Nat.add_comm]
          rw [this]; rfl
        · rintro l σ' ⟨rfl, hl⟩
          refine OKs.sub (loc' := [("found", .obj (hp σ hs).length)]) ?_ (Sub.look ⟨hl.1, trivial⟩)
          repeat walk_at "one"
          show DropOk _ _ _ _
          rw [List.length_drop, objs_len, List.take_of_length_le (by rw [List.length_drop]; walk_at "om")]
          rw [show hp σ hs ++ [O.list (iV (hs.drop 1).flatten)] = σ ++ (O.list (objs σ.length hs.length) :: (hs.map fun h => O.list (iV h)) ++ [O.list (iV (hs.drop 1).flatten)]) from by simp [hp]]
          refine .lst ?_ (by rw [hp_len]; walk_at "om") h
          rw [hp_len, Nat.add_assoc, Nat.add_comm 1, List.getElem?_append_right (by walk_at "om"), show σ.length + (hs.length + 1) - σ.length = hs.length + 1 from by walk_at "om"]
          simp
end

section
variable {W : Wd} {n : Nat} {σ : St} {X : St → Prop} {K : V → St → Prop}
theorem iV_some {ls : List Nat} {k s : Nat} (h : ls[k]? = some s) : (iV ls)[k]? = some (.int (s : Nat)) := by
  obtain ⟨hk, rfl⟩ := List.getElem?_eq_some_iff.mp h
  exact iV_get hk
noncomputable def decF (t sy : List Nat) : List (Str × V) := [("tally", .lst (iV t)), ("symbols", .lst (iV sy))]
noncomputable def decO (t sy : List Nat) : O := .inst 182 (decF t sy)
theorem f_decinit (hn : 5 ≤ n) {i : Nat} (hi : σ[i]? = some (.inst 182 [])) {ls : List Nat} (hz : ls.length ≤ 1000) (hm : mx ls ≤ 1000) (hr : 0 ≤ roomF ls) (h : K .none (σ.set i (decO (tallyF ls) (symbolsF ls)))) : OKd W n (.ref 172) [.obj i, .lst (iV ls)] σ K X := by
  obtain ⟨n, rfl⟩ := pre hn rfl
  refine c_def ["self", "lengths"] rfl rfl rfl ?_ (by decide) ?_
  · exact len2 fun a b => rfl
  · repeat walk_at "one"
    refine b_boolV ?_
    repeat walk_at "one"
    refine OKd.call (f_over (dn hn rfl) hz hm ?_)
    refine ⟨_, rfl, fun q => ?_, fun q => ?_⟩
    · simp at q; walk_at "om"
    · repeat walk_at "one"
      refine OKd.call (f_tally (dn hn rfl) hz hm ?_)
      repeat walk_at "one"
      refine ⟨_, _, _, rfl, hi, ⟨rfl, rfl, rfl, rfl⟩, Nat.le_of_ble_eq_true rfl, ?_⟩
      repeat walk_at "one"
      refine OKd.call (f_symbols (dn hn rfl) hz hm ?_)
      repeat walk_at "one"
      refine ⟨_, _, _, rfl, set_at hi, ⟨rfl, rfl, rfl, rfl⟩, Nat.le_of_ble_eq_true rfl, ?_⟩
      rw [List.set_set]
      repeat walk_at "one"
      exact h
theorem f_decoder (hn : 6 ≤ n) {ls : List Nat} (hz : ls.length ≤ 1000) (hm : mx ls ≤ 1000) (hr : 0 ≤ roomF ls) (h : K (.obj σ.length) (σ ++ [decO (tallyF ls) (symbolsF ls)])) : OKd W n (.ref 182) [.lst (iV ls)] σ K X := by
  obtain ⟨n, rfl⟩ := pre hn rfl
  refine c_new (fI := 172) rfl rfl rfl (f_decinit (dn hn rfl) (by simp) hz hm hr ⟨rfl, ?_⟩)
  rw [set_mid]
  exact h
noncomputable def readF (N : Nat) : List Nat → Int → Int → Int → Nat → Option (Int × Nat)
  | [], _, _, _, _ => none
  | t :: r, code, first, place, p =>
    if 2 * code + ((N / 2 ^ p % 2 ^ 1 : Nat) : Int) - first < t then some (place + (2 * code + ((N / 2 ^ p % 2 ^ 1 : Nat) : Int)) - first, p + 1)
    else readF N r (2 * code + ((N / 2 ^ p % 2 ^ 1 : Nat) : Int)) (2 * (first + t)) (place + t) (p + 1)
theorem readF_gt (N : Nat) : ∀ (l : List Nat) (c f pl : Int) (p : Nat) (q : Int) (p' : Nat), readF N l c f pl p = some (q, p') → p < p'
  | [], c, f, pl, p, q, p', h => by cases h
  | t :: r, c, f, pl, p, q, p', h => by
    unfold readF at h
    split at h
    · simp at h; walk_at "om"
    · have := readF_gt N r _ _ _ _ _ _ h; walk_at "om"
theorem f_read (hn : 4 ≤ n) {i j : Nat} {d : List UInt8} {p p' s : Nat} {q : Int} {t sy : List Nat} (hi : σ[i]? = some (bitsP d p)) (hj : σ[j]? = some (decO t sy)) (hij : i ≠ j) (hz : d.length ≤ 1000000) (ht : t.length ≤ 1000) (hs : sy.length ≤ 1000000)
    (hr : readF (num d) (t.drop 1) 0 0 0 p = some (q, p')) (hp : p' ≤ 8 * d.length) (h0 : 0 ≤ q) (hq : sy[q.toNat]? = some s) (h : K (.int s) (σ.set i (bitsP d p'))) : OKd W n (.ref 179) [.obj j, .obj i] σ K X := by
  obtain ⟨n, rfl⟩ := pre hn rfl
  refine c_def ["self", "bits"] rfl rfl rfl ?_ (by decide) ?_
  · exact len2 fun a b => rfl
  · have hj' : ∀ o, (σ.set i o)[j]? = some (decO t sy) := fun o => by rw [List.getElem?_set_ne hij]; exact hj
    repeat walk_at "one"
    refine x_for (e_cut ?_)
    repeat walk_at "one"
    show OKe _ _ _ _ _ _ _ _
    repeat walk_at "one"
    refine cut_from (vs := iV t) rfl (by walk_at "om") (by rw [iV_len]; walk_at "om") ?_
    rw [show (1 : Int).toNat = 1 from rfl, iV_drop]
    refine ⟨iV (t.drop 1), fun k l σ' => ∃ c f pl : Int, readF (num d) ((t.drop 1).drop k) c f pl (p + k) = some (q, p') ∧ σ' = σ.set i (bitsP d (p + k)) ∧ Sub [("self", .obj j), ("bits", .obj i), ("code", .int c), ("first", .int f), ("place", .int pl)] l,
      ⟨0, 0, 0, hr, ?_, rfl, rfl, rfl, rfl, rfl, trivial⟩, fun k l σ' _ => rfl, ?_, ?_⟩
    · have := List.getElem?_eq_some_iff.mp hi
      rw [Nat.add_zero, ← this.2]; simp
    · rintro J hJ k l σ' y ⟨c, f, pl, hr, rfl, hl⟩ hy
      obtain ⟨hk, rfl⟩ := iV_at hy
      have hlt := readF_gt _ _ _ _ _ _ _ _ hr
      rw [List.drop_eq_getElem_cons hk] at hr
      unfold readF at hr
      generalize (t.drop 1)[k] = tk at hr
      refine OKs.sub (loc' := [("taken", .int tk), ("self", .obj j), ("bits", .obj i), ("code", .int c), ("first", .int f), ("place", .int pl)]) ?_ (Sub.look ⟨rfl, hl.1, hl.2.1, hl.2.2.1, hl.2.2.2.1, hl.2.2.2.2.1, trivial⟩)
      have hi' := set_at (o' := bitsP d (p + k)) hi
      have hj'' := hj' (bitsP d (p + k))
      repeat walk_at "one"
      refine ⟨.ref 97, m_inst hi' rfl rfl rfl rfl, rfl, ?_⟩
      repeat walk_at "one"
      refine OKd.call (f_take (k := 1) (dn hn rfl) hi' hz (by walk_at "om") (by walk_at "om") ?_)
      rw [List.set_set]
      have hj3 := hj' (bitsP d (p + k + 1))
      repeat walk_at "one"
      refine ⟨_, rfl, fun g => ?_, fun g => ?_⟩
      · rw [if_pos (by simpa using g)] at hr
        cases hr
        repeat walk_at "one"
        refine i_lst (vs := iV sy) (x := .int s) rfl (by walk_at "om") (iV_some hq) (by rw [iV_len]; walk_at "om") ?_
        repeat walk_at "one"
        exact hJ _ _ _ _ h
      · rw [if_neg (by simpa using g)] at hr
        repeat walk_at "one"
        exact hJ _ _ _ _ ⟨_, _, _, hr, rfl, rfl, rfl, rfl, rfl, rfl, trivial⟩
    · rintro l σ' ⟨c, f, pl, hr, _⟩
      rw [iV_len, List.drop_length] at hr
      cases hr
end

section
variable {W : Wd} {n : Nat} {σ : St} {X : St → Prop} {K : V → St → Prop}
theorem DropOk.of {σ τ : St} {w v : V} (hf : Fz (σ ++ τ) σ.length w v) (h : K w σ) : DropOk σ K v (σ ++ τ) :=
  ⟨w, hf, by simpa using h, fun i o hi e => .inl (by rwa [List.getElem?_append_left hi] at e)⟩
noncomputable def ex (q place : Nat) : Nat := place / q - 1
noncomputable def baseAt (q s : Nat) : Nat → Nat
  | 0 => s
  | k + 1 => baseAt q s k + 2 ^ ex q k
noncomputable def basesL (q s k : Nat) : List Nat := (List.range k).map (baseAt q s)
noncomputable def extrasL (q k : Nat) : List Nat := (List.range k).map (ex q)
theorem max_ex (q k : Nat) (hq : 0 < q) : (if (0 : Int) > Int.fdiv (k : Nat) (q : Nat) - 1 then (0 : Int) else Int.fdiv (k : Nat) (q : Nat) - 1) = (ex q k : Nat) := by
  rw [Int.fdiv_eq_ediv_of_nonneg _ (by walk_at "om"), ← Int.natCast_ediv]
  unfold ex
  generalize k / q = m
  split <;> omega
theorem basesL_succ (q s k : Nat) : basesL q s k ++ [baseAt q s k] = basesL q s (k + 1) := by simp [basesL, List.range_succ]
theorem extrasL_succ (q k : Nat) : extrasL q k ++ [ex q k] = extrasL q (k + 1) := by simp [extrasL, List.range_succ]
theorem Fzs.iV {σ : St} {m : Nat} (ls : List Nat) : Fzs σ m (iV ls) (iV ls) := Fzs.ints _
theorem Fz.lst {σ : St} {m : Nat} (ls : List Nat) : Fz σ m (.lst (Mine.iV ls)) (.lst (Mine.iV ls)) := by
  unfold Fz; exact .inl ⟨_, rfl, Fzs.iV ls⟩
theorem Fz.tup2 {σ : St} {m : Nat} {a b x y : V} (ha : Fz σ m a x) (hb : Fz σ m b y) : Fz σ m (.tup [a, b]) (.tup [x, y]) := by
  unfold Fz
  exact ⟨_, rfl, by unfold Fzs; exact ⟨_, _, rfl, ha, by unfold Fzs; exact ⟨_, _, rfl, hb, by unfold Fzs; rfl⟩⟩⟩
theorem Fz.own {σ : St} {m i : Nat} {ls : List Nat} (e : σ[i]? = some (.list (Mine.iV ls))) (hi : m ≤ i) : Fz σ m (.lst (Mine.iV ls)) (.obj i) := by
  unfold Fz; exact .inr ⟨i, _, rfl, hi, e, Fzs.iV ls⟩
theorem f_lenrows (hn : 1 ≤ n) (h : K (.tup [.lst (iV (basesL 4 3 28 ++ [258])), .lst (iV (extrasL 4 28 ++ [0]))]) σ) : OKd W n (.ref 193) [] σ K X := by
  obtain ⟨n, rfl⟩ := pre hn rfl
  refine OKd.drop (c_def [] rfl rfl rfl ?_ (by decide) ?_)
  · exact len0 rfl
  · repeat walk_at "one"
    refine e_lstM ?_
    repeat walk_at "one"
    refine ⟨by simp, ?_⟩
    repeat walk_at "one"
    refine e_lstM ?_
    repeat walk_at "one"
    refine ⟨by simp, ?_⟩
    repeat walk_at "one"
    refine x_for ?_
    repeat walk_at "one"
    refine c_range1 ?_
    refine ⟨iV (List.range 28), fun k l σ' => σ' = σ ++ [.list (iV (basesL 4 3 k)), .list (iV (extrasL 4 k))] ∧ Sub [("bases", .obj σ.length), ("extras", .obj (σ.length + 1)), ("base", .int (baseAt 4 3 k))] l, ⟨by simp [basesL, extrasL, iV, iZ], rfl, by simp; rfl, rfl, trivial⟩, fun k l σ' _ => rng_el (k := 28) (by walk_at "om"), ?_, ?_⟩
    · rintro J hJ k l σ' y ⟨rfl, hl⟩ hy
      obtain ⟨hk, rfl⟩ := rng_at hy
      refine OKs.sub (loc' := [("place", .int k), ("bases", .obj σ.length), ("extras", .obj (σ.length + 1)), ("base", .int (baseAt 4 3 k))]) ?_ (Sub.look ⟨rfl, hl.1, hl.2.1, hl.2.2.1, trivial⟩)
      have h1 : (σ ++ [.list (iV (basesL 4 3 k)), .list (iV (extrasL 4 k))])[σ.length]? = some (.list (iV (basesL 4 3 k))) := by simp
      repeat walk_at "one"
      refine t_fdiv ?_ (by decide) (by decide)
      repeat walk_at "one"
      refine c_max2 ?_
      rw [show (if (0 : Int) > Int.fdiv (k : Nat) 4 - 1 then (0 : Int) else Int.fdiv (k : Nat) 4 - 1) = (ex 4 k : Nat) from max_ex 4 k (by decide)]
      repeat walk_at "one"
      refine ⟨_, m_list h1 F.slot_list_append (by rfl), rfl, ?_⟩
      repeat walk_at "one"
      refine c_append h1 (by simp [iV, iZ, basesL]; walk_at "om") ?_
      rw [show (σ ++ [O.list (iV (basesL 4 3 k)), O.list (iV (extrasL 4 k))]).set σ.length (.list (iV (basesL 4 3 k) ++ [.int (baseAt 4 3 k : Nat)])) = σ ++ [O.list (iV (basesL 4 3 (k + 1))), O.list (iV (extrasL 4 k))] from by
        rw [set_mid, ← basesL_succ, ← iV_app]; rfl]
      have h2 : (σ ++ [.list (iV (basesL 4 3 (k + 1))), .list (iV (extrasL 4 k))])[σ.length + 1]? = some (.list (iV (extrasL 4 k))) := by simp
      repeat walk_at "one"
      refine ⟨_, m_list h2 F.slot_list_append (by rfl), rfl, ?_⟩
      repeat walk_at "one"
      refine c_append h2 (by simp [iV, iZ, extrasL]; walk_at "om") ?_
      rw [show (σ ++ [O.list (iV (basesL 4 3 (k + 1))), O.list (iV (extrasL 4 k))]).set (σ.length + 1) (.list (iV (extrasL 4 k) ++ [.int (ex 4 k : Nat)])) = σ ++ [O.list (iV (basesL 4 3 (k + 1))), O.list (iV (extrasL 4 (k + 1)))] from by
        rw [show σ.length + 1 = σ.length + 1 + 0 from rfl, set_in, ← extrasL_succ, ← iV_app]; rfl]
      repeat walk_at "one"
      refine t_shl ?_ (by walk_at "om") (by unfold ex; walk_at "om") (by decide)
      repeat walk_at "one"
      refine hJ _ _ _ _ ⟨rfl, rfl, rfl, ?_, trivial⟩
      simp [baseAt]
    · rintro l σ' ⟨rfl, hl⟩
      refine OKs.sub (loc' := [("bases", .obj σ.length), ("extras", .obj (σ.length + 1))]) ?_ (Sub.look ⟨hl.1, hl.2.1, trivial⟩)
      repeat walk_at "one"
      have h1 : (σ ++ [.list (iV (basesL 4 3 28)), .list (iV (extrasL 4 28))])[σ.length]? = some (.list (iV (basesL 4 3 28))) := by simp
      have h2 : (σ ++ [.list (iV (basesL 4 3 28)), .list (iV (extrasL 4 28))])[σ.length + 1]? = some (.list (iV (extrasL 4 28))) := by simp
      refine e_tup ?_
      repeat walk_at "one"
      refine e_lst ?_
      repeat walk_at "one"
      refine ⟨by simp, ?_⟩
      refine t_addL (vs := iV (basesL 4 3 28)) h1 rfl (by simp [iV, iZ, basesL]) ?_
      repeat walk_at "one"
      refine e_lst ?_
      repeat walk_at "one"
      refine ⟨by simp, ?_⟩
      refine t_addL (vs := iV (extrasL 4 28)) h2 rfl (by simp [iV, iZ, extrasL]) ?_
      repeat walk_at "one"
      refine ⟨by simp, ?_⟩
      repeat walk_at "one"
      show DropOk _ _ _ _
      exact .of (Fz.tup2 (by rw [show (iV (basesL 4 3 28)) ++ [V.int 258] = iV (basesL 4 3 28 ++ [258]) from iV_app _ [258]]; exact Fz.lst _) (by rw [show (iV (extrasL 4 28)) ++ [V.int 0] = iV (extrasL 4 28 ++ [0]) from iV_app _ [0]]; exact Fz.lst _)) h
theorem f_distrows (hn : 1 ≤ n) (h : K (.tup [.lst (iV (basesL 2 1 30)), .lst (iV (extrasL 2 30))]) σ) : OKd W n (.ref 200) [] σ K X := by
  obtain ⟨n, rfl⟩ := pre hn rfl
  refine OKd.drop (c_def [] rfl rfl rfl ?_ (by decide) ?_)
  · exact len0 rfl
  · repeat walk_at "one"
    refine e_lstM ?_
    repeat walk_at "one"
    refine ⟨by simp, ?_⟩
    repeat walk_at "one"
    refine e_lstM ?_
    repeat walk_at "one"
    refine ⟨by simp, ?_⟩
    repeat walk_at "one"
    refine x_for ?_
    repeat walk_at "one"
    refine c_range1 ?_
    refine ⟨iV (List.range 30), fun k l σ' => σ' = σ ++ [.list (iV (basesL 2 1 k)), .list (iV (extrasL 2 k))] ∧ Sub [("bases", .obj σ.length), ("extras", .obj (σ.length + 1)), ("base", .int (baseAt 2 1 k))] l, ⟨by simp [basesL, extrasL, iV, iZ], rfl, by simp; rfl, rfl, trivial⟩, fun k l σ' _ => rng_el (k := 30) (by walk_at "om"), ?_, ?_⟩
    · rintro J hJ k l σ' y ⟨rfl, hl⟩ hy
      obtain ⟨hk, rfl⟩ := rng_at hy
      refine OKs.sub (loc' := [("place", .int k), ("bases", .obj σ.length), ("extras", .obj (σ.length + 1)), ("base", .int (baseAt 2 1 k))]) ?_ (Sub.look ⟨rfl, hl.1, hl.2.1, hl.2.2.1, trivial⟩)
      have h1 : (σ ++ [.list (iV (basesL 2 1 k)), .list (iV (extrasL 2 k))])[σ.length]? = some (.list (iV (basesL 2 1 k))) := by simp
      repeat walk_at "one"
      refine t_fdiv ?_ (by decide) (by decide)
      repeat walk_at "one"
      refine c_max2 ?_
      rw [show (if (0 : Int) > Int.fdiv (k : Nat) 2 - 1 then (0 : Int) else Int.fdiv (k : Nat) 2 - 1) = (ex 2 k : Nat) from max_ex 2 k (by decide)]
      repeat walk_at "one"
      refine ⟨_, m_list h1 F.slot_list_append (by rfl), rfl, ?_⟩
      repeat walk_at "one"
      refine c_append h1 (by simp [iV, iZ, basesL]; walk_at "om") ?_
      rw [show (σ ++ [O.list (iV (basesL 2 1 k)), O.list (iV (extrasL 2 k))]).set σ.length (.list (iV (basesL 2 1 k) ++ [.int (baseAt 2 1 k : Nat)])) = σ ++ [O.list (iV (basesL 2 1 (k + 1))), O.list (iV (extrasL 2 k))] from by
        rw [set_mid, ← basesL_succ, ← iV_app]; rfl]
      have h2 : (σ ++ [.list (iV (basesL 2 1 (k + 1))), .list (iV (extrasL 2 k))])[σ.length + 1]? = some (.list (iV (extrasL 2 k))) := by simp
      repeat walk_at "one"
      refine ⟨_, m_list h2 F.slot_list_append (by rfl), rfl, ?_⟩
      repeat walk_at "one"
      refine c_append h2 (by simp [iV, iZ, extrasL]; walk_at "om") ?_
      rw [show (σ ++ [O.list (iV (basesL 2 1 (k + 1))), O.list (iV (extrasL 2 k))]).set (σ.length + 1) (.list (iV (extrasL 2 k) ++ [.int (ex 2 k : Nat)])) = σ ++ [O.list (iV (basesL 2 1 (k + 1))), O.list (iV (extrasL 2 (k + 1)))] from by
        rw [show σ.length + 1 = σ.length + 1 + 0 from rfl, set_in, ← extrasL_succ, ← iV_app]; rfl]
      repeat walk_at "one"
      refine t_shl ?_ (by walk_at "om") (by unfold ex; walk_at "om") (by decide)
      repeat walk_at "one"
      refine hJ _ _ _ _ ⟨rfl, rfl, rfl, ?_, trivial⟩
      simp [baseAt]
    · rintro l σ' ⟨rfl, hl⟩
      refine OKs.sub (loc' := [("bases", .obj σ.length), ("extras", .obj (σ.length + 1))]) ?_ (Sub.look ⟨hl.1, hl.2.1, trivial⟩)
      repeat walk_at "one"
      have h1 : (σ ++ [.list (iV (basesL 2 1 30)), .list (iV (extrasL 2 30))])[σ.length]? = some (.list (iV (basesL 2 1 30))) := by simp
      have h2 : (σ ++ [.list (iV (basesL 2 1 30)), .list (iV (extrasL 2 30))])[σ.length + 1]? = some (.list (iV (extrasL 2 30))) := by simp
      refine e_tup ?_
      repeat walk_at "one"
      refine ⟨by simp, ?_⟩
      repeat walk_at "one"
      show DropOk _ _ _ _
      exact .of (Fz.tup2 (Fz.own h1 (by walk_at "om")) (Fz.own h2 (by walk_at "om"))) h
end

section
variable {W : Wd} {n : Nat} {σ : St} {X : St → Prop} {K : V → St → Prop}
noncomputable def ordAt (p : Nat) : Nat := if p % 2 = 0 then 8 + p / 2 else 7 - p / 2
noncomputable def ordL (k : Nat) : List Nat := [16, 17, 18, 0] ++ (List.range k).map ordAt
theorem ordL_succ (k : Nat) : ordL k ++ [ordAt k] = ordL (k + 1) := by simp [ordL, List.range_succ]
theorem ordL_len (k : Nat) : (ordL k).length = k + 4 := by simp [ordL]
theorem set_last (σ : St) (a b : O) : (σ ++ [a]).set σ.length b = σ ++ [b] := set_mid σ a b []
theorem f_order (hn : 1 ≤ n) (h : K (.lst (iV (ordL 15))) σ) : OKd W n (.ref 207) [] σ K X := by
  obtain ⟨n, rfl⟩ := pre hn rfl
  refine OKd.drop (c_def [] rfl rfl rfl ?_ (by decide) ?_)
  · exact len0 rfl
  · repeat walk_at "one"
    refine e_lstM ?_
    repeat walk_at "one"
    refine ⟨by simp, ?_⟩
    repeat walk_at "one"
    refine x_for ?_
    repeat walk_at "one"
    refine c_range1 ?_
    refine ⟨iV (List.range 15), fun k l σ' => σ' = σ ++ [.list (iV (ordL k))] ∧ Sub [("order", .obj σ.length)] l, ⟨rfl, rfl, trivial⟩, fun k l σ' _ => rng_el (k := 15) (by walk_at "om"), ?_, ?_⟩
    · rintro J hJ k l σ' y ⟨rfl, hl⟩ hy
      obtain ⟨hk, rfl⟩ := rng_at hy
      refine OKs.sub (loc' := [("place", .int k), ("order", .obj σ.length)]) ?_ (Sub.look ⟨rfl, hl.1, trivial⟩)
      have h1 : (σ ++ [.list (iV (ordL k))])[σ.length]? = some (.list (iV (ordL k))) := by simp
      have hsz : (iV (ordL k)).length ≤ 1000000 := by rw [iV_len, ordL_len]; walk_at "om"
      repeat walk_at "one"
      refine t_mod ?_ (by decide)
      repeat walk_at "one"
      refine ⟨_, rfl, fun g => ?_, fun g => ?_⟩
      · have g' : k % 2 = 0 := by
          rw [Int.fmod_eq_emod_of_nonneg _ (by decide)] at g
          simp at g; walk_at "om"
        repeat walk_at "one"
        refine ⟨_, m_list h1 F.slot_list_append (by rfl), rfl, ?_⟩
        repeat walk_at "one"
        refine t_fdiv ?_ (by decide) (by decide)
        repeat walk_at "one"
        refine c_append h1 hsz ?_
        repeat walk_at "one"
        refine hJ _ _ _ _ ⟨?_, rfl, trivial⟩
        rw [set_last, ← ordL_succ, ← iV_app]
        have : (8 : Int) + Int.fdiv (k : Nat) 2 = (ordAt k : Nat) := by
          unfold ordAt
          rw [if_pos g', Int.fdiv_eq_ediv_of_nonneg _ (by decide)]; walk_at "om"
        rw [this]; rfl
      · have g' : ¬ k % 2 = 0 := by
          rw [Int.fmod_eq_emod_of_nonneg _ (by decide)] at g
          simp at g; walk_at "om"
        repeat walk_at "one"
        refine ⟨_, m_list h1 F.slot_list_append (by rfl), rfl, ?_⟩
        repeat walk_at "one"
        refine t_fdiv ?_ (by decide) (by decide)
        repeat walk_at "one"
        refine c_append h1 hsz ?_
        repeat walk_at "one"
        refine hJ _ _ _ _ ⟨?_, rfl, trivial⟩
        rw [set_last, ← ordL_succ, ← iV_app]
        have : (7 : Int) - Int.fdiv (k : Nat) 2 = (ordAt k : Nat) := by
          unfold ordAt
          rw [if_neg g', Int.fdiv_eq_ediv_of_nonneg _ (by decide)]; walk_at "om"
        rw [this]; rfl
    · rintro l σ' ⟨rfl, hl⟩
      refine OKs.sub (loc' := [("order", .obj σ.length)]) ?_ (Sub.look ⟨hl.1, trivial⟩)
      have h1 : (σ ++ [.list (iV (ordL 15))])[σ.length]? = some (.list (iV (ordL 15))) := by simp
      repeat walk_at "one"
      exact .lst h1 (by walk_at "om") h
noncomputable def fixL : List Nat := List.replicate 144 8 ++ List.replicate 112 9 ++ List.replicate 24 7 ++ List.replicate 8 8
noncomputable def fixD : List Nat := List.replicate 32 5
theorem iV_rep (k v : Nat) : (List.replicate k [V.int (v : Nat)]).flatten = iV (List.replicate k v) := by
  simp [iV, iZ]
theorem f_fixed (hn : 1 ≤ n) (h : K (.tup [.lst (iV fixL), .lst (iV fixD)]) σ) : OKd W n (.ref 214) [] σ K X := by
  obtain ⟨n, rfl⟩ := pre hn rfl
  refine c_def [] rfl rfl rfl ?_ (by decide) ?_
  · exact len0 rfl
  · have r8 : ∀ k : Nat, (List.replicate ((k : Int)).toNat [V.int 8]).flatten = iV (List.replicate k 8) := fun k => iV_rep k 8
    repeat walk_at "one"
    refine e_tup ?_
    repeat walk_at "one"
    refine e_lst ?_
    repeat walk_at "one"
    refine ⟨by simp, ?_⟩
    repeat walk_at "one"
    refine t_mulL (vs := [.int 8]) rfl (by decide) (by decide) ?_
    repeat walk_at "one"
    refine e_lst ?_
    repeat walk_at "one"
    refine ⟨by simp, ?_⟩
    repeat walk_at "one"
    refine t_mulL (vs := [.int 9]) rfl (by decide) (by decide) ?_
    refine t_addL rfl rfl (Nat.le_of_ble_eq_true rfl) ?_
    repeat walk_at "one"
    refine e_lst ?_
    repeat walk_at "one"
    refine ⟨by simp, ?_⟩
    repeat walk_at "one"
    refine t_mulL (vs := [.int 7]) rfl (by decide) (by decide) ?_
    refine t_addL rfl rfl (Nat.le_of_ble_eq_true rfl) ?_
    repeat walk_at "one"
    refine e_lst ?_
    repeat walk_at "one"
    refine ⟨by simp, ?_⟩
    repeat walk_at "one"
    refine t_mulL (vs := [.int 8]) rfl (by decide) (by decide) ?_
    refine t_addL rfl rfl (Nat.le_of_ble_eq_true rfl) ?_
    repeat walk_at "one"
    refine e_lst ?_
    repeat walk_at "one"
    refine ⟨by simp, ?_⟩
    repeat walk_at "one"
    refine t_mulL (vs := [.int 5]) rfl (by decide) (by decide) ?_
    repeat walk_at "one"
    refine ⟨by simp, ?_⟩
    repeat walk_at "one"
    have e1 : (List.replicate (144 : Int).toNat [V.int 8]).flatten = iV (List.replicate 144 8) := iV_rep 144 8
    have e2 : (List.replicate (112 : Int).toNat [V.int 9]).flatten = iV (List.replicate 112 9) := iV_rep 112 9
    have e3 : (List.replicate (24 : Int).toNat [V.int 7]).flatten = iV (List.replicate 24 7) := iV_rep 24 7
    have e4 : (List.replicate (8 : Int).toNat [V.int 8]).flatten = iV (List.replicate 8 8) := iV_rep 8 8
    have e5 : (List.replicate (32 : Int).toNat [V.int 5]).flatten = iV (List.replicate 32 5) := iV_rep 32 5
    rw [e1, e2, e3, e4, e5, iV_app, iV_app, iV_app]
    exact h
end

section
variable {W : Wd} {n : Nat} {σ : St} {X : St → Prop} {K : V → St → Prop}
noncomputable def LBl : List Nat := basesL 4 3 28 ++ [258]
noncomputable def LEl : List Nat := extrasL 4 28 ++ [0]
noncomputable def DBl : List Nat := basesL 2 1 30
noncomputable def DEl : List Nat := extrasL 2 30
noncomputable def rowsV : V := .tup [.tup [.lst (iV LBl), .lst (iV LEl)], .tup [.lst (iV DBl), .lst (iV DEl)]]
theorem LEl_le : ∀ e ∈ LEl, e ≤ 13 := by decide
theorem DEl_le : ∀ e ∈ DEl, e ≤ 13 := by decide
noncomputable def SymAt (N : Nat) (t sy : List Nat) (p s p' : Nat) : Prop := ∃ q : Int, readF N (t.drop 1) 0 0 0 p = some (q, p') ∧ 0 ≤ q ∧ sy[q.toNat]? = some s
inductive PartIs (N : Nat) (lt ls dt ds : List Nat) (p : Nat) : V → Nat → Prop
  | lit {s p' : Nat} (h : SymAt N lt ls p s p') (hs : s < 256) : PartIs N lt ls dt ds p (.int (s : Nat)) p'
  | fin {p' : Nat} (h : SymAt N lt ls p 256 p') : PartIs N lt ls dt ds p .none p'
  | pair {a p1 b p3 la le db de : Nat} (h : SymAt N lt ls p (257 + a) p1) (h1 : LBl[a]? = some la) (h2 : LEl[a]? = some le) (h3 : SymAt N dt ds (p1 + le) b p3) (h4 : DBl[b]? = some db) (h5 : DEl[b]? = some de) :
      PartIs N lt ls dt ds p (.tup [.int ((la : Int) + (N / 2 ^ p1 % 2 ^ le : Nat)), .int ((db : Int) + (N / 2 ^ p3 % 2 ^ de : Nat))]) (p3 + de)
theorem SymAt.gt {N : Nat} {t sy : List Nat} {p s p' : Nat} (h : SymAt N t sy p s p') : p < p' := by
  obtain ⟨q, hq, _⟩ := h
  exact readF_gt _ _ _ _ _ _ _ _ hq
theorem f_sym (hn : 4 ≤ n) {i j : Nat} {d : List UInt8} {p p' s : Nat} {t sy : List Nat} (hi : σ[i]? = some (bitsP d p)) (hj : σ[j]? = some (decO t sy)) (hij : i ≠ j) (hz : d.length ≤ 1000000) (ht : t.length ≤ 1000) (hs : sy.length ≤ 1000000)
    (hr : SymAt (num d) t sy p s p') (hp : p' ≤ 8 * d.length) (h : K (.int s) (σ.set i (bitsP d p'))) : OKd W n (.ref 179) [.obj j, .obj i] σ K X := by
  obtain ⟨q, h1, h2, h3⟩ := hr
  exact f_read hn hi hj hij hz ht hs h1 hp h2 h3 h
theorem f_part (hn : 5 ≤ n) {i j j' : Nat} {d : List UInt8} {p p' : Nat} {v : V} {lt ls dt ds : List Nat} (hi : σ[i]? = some (bitsP d p)) (hj : σ[j]? = some (decO lt ls)) (hj' : σ[j']? = some (decO dt ds)) (hij : i ≠ j) (hij' : i ≠ j')
    (hz : d.length ≤ 1000000) (ht : lt.length ≤ 1000) (hs : ls.length ≤ 1000000) (ht' : dt.length ≤ 1000) (hs' : ds.length ≤ 1000000)
    (hr : PartIs (num d) lt ls dt ds p v p') (hp : p' ≤ 8 * d.length) (h : K v (σ.set i (bitsP d p'))) : OKd W n (.ref 249) [.obj i, .obj j, .obj j', rowsV] σ K X := by
  obtain ⟨n, rfl⟩ := pre hn rfl
  refine c_def ["bits", "literals", "distances", "rows"] rfl rfl rfl ?_ (by decide) ?_
  · exact len4 fun a b c d => rfl
  · have kj : ∀ o, (σ.set i o)[j]? = some (decO lt ls) := fun o => by rw [List.getElem?_set_ne hij]; exact hj
    have kj' : ∀ o, (σ.set i o)[j']? = some (decO dt ds) := fun o => by rw [List.getElem?_set_ne hij']; exact hj'
    repeat walk_at "one"
    refine ⟨.ref 179, m_inst hj rfl rfl rfl rfl, rfl, ?_⟩
    repeat walk_at "one"
    cases hr with
    | lit hr hs2 =>
      refine OKd.call (f_sym (dn hn rfl) hi hj hij hz ht hs hr hp ?_)
      repeat walk_at "one"
      refine ⟨_, rfl, fun g => ?_, fun g => ?_⟩
      · repeat walk_at "one"
        exact h
      · simp at g; walk_at "om"
    | fin hr =>
      refine OKd.call (f_sym (dn hn rfl) hi hj hij hz ht hs hr hp ?_)
      repeat walk_at "one"
      refine ⟨_, rfl, fun g => ?_, fun g => ?_⟩
      · simp at g
      · repeat walk_at "one"
        refine ⟨_, rfl, fun g => ?_, fun g => ?_⟩
        · repeat walk_at "one"
          exact h
        · simp at g
    | pair hr h1 h2 h3 h4 h5 =>
      rename_i a p1 b p3 la le db de
      have g1 := h3.gt
      have ha : a < 29 := (List.getElem?_eq_some_iff.mp h1).1
      have hb : b < 30 := (List.getElem?_eq_some_iff.mp h4).1
      have hle := LEl_le _ (List.mem_of_getElem? h2)
      have hde := DEl_le _ (List.mem_of_getElem? h5)
      refine OKd.call (f_sym (dn hn rfl) hi hj hij hz ht hs hr (by walk_at "om") ?_)
      repeat walk_at "one"
      refine ⟨_, rfl, fun g => ?_, fun g => ?_⟩
      · simp at g; walk_at "om"
      · repeat walk_at "one"
        refine ⟨_, rfl, fun g => ?_, fun g => ?_⟩
        · simp at g; walk_at "om"
        · repeat walk_at "one"
          refine i_tup (x := .tup [.lst (iV LBl), .lst (iV LEl)]) (by decide) rfl (by decide) ?_
          repeat walk_at "one"
          refine i_tup (x := .lst (iV LBl)) (by decide) rfl (by decide) ?_
          repeat walk_at "one"
          refine c_len (vs := iV LBl) rfl (by rw [iV_len]; decide) ?_
          repeat walk_at "one"
          refine ⟨_, rfl, fun g => ?_, fun g => ?_⟩
          · rw [iV_len, show LBl.length = 29 from by decide] at g
            simp at g; walk_at "om"
          · have e : (((257 + a : Nat) : Int) - 256 - 1) = (a : Nat) := by walk_at "om"
            rw [e]
            repeat walk_at "one"
            refine i_tup (x := .tup [.lst (iV LBl), .lst (iV LEl)]) (by decide) rfl (by decide) ?_
            repeat walk_at "one"
            refine i_tup (x := .lst (iV LBl)) (by decide) rfl (by decide) ?_
            repeat walk_at "one"
            refine i_lst (vs := iV LBl) rfl (by walk_at "om") (iV_some (k := a) h1) (by rw [iV_len]; decide) ?_
            repeat walk_at "one"
            have s1 := set_at (o' := bitsP d p1) hi
            refine ⟨.ref 97, m_inst s1 rfl rfl rfl rfl, rfl, ?_⟩
            repeat walk_at "one"
            refine i_tup (x := .tup [.lst (iV LBl), .lst (iV LEl)]) (by decide) rfl (by decide) ?_
            repeat walk_at "one"
            refine i_tup (x := .lst (iV LEl)) (by decide) rfl (by decide) ?_
            repeat walk_at "one"
            refine i_lst (vs := iV LEl) rfl (by walk_at "om") (iV_some (k := a) h2) (by rw [iV_len]; decide) ?_
            repeat walk_at "one"
            refine OKd.call (f_take (k := le) (dn hn rfl) s1 hz (by walk_at "om") (by walk_at "om") ?_)
            rw [List.set_set]
            have s2 := set_at (o' := bitsP d (p1 + le)) hi
            repeat walk_at "one"
            refine ⟨.ref 179, m_inst (kj' _) rfl rfl rfl rfl, rfl, ?_⟩
            repeat walk_at "one"
            refine OKd.call (f_sym (dn hn rfl) s2 (kj' _) hij' hz ht' hs' h3 (by walk_at "om") ?_)
            rw [List.set_set]
            have s3 := set_at (o' := bitsP d p3) hi
            repeat walk_at "one"
            refine i_tup (x := .tup [.lst (iV DBl), .lst (iV DEl)]) (by decide) rfl (by decide) ?_
            repeat walk_at "one"
            refine i_tup (x := .lst (iV DBl)) (by decide) rfl (by decide) ?_
            repeat walk_at "one"
            refine c_len (vs := iV DBl) rfl (by rw [iV_len]; decide) ?_
            repeat walk_at "one"
            refine ⟨_, rfl, fun g => ?_, fun g => ?_⟩
            · rw [iV_len, show DBl.length = 30 from by decide] at g
              simp at g; walk_at "om"
            · repeat walk_at "one"
              refine e_tup ?_
              repeat walk_at "one"
              refine i_tup (x := .tup [.lst (iV DBl), .lst (iV DEl)]) (by decide) rfl (by decide) ?_
              repeat walk_at "one"
              refine i_tup (x := .lst (iV DBl)) (by decide) rfl (by decide) ?_
              repeat walk_at "one"
              refine i_lst (vs := iV DBl) rfl (by walk_at "om") (iV_some (k := b) h4) (by rw [iV_len]; decide) ?_
              repeat walk_at "one"
              refine ⟨.ref 97, m_inst s3 rfl rfl rfl rfl, rfl, ?_⟩
              repeat walk_at "one"
              refine i_tup (x := .tup [.lst (iV DBl), .lst (iV DEl)]) (by decide) rfl (by decide) ?_
              repeat walk_at "one"
              refine i_tup (x := .lst (iV DEl)) (by decide) rfl (by decide) ?_
              repeat walk_at "one"
              refine i_lst (vs := iV DEl) rfl (by walk_at "om") (iV_some (k := b) h5) (by rw [iV_len]; decide) ?_
              repeat walk_at "one"
              refine OKd.call (f_take (k := de) (dn hn rfl) s3 hz (by walk_at "om") (by walk_at "om") ?_)
              rw [List.set_set]
              repeat walk_at "one"
              refine ⟨by simp, ?_⟩
              repeat walk_at "one"
              exact h
end

section
variable {W : Wd} {n : Nat} {σ : St} {X : St → Prop} {K : V → St → Prop}
theorem f_stored (hn : 4 ≤ n) {i : Nat} {d : List UInt8} {p k : Nat} (hi : σ[i]? = some (bitsP d p)) (hz : d.length ≤ 1000000) (h1 : num d / 2 ^ (8 * c8 p) % 2 ^ 16 = k) (h2 : num d / 2 ^ (8 * c8 p + 16) % 2 ^ 16 = 65535 - k) (hk : k ≤ 65535) (hp : c8 p + 4 + k ≤ d.length)
    (h : K (.bytes ((d.drop (c8 p + 4)).take k).toArray) (σ.set i (bitsP d (8 * (c8 p + 4 + k))))) : OKd W n (.ref 263) [.obj i] σ K X := by
  obtain ⟨n, rfl⟩ := pre hn rfl
  refine c_def ["bits"] rfl rfl rfl ?_ (by decide) ?_
  · exact len1 fun a => rfl
  · repeat walk_at "one"
    refine ⟨.ref 104, m_inst hi rfl rfl rfl rfl, rfl, ?_⟩
    repeat walk_at "one"
    refine OKd.call (f_align (dn hn rfl) hi ?_)
    have s1 := set_at (o' := bitsP d (8 * c8 p)) hi
    repeat walk_at "one"
    refine ⟨.ref 97, m_inst s1 rfl rfl rfl rfl, rfl, ?_⟩
    repeat walk_at "one"
    refine OKd.call (f_take (k := 16) (dn hn rfl) s1 hz (by walk_at "om") (by walk_at "om") ?_)
    rw [List.set_set, h1]
    have s2 := set_at (o' := bitsP d (8 * c8 p + 16)) hi
    repeat walk_at "one"
    refine ⟨.ref 97, m_inst s2 rfl rfl rfl rfl, rfl, ?_⟩
    repeat walk_at "one"
    refine OKd.call (f_take (k := 16) (dn hn rfl) s2 hz (by walk_at "om") (by walk_at "om") ?_)
    rw [List.set_set, h2]
    have s3 := set_at (o' := bitsP d (8 * c8 p + 16 + 16)) hi
    have e : c8 (8 * c8 p + 16 + 16) = c8 p + 4 := by unfold c8; walk_at "om"
    repeat walk_at "one"
    refine ⟨_, rfl, fun g => ?_, fun g => ?_⟩
    · simp at g; walk_at "om"
    · repeat walk_at "one"
      refine ⟨.ref 111, m_inst s3 rfl rfl rfl rfl, rfl, ?_⟩
      repeat walk_at "one"
      refine OKd.call (f_octets (k := k) (dn hn rfl) s3 hz (by walk_at "om") ?_)
      rw [List.set_set, e]
      repeat walk_at "one"
      exact h
noncomputable def fixT : List Nat := tallyF fixL
noncomputable def fixS : List Nat := symbolsF fixL
noncomputable def fixDT : List Nat := tallyF fixD
noncomputable def fixDS : List Nat := symbolsF fixD
theorem fixL_mx : mx fixL = 9 := by decide +kernel
theorem fixD_mx : mx fixD = 5 := by decide +kernel
theorem fixL_room : roomF fixL = 0 := by decide +kernel
theorem fixD_room : roomF fixD = 0 := by decide +kernel
theorem f_blockdec (hn : 7 ≤ n) {i : Nat} (h : K (.tup [.obj σ.length, .obj (σ.length + 1)]) (σ ++ [decO fixT fixS, decO fixDT fixDS])) : OKd W n (.ref 270) [.obj i, .int 1] σ K X := by
  obtain ⟨n, rfl⟩ := pre hn rfl
  refine c_def ["bits", "way"] rfl rfl rfl ?_ (by decide) ?_
  · exact len2 fun a b => rfl
  · repeat walk_at "one"
    refine ⟨_, rfl, fun g => absurd g (by decide), fun _ => ?_⟩
    repeat walk_at "one"
    refine ⟨_, rfl, fun g => absurd g (by decide), fun _ => ?_⟩
    repeat walk_at "one"
    refine x_unp (names := [("literals", _), ("distances", _)]) rfl ?_ (by decide)
    repeat walk_at "one"
    refine OKd.call (f_fixed (dn hn rfl) ?_)
    refine ⟨_, rfl, rfl, ?_⟩
    repeat walk_at "one"
    refine e_tup ?_
    repeat walk_at "one"
    refine OKd.call (f_decoder (dn hn rfl) (by decide +kernel) (by rw [fixL_mx]; decide) (by rw [fixL_room]; decide) ?_)
    repeat walk_at "one"
    refine OKd.call (f_decoder (dn hn rfl) (by decide +kernel) (by rw [fixD_mx]; decide) (by rw [fixD_room]; decide) ?_)
    repeat walk_at "one"
    refine ⟨by simp, ?_⟩
    repeat walk_at "one"
    rw [List.append_assoc, List.length_append]
    exact h
end

section
variable {W : Wd} {n : Nat} {σ : St} {X : St → Prop} {K : V → St → Prop}
theorem b_elV {sc : Scope} {loc : Lc} {Kb : Bool → St → Prop} {e : Expr} (h : OKe W n sc e loc σ (fun v σ₁ => ∃ vs, Elems σ₁ v vs ∧ noRng v = true ∧ vs.length < 2 ^ 60 ∧ Kb (!vs.isEmpty) σ₁) X)
    (he : ∀ env whole, isTrue e env whole = (do let v ← whole; standAt e.pos; holding [v] (truthy v)) := by intro _ _; rfl) : OKb W n sc e loc σ Kb X := by
  intro A env ρ s E P N H
  refine PySem.wpAny_isTrue_value (wpAny_mono (h A env ρ s E P N H) (fun v s₁ ⟨c, σ₁, ρ₁, k₁, t₁, I₁, r₁⟩ => ?_) fun _ _ x => x) (he _ _)
  obtain ⟨vs, el, hn, hz, k₁⟩ := k₁
  obtain ⟨l, items, rfl, hl, hr, hs⟩ := lst_at' I₁ r₁ el hn
  have e : items.isEmpty = vs.isEmpty := by
    unfold Array.isEmpty
    rw [hs]
    cases vs <;> simp
  refine wpAny_truthy_list hl (by rw [hs]; walk_at "om") ⟨σ₁, ρ₁, ?_, ?_, ?_⟩
  · rw [e]; exact k₁
  · exact t₁.tr Stp.tok
  · exact I₁
noncomputable def draw (cells : List Int) (k m : Nat) : Nat := ((cells.getD (k % cells.length) 0 + 11 * ((k / cells.length : Nat) : Int)) % m).toNat
theorem draw_lt (cells : List Int) (k : Nat) {m : Nat} (hm : 0 < m) : draw cells k m < m := by
  unfold draw
  have := Int.emod_lt_of_pos (cells.getD (k % cells.length) 0 + 11 * ((k / cells.length : Nat) : Int)) (show (0 : Int) < m by walk_at "om")
  have := Int.emod_nonneg (cells.getD (k % cells.length) 0 + 11 * ((k / cells.length : Nat) : Int)) (show (m : Int) ≠ 0 by walk_at "om")
  omega
theorem f_draw (hn : 1 ≤ n) {i : Nat} {cv : V} {cells : List Int} {k m : Nat} (hi : σ[i]? = some (.list [cv, .int k])) (hc : Elems σ cv (cells.map .int)) (hcr : noRng cv = true) (h0 : cells ≠ []) (hz : cells.length ≤ 60) (hm : 0 < m) (hk : k ≤ 1000000)
    (hs : ∀ o, Elems (σ.set i o) cv (cells.map .int)) (h : K (.int (draw cells k m)) (σ.set i (.list [cv, .int ((k : Int) + 1)]))) : OKd W n (.ref 300) [.obj i, .int m] σ K X := by
  obtain ⟨n, rfl⟩ := pre hn rfl
  have hl : 0 < cells.length := List.length_pos_iff.mpr h0
  refine c_def ["source", "limit"] rfl rfl rfl ?_ (by decide) ?_
  · exact len2 fun a b => rfl
  · repeat walk_at "one"
    refine i_lst (vs := [cv, .int k]) hi (by decide) rfl (Nat.le_of_ble_eq_true rfl) ?_
    repeat walk_at "one"
    refine i_lst (vs := [cv, .int k]) hi (by decide) rfl (Nat.le_of_ble_eq_true rfl) ?_
    repeat walk_at "one"
    refine u_set (vs := [cv, .int k]) hi (by decide) (by simp) (Nat.le_of_ble_eq_true rfl) ?_
    have hs' := hs (.list [cv, .int ((k : Int) + 1)])
    repeat walk_at "one"
    refine c_len (vs := cells.map .int) hs' (by simp; walk_at "om") ?_ hcr
    repeat walk_at "one"
    rw [List.length_map]
    have e1 : Int.fmod (k : Nat) (cells.length : Nat) = (k % cells.length : Nat) := by rw [Int.fmod_eq_emod_of_nonneg _ (by walk_at "om")]; rfl
    have e2 : Int.fdiv (k : Nat) (cells.length : Nat) = (k / cells.length : Nat) := by rw [Int.fdiv_eq_ediv_of_nonneg _ (by walk_at "om")]; rfl
    have hlt := Nat.mod_lt k hl
    refine t_mod ?_ (by walk_at "om")
    rw [e1]
    refine i_lst (vs := cells.map .int) (x := .int (cells.getD (k % cells.length) 0)) hs' (by walk_at "om") (by
      rw [Int.toNat_natCast, List.getElem?_map, List.getElem?_eq_getElem hlt, List.getD_eq_getElem?_getD, List.getElem?_eq_getElem hlt]; rfl) (by simp; walk_at "om") ?_ hcr
    repeat walk_at "one"
    refine c_len (vs := cells.map .int) hs' (by simp; walk_at "om") ?_ hcr
    rw [List.length_map]
    refine t_fdiv ?_ (by walk_at "om") (by walk_at "om")
    rw [e2]
    repeat walk_at "one"
    refine t_mod ?_ (by walk_at "om")
    repeat walk_at "one"
    have e3 : Int.fmod (cells.getD (k % cells.length) 0 + 11 * ((k / cells.length : Nat) : Int)) (m : Nat) = (draw cells k m : Nat) := by
      unfold draw
      have := Int.emod_nonneg (cells.getD (k % cells.length) 0 + 11 * ((k / cells.length : Nat) : Int)) (show (m : Int) ≠ 0 by walk_at "om")
      rw [Int.fmod_eq_emod_of_nonneg _ (by walk_at "om")]; walk_at "om"
    rw [e3]
    exact h
end

section
variable {W : Wd} {n : Nat} {σ : St} {X : St → Prop} {K : V → St → Prop}
noncomputable def cellsF (ns : List Int) : List Int := if (ns.take 60).isEmpty then [0] else ns.take 60
theorem f_source (hn : 1 ≤ n) {ns : List Int} (hz : ns.length ≤ 1000000)
    (h : ∀ τ j, j < (σ ++ τ).length → σ.length ≤ j → ∀ i, i = (σ ++ τ).length - 1 → (σ ++ τ)[j]? = some (.list ((cellsF ns).map .int)) → (σ ++ τ)[i]? = some (.list [.obj j, .int 0]) → i ≠ j → K (.obj i) (σ ++ τ)) : OKd W n (.ref 305) [.lst (ns.map .int)] σ K X := by
  obtain ⟨n, rfl⟩ := pre hn rfl
  refine c_def ["script"] rfl rfl rfl ?_ (by decide) ?_
  · exact len1 fun a => rfl
  · walk_at "one"
    refine x_comp [] (e_cut ?_) trivial
    repeat walk_at "one"
    show OKe _ _ _ _ _ _ _ _
    repeat walk_at "one"
    refine cut_upto (vs := ns.map .int) rfl (by decide) (by simpa using hz) ?_
    rw [show (60 : Int).toNat = 60 from rfl, ← List.map_take]
    unfold cellsF at h
    have hL : (ns.take 60).length ≤ 60 := by simp; walk_at "om"
    generalize ns.take 60 = L at h hL
    refine ⟨L.map .int, fun k σ' => σ' = σ ++ [.list ((L.take k).map .int)], rfl, fun k σ' _ => rfl, rfl, ?_, ?_⟩
    · rintro k σ' y rfl hy
      refine ⟨fun _ => ?_, fun q => by cases q⟩
      rw [List.getElem?_map, Option.map_eq_some_iff] at hy
      obtain ⟨a, ha, rfl⟩ := hy
      repeat walk_at "one"
      refine c_int ?_
      have hg : (σ ++ [O.list ((L.take k).map .int)])[σ.length]? = some (.list ((L.take k).map .int)) := by simp
      refine ⟨_, hg, by simp; walk_at "om", ?_⟩
      rw [set_mid]
      show σ ++ _ = σ ++ [O.list (List.map V.int (L.take (k + 1)))]
      rw [List.take_succ, ha]
      simp
    · rintro σ' rfl
      rw [List.length_map, List.take_length]
      have hg : (σ ++ [O.list (L.map .int)])[σ.length]? = some (.list (L.map .int)) := by simp
      repeat walk_at "one"
      refine e_lstM ?_
      repeat walk_at "one"
      refine b_elV ?_
      repeat walk_at "one"
      refine ⟨L.map .int, hg, rfl, by simp; walk_at "om", fun g => ?_, fun g => ?_⟩
      · repeat walk_at "one"
        refine ⟨by simp, ?_⟩
        repeat walk_at "one"
        rw [List.append_assoc]
        have g' : ¬ L.isEmpty = true := by simpa using g
        rw [if_neg g'] at h
        refine h _ σ.length (by simp) (Nat.le_refl _) _ (by simp) ?_ ?_ (by simp)
        · simp
        · simp
      · refine e_lstM ?_
        repeat walk_at "one"
        refine ⟨by simp, ?_⟩
        repeat walk_at "one"
        refine ⟨by simp, ?_⟩
        repeat walk_at "one"
        have g' : L.isEmpty = true := by simpa using g
        rw [if_pos g'] at h
        rw [List.append_assoc, List.append_assoc]
        refine h _ (σ.length + 1) (by simp) (by walk_at "om") _ (by simp) ?_ ?_ (by simp)
        · simp
        · simp
end

section
variable {W : Wd} {n : Nat} {σ : St} {X : St → Prop} {K : V → St → Prop}
/-- the low bits, lowest first -/
noncomputable def lowB (v k : Nat) : List Bool := (List.range k).map fun j => decide (v / 2 ^ j % 2 = 1)
theorem bit_val (v j : Nat) : ((v / 2 ^ j % 2 : Nat) : Int) = if decide (v / 2 ^ j % 2 = 1) = true then 1 else 0 := by
  have := Nat.mod_lt (v / 2 ^ j) (by decide : 0 < 2)
  by_cases h : v / 2 ^ j % 2 = 1
  · simp [h]
  · have : v / 2 ^ j % 2 = 0 := by walk_at "om"
    simp [this]
theorem flat_one : ∀ l : List Bool, (l.map fun b => [b]).flatten = l
  | [] => rfl
  | a :: r => by rw [List.map_cons, List.flatten_cons, flat_one r]; rfl
theorem DropOk.str {σ τ : St} {x : Str} (h : K (.str x) σ) : DropOk σ K (.str x) (σ ++ τ) := .of (by unfold Fz; rfl) h
theorem f_low (hn : 1 ≤ n) {v k : Nat} (hv : v < 1000000) (hk : k ≤ 20) (h : K (.str (bstr (lowB v k))) σ) : OKd W n (.ref 310) [.int v, .int k] σ K X := by
  obtain ⟨n, rfl⟩ := pre hn rfl
  refine OKd.drop (c_def ["value", "count"] rfl rfl rfl ?_ (by decide) ?_)
  · exact len2 fun a b => rfl
  · repeat walk_at "one"
    refine ⟨_, m_str F.slot_str_join (by rfl), rfl, ?_⟩
    walk_at "one"
    refine e_comp [("value", .int v)] ?_ ⟨rfl, rfl, by decide, trivial⟩
    repeat walk_at "one"
    refine c_range1 ?_
    refine ⟨iV (List.range k), fun j σ' => σ' = σ ++ [.list (((lowB v j).map fun b => bstr [b]).map .str)], rng_el (by walk_at "om"), fun j σ' _ => rng_el (by walk_at "om"), rfl, ?_, ?_⟩
    · rintro j σ' y rfl hy
      obtain ⟨hj, rfl⟩ := rng_at hy
      refine ⟨fun _ => ?_, fun q => by cases q⟩
      repeat walk_at "one"
      refine t_pow ?_ (by walk_at "om") (by walk_at "om") (by decide)
      have e : (2 : Int) ^ ((j : Nat) : Int).toNat = ((2 ^ j : Nat) : Int) := by rw [Int.toNat_natCast]; push_cast; rfl
      have hp : 2 ^ j < 1073741824 := Nat.pow_lt_pow_right (by decide) (by walk_at "om" : j < 30)
      have hp0 : 0 < 2 ^ j := Nat.two_pow_pos j
      rw [e]
      refine t_fdiv ?_ (by walk_at "om") (by walk_at "om")
      repeat walk_at "one"
      refine t_mod ?_ (by decide)
      have e2 : Int.fmod (Int.fdiv (v : Nat) ((2 ^ j : Nat) : Int)) 2 = ((v / 2 ^ j % 2 : Nat) : Int) := by
        rw [Int.fdiv_eq_ediv_of_nonneg _ (by walk_at "om"), Int.fmod_eq_emod_of_nonneg _ (by decide), ← Int.natCast_ediv]; rfl
      rw [e2, bit_val]
      repeat walk_at "one"
      refine c_strbit ?_
      have hg : (σ ++ [O.list (((lowB v j).map fun b => bstr [b]).map .str)])[σ.length]? = some (.list (((lowB v j).map fun b => bstr [b]).map .str)) := by simp
      refine ⟨_, hg, by simp [lowB]; walk_at "om", ?_⟩
      rw [set_mid]
      show _ = σ ++ [O.list (((lowB v (j + 1)).map fun b => bstr [b]).map .str)]
      simp [lowB, List.range_succ]
    · rintro σ' rfl
      rw [iV_len, List.length_range]
      repeat walk_at "one"
      have hg : (σ ++ [O.list (((lowB v k).map fun b => bstr [b]).map .str)])[σ.length]? = some (.list ((((lowB v k).map fun b => [b]).map bstr).map .str)) := by simp [Function.comp_def]
      refine c_join (l := (lowB v k).map fun b => [b]) hg (by rw [flat_one]; simp [lowB]; walk_at "om") ?_
      repeat walk_at "one"
      rw [flat_one]
      exact .str h
/-- the low k bits, highest first: the first j of them -/
noncomputable def highB (v k j : Nat) : List Bool := (List.range j).map fun j => decide (v / 2 ^ (k - 1 - j) % 2 = 1)
theorem f_high (hn : 1 ≤ n) {v k : Nat} (hv : v < 1000000) (hk : k ≤ 20) (h : K (.str (bstr (highB v k k))) σ) : OKd W n (.ref 315) [.int v, .int k] σ K X := by
  obtain ⟨n, rfl⟩ := pre hn rfl
  refine OKd.drop (c_def ["value", "count"] rfl rfl rfl ?_ (by decide) ?_)
  · exact len2 fun a b => rfl
  · repeat walk_at "one"
    refine ⟨_, m_str F.slot_str_join (by rfl), rfl, ?_⟩
    walk_at "one"
    refine e_comp [("value", .int v), ("count", .int k)] ?_ ⟨rfl, rfl, by decide, rfl, rfl, by decide, trivial⟩
    repeat walk_at "one"
    refine c_range1 ?_
    refine ⟨iV (List.range k), fun j σ' => σ' = σ ++ [.list (((highB v k j).map fun b => bstr [b]).map .str)], rng_el (by walk_at "om"), fun j σ' _ => rng_el (by walk_at "om"), rfl, ?_, ?_⟩
    · rintro j σ' y rfl hy
      obtain ⟨hj, rfl⟩ := rng_at hy
      refine ⟨fun _ => ?_, fun q => by cases q⟩
      repeat walk_at "one"
      refine t_pow ?_ (by walk_at "om") (by walk_at "om") (by decide)
      have e : (2 : Int) ^ ((k : Nat) - 1 - (j : Nat) : Int).toNat = ((2 ^ (k - 1 - j) : Nat) : Int) := by rw [show ((k : Nat) - 1 - (j : Nat) : Int).toNat = k - 1 - j from by walk_at "om"]; push_cast; rfl
      have hp : 2 ^ (k - 1 - j) < 1073741824 := Nat.pow_lt_pow_right (by decide) (by walk_at "om" : k - 1 - j < 30)
      have hp0 : 0 < 2 ^ (k - 1 - j) := Nat.two_pow_pos _
      rw [e]
      refine t_fdiv ?_ (by walk_at "om") (by walk_at "om")
      repeat walk_at "one"
      refine t_mod ?_ (by decide)
      have e2 : Int.fmod (Int.fdiv (v : Nat) ((2 ^ (k - 1 - j) : Nat) : Int)) 2 = ((v / 2 ^ (k - 1 - j) % 2 : Nat) : Int) := by
        rw [Int.fdiv_eq_ediv_of_nonneg _ (by walk_at "om"), Int.fmod_eq_emod_of_nonneg _ (by decide), ← Int.natCast_ediv]; rfl
      rw [e2, bit_val]
      repeat walk_at "one"
      refine c_strbit ?_
      have hg : (σ ++ [O.list (((highB v k j).map fun b => bstr [b]).map .str)])[σ.length]? = some (.list (((highB v k j).map fun b => bstr [b]).map .str)) := by simp
      refine ⟨_, hg, by simp [highB]; walk_at "om", ?_⟩
      rw [set_mid]
      show _ = σ ++ [O.list (((highB v k (j + 1)).map fun b => bstr [b]).map .str)]
      simp [highB, List.range_succ]
    · rintro σ' rfl
      rw [iV_len, List.length_range]
      repeat walk_at "one"
      have hg : (σ ++ [O.list (((highB v k k).map fun b => bstr [b]).map .str)])[σ.length]? = some (.list ((((highB v k k).map fun b => [b]).map bstr).map .str)) := by simp [Function.comp_def]
      refine c_join (l := (highB v k k).map fun b => [b]) hg (by rw [flat_one]; simp [highB]; walk_at "om") ?_
      repeat walk_at "one"
      rw [flat_one]
      exact .str h
end

section
variable {W : Wd} {n : Nat} {σ : St} {X : St → Prop} {K : V → St → Prop}
noncomputable def upto (L : List Nat) (m : Nat) : List Nat := L.filter fun b => decide (b ≤ m)
theorem f_row (hn : 1 ≤ n) {m : Nat} {L E : List Nat} {pl b e : Nat} (hz : L.length ≤ 1000) (hz' : E.length ≤ 1000) (hp : (upto L m).length = pl + 1) (hb : L[pl]? = some b) (he : E[pl]? = some e)
    (h : K (.tup [.int pl, .int ((m : Int) - b), .int e]) σ) : OKd W n (.ref 320) [.int m, .tup [.lst (iV L), .lst (iV E)]] σ K X := by
  obtain ⟨n, rfl⟩ := pre hn rfl
  refine OKd.drop (c_def ["number", "rows"] rfl rfl rfl ?_ (by decide) ?_)
  · exact len2 fun a b => rfl
  · repeat walk_at "one"
    refine e_comp [("number", .int m)] ?_ ⟨rfl, rfl, by decide, trivial⟩
    repeat walk_at "one"
    refine i_tup (x := .lst (iV L)) (by decide) rfl (by decide) ?_
    refine ⟨iV L, fun k σ' => σ' = σ ++ [.list (iV (upto (L.take k) m))], rfl, fun k σ' _ => rfl, rfl, ?_, ?_⟩
    · rintro k σ' y rfl hy
      obtain ⟨hk, rfl⟩ := iV_at hy
      have st : upto (L.take (k + 1)) m = upto (L.take k) m ++ upto [L[k]] m := by
        unfold upto; rw [List.take_succ_eq_append_getElem hk, List.filter_append]
      unfold OKif
      repeat walk_at "one"
      refine ⟨_, rfl, fun g => ?_, fun g => ?_⟩
      · have g' : L[k] ≤ m := by simp at g; walk_at "om"
        repeat walk_at "one"
        have hg : (σ ++ [O.list (iV (upto (L.take k) m))])[σ.length]? = some (.list (iV (upto (L.take k) m))) := by simp
        have hsm : (upto (L.take k) m).length ≤ 1000 := by
          have := List.length_filter_le (fun b => decide (b ≤ m)) (L.take k)
          unfold upto; rw [List.length_take] at this; walk_at "om"
        refine ⟨_, hg, by rw [iV_len]; walk_at "om", ?_⟩
        rw [set_mid]
        show _ = σ ++ [O.list (iV (upto (L.take (k + 1)) m))]
        rw [st, show upto [L[k]] m = [L[k]] from by simp [upto, g'], ← iV_app]
        rfl
      · have g' : ¬ L[k] ≤ m := by simp at g; walk_at "om"
        show _ = σ ++ [O.list (iV (upto (L.take (k + 1)) m))]
        rw [st, show upto [L[k]] m = [] from by simp [upto]; walk_at "om", List.append_nil]
    · rintro σ' rfl
      rw [iV_len, List.take_length]
      have hg : (σ ++ [O.list (iV (upto L m))])[σ.length]? = some (.list (iV (upto L m))) := by simp
      repeat walk_at "one"
      refine c_len hg (by rw [iV_len, hp]; have := (List.getElem?_eq_some_iff.mp hb).1; walk_at "om") ?_
      rw [iV_len, hp]
      have hpl := (List.getElem?_eq_some_iff.mp hb).1
      have e1 : ((pl + 1 : Nat) : Int) - 1 = (pl : Nat) := by walk_at "om"
      repeat walk_at "one"
      rw [e1]
      refine e_tup ?_
      repeat walk_at "one"
      refine i_tup (x := .lst (iV L)) (by decide) rfl (by decide) ?_
      repeat walk_at "one"
      refine i_lst (vs := iV L) rfl (by walk_at "om") (iV_some (k := pl) hb) (by rw [iV_len]; walk_at "om") ?_
      repeat walk_at "one"
      refine i_tup (x := .lst (iV E)) (by decide) rfl (by decide) ?_
      repeat walk_at "one"
      refine i_lst (vs := iV E) rfl (by walk_at "om") (iV_some (k := pl) he) (by rw [iV_len]; walk_at "om") ?_
      repeat walk_at "one"
      refine ⟨by simp, ?_⟩
      repeat walk_at "one"
      exact .of (by unfold Fz; exact ⟨_, rfl, by simp [Fzs, Fz]⟩) h
end

section
variable {W : Wd} {n : Nat} {σ : St} {X : St → Prop} {K : V → St → Prop}
noncomputable def litB (s : Nat) : List Bool := if s < 144 then highB (48 + s) 8 8 else if s < 256 then highB (256 + s) 9 9 else if s < 280 then highB (s - 256) 7 7 else highB (s - 88) 8 8
theorem f_lit (hn : 2 ≤ n) {s : Nat} (hs : s < 288) (h : K (.str (bstr (litB s))) σ) : OKd W n (.ref 327) [.int s] σ K X := by
  obtain ⟨n, rfl⟩ := pre hn rfl
  refine c_def ["symbol"] rfl rfl rfl ?_ (by decide) ?_
  · exact len1 fun a => rfl
  · unfold litB at h
    repeat walk_at "one"
    refine ⟨_, rfl, fun g => ?_, fun g => ?_⟩
    · have g' : s < 144 := by simp at g; walk_at "om"
      rw [if_pos g'] at h
      repeat walk_at "one"
      rw [show (48 : Int) + (s : Nat) = ((48 + s : Nat) : Int) from by simp]
      refine OKd.call (f_high (k := 8) (dn hn rfl) (by walk_at "om") (by walk_at "om") ?_)
      repeat walk_at "one"
      exact h
    · have g' : ¬ s < 144 := by simp at g; walk_at "om"
      rw [if_neg g'] at h
      repeat walk_at "one"
      refine ⟨_, rfl, fun g => ?_, fun g => ?_⟩
      · have g' : s < 256 := by simp at g; walk_at "om"
        rw [if_pos g'] at h
        repeat walk_at "one"
        rw [show (256 : Int) + (s : Nat) = ((256 + s : Nat) : Int) from by simp]
        refine OKd.call (f_high (k := 9) (dn hn rfl) (by walk_at "om") (by walk_at "om") ?_)
        repeat walk_at "one"
        exact h
      · have g' : ¬ s < 256 := by simp at g; walk_at "om"
        rw [if_neg g'] at h
        repeat walk_at "one"
        refine ⟨_, rfl, fun g => ?_, fun g => ?_⟩
        · have g' : s < 280 := by simp at g; walk_at "om"
          rw [if_pos g'] at h
          repeat walk_at "one"
          rw [show ((s : Nat) : Int) - 256 = ((s - 256 : Nat) : Int) from by walk_at "om"]
          refine OKd.call (f_high (k := 7) (dn hn rfl) (by walk_at "om") (by walk_at "om") ?_)
          repeat walk_at "one"
          exact h
        · have g' : ¬ s < 280 := by simp at g; walk_at "om"
          rw [if_neg g'] at h
          repeat walk_at "one"
          rw [show ((s : Nat) : Int) - 88 = ((s - 88 : Nat) : Int) from by walk_at "om"]
          refine OKd.call (f_high (k := 8) (dn hn rfl) (by walk_at "om") (by walk_at "om") ?_)
          repeat walk_at "one"
          exact h
end

theorem tn_m1 (n : Nat) : (-1 + (n : Int)).toNat = n - 1 := by omega
section
variable {W : Wd} {n : Nat} {σ : St} {X : St → Prop} {K : V → St → Prop}
theorem getD_at {L : List Nat} {k : Nat} (h : k < L.length) : (iV L)[k]? = some (.int (L.getD k 0 : Nat)) := by
  rw [List.getD_eq_getElem?_getD, List.getElem?_eq_getElem h]; exact iV_get h
theorem two_pow_cast (e : Nat) : (2 : Int) ^ ((e : Nat) : Int).toNat = ((2 ^ e : Nat) : Int) := by rw [Int.toNat_natCast]; push_cast; rfl
theorem f_rowsok (hn : 1 ≤ n) {L E : List Nat} {c b last : Nat} (hL : L.length = c) (hE : E.length = c) (hc : 0 < c) (hc' : c ≤ 1000) (h0 : L.getD 0 0 = b) (he : ∀ k, E.getD k 0 ≤ 20)
    (hst : ∀ k, k + 1 < c → L.getD k 0 + 2 ^ E.getD k 0 = L.getD (k + 1) 0 + (if L.getD (k + 1) 0 = 258 then 1 else 0)) (hl : L.getD (c - 1) 0 + 2 ^ E.getD (c - 1) 0 = last + 1) (h : K (.bool true) σ) :
    OKd W n (.ref 334) [.tup [.lst (iV L), .lst (iV E)], .int c, .int b, .int last] σ K X := by
  obtain ⟨n, rfl⟩ := pre hn rfl
  have i0 : ∀ {K : V → St → Prop} {σ : St}, K (.lst (iV L)) σ → OKi W n (.tup [.lst (iV L), .lst (iV E)]) (.int 0) σ K X := fun h => i_tup (x := .lst (iV L)) (by decide) rfl (by decide) h
  have i1 : ∀ {K : V → St → Prop} {σ : St}, K (.lst (iV E)) σ → OKi W n (.tup [.lst (iV L), .lst (iV E)]) (.int 1) σ K X := fun h => i_tup (x := .lst (iV E)) (by decide) rfl (by decide) h
  refine c_def ["rows", "count", "base", "last"] rfl rfl rfl ?_ (by decide) ?_
  · exact len4 fun a b c d => rfl
  · repeat walk_at "one"
    refine i0 ?_
    repeat walk_at "one"
    refine c_len (vs := iV L) rfl (by rw [iV_len]; walk_at "om") ?_
    repeat walk_at "one"
    rw [iV_len, hL]
    refine ⟨_, rfl, fun g => by simp at g, fun _ => ?_⟩
    repeat walk_at "one"
    refine i1 ?_
    repeat walk_at "one"
    refine c_len (vs := iV E) rfl (by rw [iV_len]; walk_at "om") ?_
    repeat walk_at "one"
    rw [iV_len, hE]
    refine ⟨_, rfl, fun g => by simp at g, fun _ => ?_⟩
    repeat walk_at "one"
    refine i0 ?_
    repeat walk_at "one"
    refine i_lst (vs := iV L) rfl (by decide) (getD_at (k := 0) (by walk_at "om")) (by rw [iV_len]; walk_at "om") ?_
    repeat walk_at "one"
    rw [h0]
    refine ⟨_, rfl, fun g => by simp at g, fun _ => ?_⟩
    repeat walk_at "one"
    refine ⟨fun g => by simp at g, fun _ => ?_⟩
    repeat walk_at "one"
    refine x_for ?_
    repeat walk_at "one"
    refine c_range1 ?_
    rw [show ((c : Nat) : Int) - 1 = ((c - 1 : Nat) : Int) from by walk_at "om"]
    refine ⟨iV (List.range (c - 1)), fun k l σ' => σ' = σ ∧ Sub [("rows", .tup [.lst (iV L), .lst (iV E)]), ("last", .int last)] l, ⟨rfl, rfl, rfl, trivial⟩, fun k l σ' _ => rng_el (by walk_at "om"), ?_, ?_⟩
    · rintro J hJ k l σ' y ⟨rfl, hl⟩ hy
      obtain ⟨hk, rfl⟩ := rng_at hy
      refine OKs.sub (loc' := [("place", .int k), ("rows", .tup [.lst (iV L), .lst (iV E)]), ("last", .int last)]) ?_ (Sub.look ⟨rfl, hl.1, hl.2.1, trivial⟩)
      have hst' := hst k (by walk_at "om")
      have hek := he k
      have a1 := getD_at (L := L) (k := k) (by walk_at "om")
      have a2 := getD_at (L := L) (k := k + 1) (by walk_at "om")
      have a3 := getD_at (L := E) (k := k) (by walk_at "om")
      generalize L.getD k 0 = u at hst' a1
      generalize L.getD (k + 1) 0 = v at hst' a2
      generalize E.getD k 0 = w at hst' a3 hek
      generalize hw : 2 ^ w = w2 at hst'
      repeat walk_at "one"
      refine i0 ?_
      repeat walk_at "one"
      refine i_lst (vs := iV L) rfl (by walk_at "om") a1 (by rw [iV_len]; walk_at "om") ?_
      repeat walk_at "one"
      refine i1 ?_
      repeat walk_at "one"
      refine i_lst (vs := iV E) rfl (by walk_at "om") a3 (by rw [iV_len]; walk_at "om") ?_
      refine t_pow ?_ (by walk_at "om") (by walk_at "om") (by decide)
      rw [two_pow_cast, hw]
      repeat walk_at "one"
      refine i0 ?_
      repeat walk_at "one"
      refine i_lst (vs := iV L) rfl (by walk_at "om") a2 (by rw [iV_len]; walk_at "om") ?_
      repeat walk_at "one"
      refine i0 ?_
      repeat walk_at "one"
      refine i_lst (vs := iV L) rfl (by walk_at "om") a2 (by rw [iV_len]; walk_at "om") ?_
      repeat walk_at "one"
      refine ⟨_, rfl, fun g => ?_, fun g => ?_⟩
      · have g' : v = 258 := by simp at g; walk_at "om"
        rw [if_pos g'] at hst'
        repeat walk_at "one"
        refine ⟨_, rfl, fun g => ?_, fun g => ?_⟩
        · simp at g; walk_at "om"
        · repeat walk_at "one"
          exact hJ _ _ _ _ ⟨rfl, rfl, rfl, trivial⟩
      · have g' : ¬ v = 258 := by simp at g; walk_at "om"
        rw [if_neg g'] at hst'
        repeat walk_at "one"
        refine ⟨_, rfl, fun g => ?_, fun g => ?_⟩
        · simp at g; walk_at "om"
        · repeat walk_at "one"
          exact hJ _ _ _ _ ⟨rfl, rfl, rfl, trivial⟩
    · rintro l σ' ⟨rfl, hl'⟩
      refine OKs.sub (loc' := [("rows", .tup [.lst (iV L), .lst (iV E)]), ("last", .int last)]) ?_ (Sub.look ⟨hl'.1, hl'.2.1, trivial⟩)
      have hek := he (c - 1)
      have a1 := getD_at (L := L) (k := c - 1) (by walk_at "om")
      have a3 := getD_at (L := E) (k := c - 1) (by walk_at "om")
      generalize L.getD (c - 1) 0 = u at hl a1
      generalize E.getD (c - 1) 0 = w at hl a3 hek
      generalize hw : 2 ^ w = w2 at hl
      repeat walk_at "one"
      refine i0 ?_
      repeat walk_at "one"
      refine i_neg (vs := iV L) rfl (by walk_at "om") (by rw [iV_len]; walk_at "om") (by rw [iV_len, tn_m1, hL]; exact a1) (by rw [iV_len]; walk_at "om") ?_
      repeat walk_at "one"
      refine i1 ?_
      repeat walk_at "one"
      refine i_neg (vs := iV E) rfl (by walk_at "om") (by rw [iV_len]; walk_at "om") (by rw [iV_len, tn_m1, hE]; exact a3) (by rw [iV_len]; walk_at "om") ?_
      refine t_pow ?_ (by walk_at "om") (by walk_at "om") (by decide)
      rw [two_pow_cast, hw]
      repeat walk_at "one"
      show K (.bool _) σ'
      rw [show (((u : Nat) : Int) + ((w2 : Nat) : Int) - 1 == (last : Int)) = true from by simp; walk_at "om"]
      exact h
end

/-- a part: a literal, or a match (length, distance) -/
inductive Pt where
  | lit (k : Nat) | mat (l d : Nat)
noncomputable def ptV : Pt → V
  | .lit k => .int (k : Nat)
  | .mat l d => .tup [.int (l : Nat), .int (d : Nat)]
noncomputable def copyF (o : List Nat) (d : Nat) : Nat → List Nat
  | 0 => o
  | l + 1 => copyF o d l ++ [(copyF o d l).getD ((copyF o d l).length - d) 0]
noncomputable def layF (o : List Nat) : Pt → Option (List Nat)
  | .lit k => some (o ++ [k])
  | .mat l d => if o.length < d then none else some (copyF o d l)
theorem copyF_len (o : List Nat) (d : Nat) : ∀ l, (copyF o d l).length = o.length + l
  | 0 => rfl
  | l + 1 => by rw [copyF, List.length_append, copyF_len o d l]; simp; walk_at "om"
theorem copyF_lt {o : List Nat} {d : Nat} (ho : ∀ k ∈ o, k < 256) : ∀ l, ∀ k ∈ copyF o d l, k < 256
  | 0 => ho
  | l + 1 => by
    intro k hk
    rw [copyF] at hk
    rcases List.mem_append.mp hk with q | q
    · exact copyF_lt ho l k q
    · rw [List.mem_singleton] at q
      subst q
      rw [List.getD_eq_getElem?_getD]
      cases e : (copyF o d l)[(copyF o d l).length - d]? with
      | none => simp
      | some y => exact copyF_lt ho l y (List.mem_of_getElem? e)
/-- octets, as they lie in bytes -/
noncomputable def bL (o : List Nat) : List UInt8 := o.map Nat.toUInt8
noncomputable def bA (o : List Nat) : Array UInt8 := (bL o).toArray
theorem bA_size (o : List Nat) : (bA o).size = o.length := by simp [bA, bL]
theorem bA_push (o : List Nat) (k : Nat) : (bA o).push k.toUInt8 = bA (o ++ [k]) := by simp [bA, bL]
theorem u8 {k : Nat} (h : k < 256) : (k.toUInt8).toNat = k := by simp [Nat.toUInt8]; walk_at "om"
section
variable {W : Wd} {n : Nat} {σ : St} {X : St → Prop} {K : V → St → Prop}
theorem f_lay (hn : 3 ≤ n) {i : Nat} {o : List Nat} {p : Pt} {a : Int} (hi : σ[i]? = some (.barr (bA o))) (ho : ∀ k ∈ o, k < 256) (hp : match p with | .lit k => k < 256 ∧ o.length < 1000000 | .mat l d => 1 ≤ d ∧ l ≤ 300 ∧ d ≤ 40000 ∧ o.length + l ≤ 1000000)
    (h : match layF o p with | some o' => K .none (σ.set i (.barr (bA o'))) | none => X σ) : OKdR W n (.ref 256) [.obj i, ptV p, .int a] σ K X := by
  obtain ⟨n, rfl⟩ := pre hn rfl
  refine r_def ["out", "part", "at"] rfl rfl rfl ?_ (by decide) ?_
  · exact len3 fun a b c => rfl
  · cases p with
    | lit k =>
      refine r_cons (r_if (b_boolV ?_))
      repeat walk_at "one"
      refine e_glb (.type "int") rfl ?_
      repeat walk_at "one"
      refine c_isint ?_
      refine ⟨_, rfl, fun _ => ?_, fun g => by cases g⟩
      refine r_cons (r_expr (r_callm ?_))
      repeat walk_at "one"
      refine ⟨_, m_ba hi ba_slot_append ba_type_append, rfl, ?_⟩
      repeat walk_at "one"
      refine c_bapp hi (by walk_at "om") (by walk_at "om") (by rw [bA_size]; walk_at "om") ?_
      refine r_cons (OKx.r ?_)
      repeat walk_at "one"
      rw [Int.toNat_natCast, bA_push]
      exact h
    | mat l d =>
      obtain ⟨h1, h2, h3, h4⟩ := hp
      refine r_cons (r_if (b_boolV ?_))
      repeat walk_at "one"
      refine e_glb (.type "int") rfl ?_
      repeat walk_at "one"
      refine c_isintT ?_
      refine ⟨_, rfl, (fun g => by cases g), fun _ => OKs.r ?_⟩
      repeat walk_at "one"
      refine r_cons (OKx.r ?_)
      refine x_unp (names := [("length", _), ("distance", _)]) rfl ?_ (by decide)
      repeat walk_at "one"
      refine ⟨_, rfl, rfl, ?_⟩
      refine r_cons (r_if ?_)
      repeat walk_at "one"
      refine c_blen hi (by rw [bA_size]; walk_at "om") ?_
      rw [bA_size]
      repeat walk_at "one"
      refine ⟨_, rfl, fun g => OKs.r ?_, fun g => OKs.r ?_⟩
      · have g' : o.length < d := by simp at g; walk_at "om"
        rw [show layF o (.mat l d) = none from if_pos g'] at h
        obtain ⟨n, rfl⟩ : ∃ m, n = m + 2 := ⟨n - 2, by walk_at "om"⟩
        refine s_cons (x_raise ?_)
        repeat walk_at "one"
        exact ⟨_, _, rfl, h⟩
      · have g' : ¬ o.length < d := by simp at g; walk_at "om"
        rw [show layF o (.mat l d) = some (copyF o d l) from if_neg g'] at h
        repeat walk_at "one"
        refine r_cons (r_for ?_)
        repeat walk_at "one"
        refine c_range1 ?_
        refine ⟨iV (List.range l), fun k lo σ' => σ' = σ.set i (.barr (bA (copyF o d k))) ∧ Sub [("out", .obj i), ("distance", .int d)] lo, ⟨?_, rfl, rfl, trivial⟩, fun k l σ' _ => rng_el (by walk_at "om"), ?_, ?_⟩
        · have := List.getElem?_eq_some_iff.mp hi
          show σ = σ.set i (.barr (bA o))
          rw [← this.2]; simp
        · rintro J hJ k lo σ' y ⟨rfl, hl⟩ hy
          obtain ⟨hk, rfl⟩ := rng_at hy
          refine OKsR.sub (loc' := [("out", .obj i), ("distance", .int d)]) ?_ (Sub.look ⟨hl.1, hl.2.1, trivial⟩)
          have s1 := set_at (o' := .barr (bA (copyF o d k))) hi
          have hlen := copyF_len o d k
          have hlt := copyF_lt (d := d) ho k
          have hx : (copyF o d k)[(copyF o d k).length - d]? = some ((copyF o d k).getD ((copyF o d k).length - d) 0) := by
            rw [List.getD_eq_getElem?_getD, List.getElem?_eq_getElem (by walk_at "om")]; rfl
          have hstep : copyF o d (k + 1) = copyF o d k ++ [(copyF o d k).getD ((copyF o d k).length - d) 0] := rfl
          have hv := hlt _ (List.mem_of_getElem? hx)
          generalize (copyF o d k).getD ((copyF o d k).length - d) 0 = y at hx hstep hv
          refine r_cons (r_expr (r_callm ?_))
          repeat walk_at "one"
          refine ⟨_, m_ba s1 ba_slot_append ba_type_append, rfl, ?_⟩
          repeat walk_at "one"
          refine c_blen s1 (by rw [bA_size]; walk_at "om") ?_
          rw [bA_size]
          repeat walk_at "one"
          refine i_ba (v := y.toUInt8) s1 (by walk_at "om") (by rw [bA_size]; walk_at "om") ?_ ?_
          · rw [Int.toNat_sub]
            simp [bA, bL, hx]
          rw [u8 hv]
          repeat walk_at "one"
          refine c_bapp s1 (by walk_at "om") (by walk_at "om") (by rw [bA_size]; walk_at "om") ?_
          rw [Int.toNat_natCast, bA_push, ← hstep, List.set_set]
          refine OKs.r ?_
          repeat walk_at "one"
          exact hJ _ _ _ _ ⟨rfl, rfl, rfl, trivial⟩
        · rintro lo σ' ⟨rfl, hl⟩
          refine OKs.r ?_
          repeat walk_at "one"
          rw [iV_len, List.length_range]
          exact h
end

noncomputable abbrev PartF (N p : Nat) (v : V) (p' : Nat) : Prop := PartIs N fixT fixS fixDT fixDS p v p'
/-- the parts from the place p on, till the end of the block -/
inductive Chain (N : Nat) : Nat → List Pt → Nat → Prop
  | nil {p p' : Nat} (h : PartF N p .none p') : Chain N p [] p'
  | cons {p p1 p' : Nat} {x : Pt} {xs : List Pt} (h : PartF N p (ptV x) p1) (r : Chain N p1 xs p') : Chain N p (x :: xs) p'
noncomputable def layAll : List Nat → List Pt → Option (List Nat)
  | o, [] => some o
  | o, x :: r => match layF o x with
    | some o' => layAll o' r
    | none => none
noncomputable def ptOk : Pt → Prop
  | .lit k => k < 256
  | .mat l d => 1 ≤ d ∧ l ≤ 300 ∧ d ≤ 40000
/-- a stored block of the octets first at p0, and behind it a last block of the parts -/
structure Stream (d : List UInt8) (p0 : Nat) (first : List Nat) (parts : List Pt) (q pE : Nat) : Prop where
  q_is : c8 (p0 + 3) = q
  last0 : num d / 2 ^ p0 % 2 ^ 1 = 0
  way0 : num d / 2 ^ (p0 + 1) % 2 ^ 2 = 0
  len0 : num d / 2 ^ (8 * q) % 2 ^ 16 = first.length
  len1 : num d / 2 ^ (8 * q + 16) % 2 ^ 16 = 65535 - first.length
  firstIs : (d.drop (q + 4)).take first.length = bL first
  firstLe : q + 4 + first.length ≤ d.length
  last1 : num d / 2 ^ (8 * (q + 4 + first.length)) % 2 ^ 1 = 1
  way1 : num d / 2 ^ (8 * (q + 4 + first.length) + 1) % 2 ^ 2 = 1
  chain : Chain (num d) (8 * (q + 4 + first.length) + 3) parts pE
  endLe : pE ≤ 8 * d.length
  firstLt : ∀ k ∈ first, k < 256
  ptsOk : ∀ x ∈ parts, ptOk x
  small : d.length ≤ 100000 ∧ first.length ≤ 100 ∧ parts.length ≤ 100
theorem PartIs.gt {N : Nat} {lt ls dt ds : List Nat} {p : Nat} {v : V} {p' : Nat} (h : PartIs N lt ls dt ds p v p') : p < p' := by
  cases h with
  | lit h _ => exact h.gt
  | fin h => exact h.gt
  | pair h _ _ h3 _ _ => have := h.gt; have := h3.gt; walk_at "om"
theorem Chain.gt {N : Nat} : ∀ {p : Nat} {xs : List Pt} {p' : Nat}, Chain N p xs p' → p < p'
  | _, _, _, .nil h => h.gt
  | _, _, _, .cons h r => by have := h.gt; have := r.gt; walk_at "om"
theorem fixT_len : fixT.length ≤ 1000 := by decide +kernel
theorem fixS_len : fixS.length ≤ 1000000 := by decide +kernel
theorem fixDT_len : fixDT.length ≤ 1000 := by decide +kernel
theorem fixDS_len : fixDS.length ≤ 1000000 := by decide +kernel
theorem set_other {σ : St} {i j : Nat} {o o' : O} (h : σ[j]? = some o) (hij : i ≠ j) : (σ.set i o')[j]? = some o := by rw [List.getElem?_set_ne hij]; exact h
section
variable {W : Wd} {n : Nat} {σ : St} {X : St → Prop} {K : V → St → Prop}
/-- the next part is read -/
noncomputable def nextV : List Pt → V
  | [] => .none
  | x :: _ => ptV x
theorem f_next (hn : 5 ≤ n) {i j j' : Nat} {d : List UInt8} {p pE : Nat} {xs : List Pt} (hi : σ[i]? = some (bitsP d p)) (hj : σ[j]? = some (decO fixT fixS)) (hj' : σ[j']? = some (decO fixDT fixDS)) (hij : i ≠ j) (hij' : i ≠ j')
    (hz : d.length ≤ 1000000) (hr : Chain (num d) p xs pE) (hp : pE ≤ 8 * d.length)
    (h : ∀ p1, (match xs with | [] => p1 = pE | _ :: r => Chain (num d) p1 r pE) → K (nextV xs) (σ.set i (bitsP d p1))) : OKd W n (.ref 249) [.obj i, .obj j, .obj j', rowsV] σ K X := by
  cases hr with
  | nil hr => exact f_part hn hi hj hj' hij hij' hz fixT_len fixS_len fixDT_len fixDS_len hr hp (h _ rfl)
  | cons hr hc => exact f_part hn hi hj hj' hij hij' hz fixT_len fixS_len fixDT_len fixDS_len hr (by have := hc.gt; walk_at "om") (h _ hc)
theorem notNone_pt (x : Pt) : notNone (ptV x) = true := by cases x <;> rfl
/-- all but these places of the ledger stay -/
noncomputable def Sm (σ σ' : St) (l : List Nat) : Prop := ∀ i o, i ∉ l → σ[i]? = some o → σ'[i]? = some o
theorem Sm.refl (σ : St) (l : List Nat) : Sm σ σ l := fun _ _ _ e => e
theorem Sm.set {σ σ' : St} {l : List Nat} {j : Nat} {o : O} (h : Sm σ σ' l) (hj : j ∈ l) : Sm σ (σ'.set j o) l := fun i o' hi e => by
  rw [List.getElem?_set_ne (fun q => hi (by subst q; exact hj))]; exact h i o' hi e
theorem Sm.app {σ σ' τ : St} {l : List Nat} (h : Sm σ σ' l) : Sm σ (σ' ++ τ) l := fun i o' hi e => app_at (h i o' hi e)
theorem f_inflinto (hn : 8 ≤ n) {io ib : Nat} {d : List UInt8} {p0 q pE : Nat} {first : List Nat} {parts : List Pt} (hio : σ[io]? = some (.barr #[])) (hib : σ[ib]? = some (bitsP d p0)) (hne : ib ≠ io) (S : Stream d p0 first parts q pE)
    (hX : layAll first parts = none → ∀ σ', Sm σ σ' [io, ib] → X σ') (h : ∀ o', layAll first parts = some o' → ∀ σ', Sm σ σ' [io, ib] → σ'[io]? = some (.barr (bA o')) → σ'[ib]? = some (bitsP d (8 * c8 pE)) → o'.length ≤ 900000 → K .none σ') : OKdR W n (.ref 277) [.obj io, .obj ib] σ K X := by
  obtain ⟨n, rfl⟩ := pre hn rfl
  obtain ⟨sm1, sm2, sm3⟩ := S.small
  have hz : d.length ≤ 1000000 := by walk_at "om"
  have hce := S.chain.gt
  refine r_def ["out", "bits"] rfl rfl rfl ?_ (by decide) ?_
  · exact len2 fun a b => rfl
  · refine r_cons (OKx.r ?_)
    repeat walk_at "one"
    refine e_tup ?_
    repeat walk_at "one"
    refine OKd.call (f_lenrows (dn hn rfl) ?_)
    repeat walk_at "one"
    refine OKd.call (f_distrows (dn hn rfl) ?_)
    repeat walk_at "one"
    refine ⟨by simp, ?_⟩
    refine r_cons (OKx.r ?_)
    repeat walk_at "one"
    refine r_cons (r_while (fun k l σ' => Sm σ σ' [io, ib] ∧ (
      (k = 2 ∧ σ'[io]? = some (.barr (bA [])) ∧ σ'[ib]? = some (bitsP d p0) ∧ Sub [("out", .obj io), ("bits", .obj ib), ("rows", rowsV), ("is_last", .bool false)] l) ∨
      (k = 1 ∧ σ'[io]? = some (.barr (bA first)) ∧ σ'[ib]? = some (bitsP d (8 * (q + 4 + first.length))) ∧ Sub [("out", .obj io), ("bits", .obj ib), ("rows", rowsV), ("is_last", .bool false)] l) ∨
      (k = 0 ∧ ∃ o', layAll first parts = some o' ∧ o'.length ≤ 900000 ∧ σ'[io]? = some (.barr (bA o')) ∧ σ'[ib]? = some (bitsP d pE) ∧ Sub [("bits", .obj ib), ("is_last", .bool true)] l))) 2 ⟨.refl _ _, .inl ⟨rfl, hio, hib, rfl, rfl, rfl, rfl, trivial⟩⟩ ?_)
    have mi : io ∈ [io, ib] := by simp
    have mb : ib ∈ [io, ib] := by simp
    rintro J hJ k l σ' ⟨sm, ⟨rfl, hio, hib, hl⟩ | ⟨rfl, hio, hib, hl⟩ | ⟨rfl, o', ho', hsz, hio, hib, hl⟩⟩
    · refine OKb.sub (loc' := [("is_last", .bool false)]) ?_ (Sub.look ⟨hl.2.2.2.1, trivial⟩)
      walk_at "one"
      refine b_boolV ?_
      repeat walk_at "one"
      refine ⟨_, rfl, fun _ => ?_, fun g => by cases g⟩
      refine OKsR.sub (loc' := [("out", .obj io), ("bits", .obj ib), ("rows", rowsV)]) ?_ (Sub.look ⟨hl.1, hl.2.1, hl.2.2.1, trivial⟩)
      refine r_cons (OKx.r ?_)
      repeat walk_at "one"
      refine ⟨.ref 97, m_inst hib rfl rfl rfl rfl, rfl, ?_⟩
      repeat walk_at "one"
      have b1 := S.firstLe
      have b2 := S.q_is
      have f3 : p0 + 3 ≤ 8 * d.length := by unfold c8 at b2; omega
      refine OKd.call (f_take (k := 1) (dn hn rfl) hib hz (Nat.le_trans (Nat.add_le_add_left (by decide) p0) f3) (by walk_at "om") ?_)
      rw [S.last0]
      have s1 := set_at (o' := bitsP d (p0 + 1)) hib
      repeat walk_at "one"
      refine r_cons (OKx.r ?_)
      repeat walk_at "one"
      refine ⟨.ref 97, m_inst s1 rfl rfl rfl rfl, rfl, ?_⟩
      repeat walk_at "one"
      refine OKd.call (f_take (k := 2) (dn hn rfl) s1 hz f3 (by walk_at "om") ?_)
      rw [S.way0, List.set_set]
      have s2 := set_at (o' := bitsP d (p0 + 1 + 2)) hib
      refine r_cons (r_if ?_)
      repeat walk_at "one"
      refine ⟨_, rfl, fun _ => ?_, fun g => by simp at g⟩
      have e3 : c8 (p0 + 1 + 2) = q := S.q_is
      have t1 := set_other (o' := bitsP d (p0 + 1 + 2)) hio hne
      refine r_cons (r_expr (r_callm ?_))
      repeat walk_at "one"
      refine ⟨_, m_ba t1 ba_slot_extend ba_type_extend, rfl, ?_⟩
      repeat walk_at "one"
      refine OKd.call (f_stored (k := first.length) (dn hn rfl) s2 hz (by rw [e3]; exact S.len0) (by rw [e3]; exact S.len1) (by walk_at "om") (by rw [e3]; walk_at "om") ?_)
      rw [e3, S.firstIs, List.set_set]
      repeat walk_at "one"
      have t2 := set_other (o' := bitsP d (8 * (q + 4 + first.length))) hio hne
      have s3 := set_at (o' := bitsP d (8 * (q + 4 + first.length))) hib
      refine c_bext t2 (by rw [bA_size]; simp [bL]; walk_at "om") ?_
      rw [show bA [] ++ (bL first).toArray = bA first from by simp [bA, bL]]
      refine r_cons (OKx.r (x_cont ?_))
      exact hJ _ _ _ _ ⟨1, by walk_at "om", (sm.set mb).set mi, .inr (.inl ⟨rfl, set_at t2, set_other s3 (Ne.symm hne), rfl, rfl, rfl, rfl, trivial⟩)⟩
    · refine OKb.sub (loc' := [("is_last", .bool false)]) ?_ (Sub.look ⟨hl.2.2.2.1, trivial⟩)
      walk_at "one"
      refine b_boolV ?_
      repeat walk_at "one"
      refine ⟨_, rfl, fun _ => ?_, fun g => by cases g⟩
      refine OKsR.sub (loc' := [("out", .obj io), ("bits", .obj ib), ("rows", rowsV)]) ?_ (Sub.look ⟨hl.1, hl.2.1, hl.2.2.1, trivial⟩)
      have b1 := S.endLe
      generalize hp2 : 8 * (q + 4 + first.length) = p2 at hib hce
      have f3 : p2 + 3 ≤ 8 * d.length := Nat.le_trans (Nat.le_of_lt hce) b1
      refine r_cons (OKx.r ?_)
      repeat walk_at "one"
      refine ⟨.ref 97, m_inst hib rfl rfl rfl rfl, rfl, ?_⟩
      repeat walk_at "one"
      refine OKd.call (f_take (k := 1) (dn hn rfl) hib hz (Nat.le_trans (Nat.add_le_add_left (by decide) p2) f3) (by walk_at "om") ?_)
      rw [← hp2, S.last1, hp2]
      have s1 := set_at (o' := bitsP d (p2 + 1)) hib
      repeat walk_at "one"
      refine r_cons (OKx.r ?_)
      repeat walk_at "one"
      refine ⟨.ref 97, m_inst s1 rfl rfl rfl rfl, rfl, ?_⟩
      repeat walk_at "one"
      refine OKd.call (f_take (k := 2) (dn hn rfl) s1 hz f3 (by walk_at "om") ?_)
      rw [← hp2, S.way1, hp2, List.set_set]
      have s2 := set_at (o' := bitsP d (p2 + 1 + 2)) hib
      have t1 := set_other (o' := bitsP d (p2 + 1 + 2)) hio hne
      have sm2' : Sm σ (σ'.set ib (bitsP d (p2 + 1 + 2))) [io, ib] := sm.set mb
      generalize hs2 : σ'.set ib (bitsP d (p2 + 1 + 2)) = σ2 at s2 t1 sm2'
      refine r_cons (r_if ?_)
      repeat walk_at "one"
      refine ⟨_, rfl, fun g => by simp at g, fun _ => OKs.r ?_⟩
      repeat walk_at "one"
      refine r_cons (OKx.r (x_unp (names := [("literals", _), ("distances", _)]) rfl ?_ (by decide)))
      repeat walk_at "one"
      refine OKd.call (f_blockdec (dn hn rfl) ?_)
      refine ⟨_, rfl, rfl, ?_⟩
      have hlb := (List.getElem?_eq_some_iff.mp s2).1
      have j1 : (σ2 ++ [decO fixT fixS, decO fixDT fixDS])[σ2.length]? = some (decO fixT fixS) := by simp
      have j2 : (σ2 ++ [decO fixT fixS, decO fixDT fixDS])[σ2.length + 1]? = some (decO fixDT fixDS) := by simp
      have s3 := app_at (τ := [decO fixT fixS, decO fixDT fixDS]) s2
      have t2 := app_at (τ := [decO fixT fixS, decO fixDT fixDS]) t1
      have ne1 : ib ≠ σ2.length := by walk_at "om"
      have ne2 : ib ≠ σ2.length + 1 := by walk_at "om"
      have hlo := (List.getElem?_eq_some_iff.mp t1).1
      have ne3 : io ≠ σ2.length := by walk_at "om"
      have ne4 : io ≠ σ2.length + 1 := by walk_at "om"
      generalize σ2.length = j at j1 j2 ne1 ne2 ne3 ne4
      have sm3' : Sm σ (σ2 ++ [decO fixT fixS, decO fixDT fixDS]) [io, ib] := sm2'.app
      generalize σ2 ++ [decO fixT fixS, decO fixDT fixDS] = σ3 at j1 j2 s3 t2 sm3'
      have hch : Chain (num d) (p2 + 1 + 2) parts pE := by have := S.chain; rw [hp2] at this; exact this
      refine r_cons (OKx.r ?_)
      repeat walk_at "one"
      refine OKd.call (f_next (dn hn rfl) s3 j1 j2 ne1 ne2 hz hch S.endLe fun p1 hp1 => ?_)
      refine r_cons (r_while (fun m l σ' => ∃ o xs pc, m = xs.length ∧ Sm σ σ' [io, ib] ∧ layAll o xs = layAll first parts ∧ (∀ k ∈ o, k < 256) ∧ (∀ x ∈ xs, ptOk x) ∧ o.length + 300 * xs.length ≤ 900000 ∧
        σ'[io]? = some (.barr (bA o)) ∧ σ'[ib]? = some (bitsP d pc) ∧ σ'[j]? = some (decO fixT fixS) ∧ σ'[j + 1]? = some (decO fixDT fixDS) ∧ (match xs with | [] => pc = pE | _ :: r => Chain (num d) pc r pE) ∧
        Sub [("out", .obj io), ("bits", .obj ib), ("rows", rowsV), ("is_last", .bool true), ("literals", .obj j), ("distances", .obj (j + 1)), ("part", nextV xs)] l) parts.length
        ⟨first, parts, p1, rfl, sm3'.set mb, rfl, S.firstLt, S.ptsOk, by walk_at "om", set_other t2 hne, set_at s3, set_other j1 ne1, set_other j2 ne2, hp1, rfl, rfl, rfl, rfl, rfl, rfl, rfl, trivial⟩ ?_)
      rintro J₂ hJ₂ m l σ' ⟨o, xs, pc, rfl, sm4, hla, hlt, hok, hlen, hio, hib, hj1, hj2, hch, hl⟩
      cases xs with
      | nil =>
        refine OKb.sub (loc' := [("part", .none)]) ?_ (Sub.look ⟨hl.2.2.2.2.2.2.1, trivial⟩)
        repeat walk_at "one"
        refine t_isnotN ⟨_, rfl, (fun g => by cases g), fun _ => ?_⟩
        refine OKs.r (s_nil ?_)
        subst hch
        exact hJ _ _ _ _ ⟨0, by walk_at "om", sm4, .inr (.inr ⟨rfl, o, hla.symm, by simpa using hlen, hio, hib, hl.2.1, hl.2.2.2.1, trivial⟩)⟩
      | cons x r =>
        refine OKb.sub (loc' := [("part", ptV x)]) ?_ (Sub.look ⟨hl.2.2.2.2.2.2.1, trivial⟩)
        repeat walk_at "one"
        refine t_isnot (notNone_pt x) ⟨_, rfl, fun _ => ?_, fun g => by cases g⟩
        refine OKsR.sub (loc' := [("out", .obj io), ("part", ptV x), ("bits", .obj ib), ("rows", rowsV), ("literals", .obj j), ("distances", .obj (j + 1)), ("is_last", .bool true)]) ?_
          (Sub.look ⟨hl.1, hl.2.2.2.2.2.2.1, hl.2.1, hl.2.2.1, hl.2.2.2.2.1, hl.2.2.2.2.2.1, hl.2.2.2.1, trivial⟩)
        have hx := hok x List.mem_cons_self
        have hib' : σ'[ib]? = some (bitsO d (c8 pc) (num d / 2 ^ pc % 2 ^ (8 * c8 pc - pc) : Nat) (8 * c8 pc - pc : Nat)) := hib
        rw [List.length_cons] at hlen
        refine r_cons (r_expr (r_call (.ref 256) rfl ?_))
        repeat walk_at "one"
        refine f_lay (dn hn rfl) hio hlt ?_ ?_
        · cases x with
          | lit k => exact ⟨hx, by walk_at "om"⟩
          | mat l d => exact ⟨hx.1, hx.2.1, hx.2.2, by have := hx.2.1; walk_at "om"⟩
        · have hla : (match layF o x with | some o' => layAll o' r | none => none) = layAll first parts := hla
          cases ho : layF o x with
          | none =>
            rw [ho] at hla
            exact hX hla.symm _ sm4
          | some o' =>
            rw [ho] at hla
            have s4 := set_other (o' := .barr (bA o')) hib (Ne.symm hne)
            have s5 := set_at (o' := .barr (bA o')) hio
            refine OKs.r ?_
            repeat walk_at "one"
            refine OKd.call (f_next (dn hn rfl) s4 (set_other hj1 ne3) (set_other hj2 ne4) ne1 ne2 hz hch S.endLe fun p1 hp1 => ?_)
            repeat walk_at "one"
            have ho2 : (∀ k ∈ o', k < 256) ∧ o'.length ≤ o.length + 300 := by
              cases x with
              | lit k =>
                cases ho
                refine ⟨fun z hz => ?_, by simp⟩
                rcases List.mem_append.mp hz with q | q
                · exact hlt z q
                · rw [List.mem_singleton] at q; subst q; exact hx
              | mat l d' =>
                have ho : (if o.length < d' then none else some (copyF o d' l)) = some o' := ho
                split at ho
                · cases ho
                · cases ho
                  refine ⟨copyF_lt hlt l, ?_⟩
                  have := hx.2.1
                  rw [copyF_len]; walk_at "om"
            exact hJ₂ _ _ _ _ ⟨r.length, by simp, o', r, p1, rfl, (sm4.set mi).set mb, hla, ho2.1, fun x hx => hok x (List.mem_cons_of_mem _ hx), by have := ho2.2; walk_at "om", set_other s5 hne, set_at s4, set_other (set_other hj1 ne3) ne1, set_other (set_other hj2 ne4) ne2, hp1,
              rfl, rfl, rfl, rfl, rfl, rfl, rfl, trivial⟩
    · refine OKb.sub (loc' := [("is_last", .bool true)]) ?_ (Sub.look ⟨hl.2.1, trivial⟩)
      walk_at "one"
      refine b_boolV ?_
      repeat walk_at "one"
      refine ⟨_, rfl, (fun g => by cases g), fun _ => OKs.r ?_⟩
      refine OKs.sub (loc' := [("bits", .obj ib)]) ?_ (Sub.look ⟨hl.1, trivial⟩)
      repeat walk_at "one"
      refine ⟨.ref 104, m_inst hib rfl rfl rfl rfl, rfl, ?_⟩
      repeat walk_at "one"
      refine OKd.call (f_align (dn hn rfl) hib ?_)
      repeat walk_at "one"
      exact h o' ho' _ (sm.set mb) (set_other hio hne) (set_at hib) hsz
end

section
variable {W : Wd} {n : Nat} {sc : Scope} {loc : Lc} {σ : St} {X : St → Prop} {K : Fl → Lc → St → Prop} {KV : V → St → Prop}
theorem r_set {y : Str} {e : Expr} {p pos : Pos} (h : OKeR W n sc e loc σ (fun v σ₁ => K .next ((y, v) :: loc) σ₁) X) (hy : sc.names.lookup y = some .local := by rfl)
    (hs : ∀ env, swapsWith e (some (.Name y p)) pos.line env = pure false := by intro _; rfl) : OKxR W n sc (.Assign [.Name y p] e pos) loc σ K X := by
  intro A env ρ s E P N H
  rw [exec_Assign_Name env y p e pos (hs env)]
  refine wpR_then (wpAny_standAt (wpR_bind (wpR_mono (h A env ρ s E P N H) (fun x s₁ ⟨v, σ₁, ρ₁, k₁, t₁, I₁, r₁⟩ => ?_) fun _ _ x => x)))
  refine wpR_then (wpAny_standAt (wpR_then (wpAny_bindName (store_any I₁ (N.step t₁) r₁ (.inl hy) fun s' t' I' N' => wpR_pure (.of k₁ (t₁.weak.tr t') I' N' rfl)))))
theorem r_defD {f : Addr} {oc od : _} {osl : Array (Option Value)} {name qual : Str} {params : Arguments} {body : List Stmt} {scope : Scope} {dV kV doc pm : Value} {an : Option Addr} {cdv ct : Value} {args : List V} (names : List Str)
    (ho : W.K.lookup f = some ⟨oc, od, .func (fnOf name qual params body scope dV kV doc pm an cdv ct), osl⟩) (hcd : codeIn W.K cdv qual = true)
    (hl : names.length = args.length)
    (hb : ∀ (s : Shared) (vs : List Value), W.K.In s.heap → vs.length = args.length → BindsTo s (fnOf name qual params body scope dV kV doc pm an cdv ct) ⟨vs, []⟩ (names.zip vs))
    (hy : ∀ y ∈ names, scope.names.lookup y = some .local ∨ scope.names.lookup y = some .cell)
    (h : OKsR W n scope body (names.zip args).reverse σ (fun fl _ σ' => KV (flv fl) σ') X)
    (hco : scope.isCoroutine = false := by rfl) (hgen : scope.isGenerator = false := by rfl) (hk : scope.kind = .function := by rfl) : OKdR W (n + 1) (.ref f) args σ KV X := by
  intro A ρ s vs R P r HR H
  refine codeR_call_function (fd := fnOf name qual params body scope dV kV doc pm an cdv ct) (body := body) P.d (P.kin _ _ ho) rfl hco hgen rfl (codeRec_of P.kin hcd) ?_
  refine def_core names hl hb hy hk P r fun env s₁ P₁ N₁ up lv => codeR_func ?_
  refine wpR_mono (h (A.deeper env) env ρ s₁ _ P₁ N₁ ⟨PassesOwn.leaving (Q₁ := fun e s'' => R (.error e) s'') (E₁ := fun e' s'' => R (.error e') s''), fun e σ' ρ' s' hx t I fl => lv e σ' ρ' s' _ _ t I fl fun h' tt IY fY => H e σ' ρ' _ hx tt IY fY⟩)
    (fun fl s' ⟨fl', _, σ', ρ', k, t, I, N, rf⟩ => HR _ _ ⟨flv fl', σ', ρ', k, up _ _ t, I, flv_rp rf⟩) fun _ _ x => x
end
theorem bitsP_at (d : List UInt8) (a : Nat) : bitsP d (8 * a) = bitsO d a 0 0 := by
  have e' : c8 (8 * a) = a := by unfold c8; walk_at "om"
  unfold bitsP bitsQ
  rw [e', Nat.sub_self, Nat.pow_zero, Nat.mod_one]; rfl
theorem Sm.take {σ σ' : St} (h : Sm σ σ' []) : σ'.take σ.length = σ := by
  apply List.ext_getElem?
  intro i
  rw [List.getElem?_take]
  split
  · rename_i hi
    rw [List.getElem?_eq_getElem hi, h i _ (by simp) (List.getElem?_eq_getElem hi)]
  · rw [List.getElem?_eq_none (by walk_at "om")]
section
variable {W : Wd} {n : Nat} {σ : St} {X : St → Prop} {K : V → St → Prop}
theorem DropOk.keep {σ' : St} {w v : V} (hf : Fz σ' σ.length w v) (hs : Sm σ σ' []) (h : K w σ) : DropOk σ K v σ' := by
  refine ⟨w, hf, by rw [hs.take]; exact h, fun i o hi e => .inl ?_⟩
  have := hs i _ (by simp) (List.getElem?_eq_getElem hi)
  rw [e] at this
  rw [List.getElem?_eq_getElem hi, ← this]
/-- what inflate gives -/
noncomputable def infV (first : List Nat) (parts : List Pt) (pE : Nat) : V := match layAll first parts with
  | some o' => .tup [.bytes (bA o'), .int (c8 pE : Nat)]
  | none => .none
theorem f_inflate (hn : 9 ≤ n) {d : List UInt8} {a q pE : Nat} {first : List Nat} {parts : List Pt} (S : Stream d (8 * a) first parts q pE)
    (hX : layAll first parts = none → ∀ σ', Sm σ σ' [] → X σ') (h : layAll first parts ≠ none → ∀ σ', Sm σ σ' [] → K (infV first parts pE) σ') : OKdR W n (.ref 285) [.bytes d.toArray, .int a] σ K X := by
  obtain ⟨n, rfl⟩ := pre hn rfl
  obtain ⟨n, rfl⟩ := pre (dn hn rfl : 8 ≤ n) rfl
  refine r_defD ["data", "at"] rfl rfl rfl ?_ (by decide) ?_
  · exact fun s vs X hv => len2 (P := fun vs => BindsTo s _ ⟨vs, []⟩ (List.zip _ vs)) (fun a b => binds_K X rfl rfl rfl rfl rfl) vs hv
  · refine r_cons (OKx.r ?_)
    repeat walk_at "one"
    refine OKd.call (c_new (fI := 76) rfl rfl rfl (f_bits (dn (dn hn rfl : 8 ≤ n + 1) rfl) (i := σ.length) (by simp) ⟨rfl, ?_⟩))
    rw [set_last, ← bitsP_at]
    refine r_cons (r_set (r_call (.type "bytearray") rfl (a_nil (c_bnew ?_))))
    have hlen : (σ ++ [bitsP d (8 * a)]).length = σ.length + 1 := by simp
    rw [hlen]
    refine r_cons (r_expr (r_call (.ref 277) rfl ?_))
    repeat walk_at "one"
    have sm0 : Sm σ (σ ++ [bitsP d (8 * a)] ++ [.barr #[]]) [] := (Sm.refl σ []).app.app
    have sm1 : ∀ σ', Sm (σ ++ [bitsP d (8 * a)] ++ [.barr #[]]) σ' [σ.length + 1, σ.length] → Sm σ σ' [] := fun σ' sm i o _ e => by
      have hi := (List.getElem?_eq_some_iff.mp e).1
      exact sm i o (by simp; walk_at "om") (sm0 i o (by simp) e)
    refine f_inflinto (dn hn rfl) (by simp) (by simp) (by walk_at "om") S (fun e σ' sm => hX e _ (sm1 _ sm)) fun o' ho σ' sm hio hib hsz => OKs.r ?_
    rw [bitsP_at] at hib
    repeat walk_at "one"
    refine e_tup ?_
    repeat walk_at "one"
    refine c_bytesA hio (by rw [bA_size]; walk_at "om") ?_
    repeat walk_at "one"
    refine ⟨by simp, ?_⟩
    have := h (by rw [ho]; simp) _ (sm1 _ sm)
    unfold infV at this
    rw [ho] at this
    exact this
theorem f_inflated (hn : 10 ≤ n) {d : List UInt8} {a q pE : Nat} {first : List Nat} {parts : List Pt} (S : Stream d (8 * a) first parts q pE)
    (h : K (infV first parts pE) σ) : OKdR W n (.ref 341) [.bytes d.toArray, .int a] σ K X := by
  obtain ⟨n, rfl⟩ := pre hn rfl
  refine OKdR.drop (r_tryDef ["data", "at"] rfl rfl rfl ?_ (by decide) ?_)
  · exact len2 fun a b => rfl
  · refine r_cons (r_ret (r_call (.ref 285) rfl ?_))
    repeat walk_at "one"
    refine f_inflate (dn hn rfl) S (fun e σ' sm => ?_) fun e σ' sm => ⟨_, rfl, ?_⟩
    · refine .keep (w := .none) (by unfold Fz; rfl) sm ?_
      unfold infV at h
      rw [e] at h
      exact h
    · refine .keep ?_ sm h
      unfold infV
      cases layAll first parts with
      | none => unfold Fz; rfl
      | some o' => exact Fz.tup2 (by unfold Fz; rfl) (by unfold Fz; rfl)
end

theorem bL_ints {o : List Nat} (h : ∀ k ∈ o, k < 256) : ((bL o).map fun c => V.int (c.toNat : Int)) = iV o := by
  unfold bL iV iZ
  rw [List.map_map, List.map_map]
  apply List.map_congr_left
  intro k hk
  simp only [Function.comp]
  rw [u8 (h k hk)]
theorem Sm.setN {σ σ' : St} {j : Nat} {o : O} (h : Sm σ σ' []) (hj : σ.length ≤ j) : Sm σ (σ'.set j o) [] := fun i o' hi e => by
  have := (List.getElem?_eq_some_iff.mp e).1
  rw [List.getElem?_set_ne (by walk_at "om")]; exact h i o' hi e
noncomputable def ptsV (ps : List Pt) : List V := ps.map ptV
theorem Fz.pt {σ : St} {m : Nat} (x : Pt) : Fz σ m (ptV x) (ptV x) := by
  cases x with
  | lit k => unfold ptV Fz; rfl
  | mat l d => exact Fz.tup2 (by unfold Fz; rfl) (by unfold Fz; rfl)
theorem Fzs.pts {σ : St} {m : Nat} : ∀ ps : List Pt, Fzs σ m (ptsV ps) (ptsV ps)
  | [] => by unfold ptsV Fzs; rfl
  | x :: r => by
    show Fzs σ m (ptV x :: ptsV r) (ptV x :: ptsV r)
    unfold Fzs
    exact ⟨_, _, rfl, Fz.pt x, Fzs.pts r⟩
/-- what blocks_of tells -/
noncomputable def blkV (first : List Nat) (parts : List Pt) (pE : Nat) : V := .tup [.lst [.tup [.int 0, .lst (iV first)], .tup [.int 1, .lst (ptsV parts)]], .int (c8 pE : Nat)]
section
variable {W : Wd} {n : Nat} {σ : St} {X : St → Prop} {K : V → St → Prop}
theorem f_blocks (hn : 9 ≤ n) {d : List UInt8} {a q pE : Nat} {first : List Nat} {parts : List Pt} (S : Stream d (8 * a) first parts q pE)
    (h : K (blkV first parts pE) σ) : OKd W n (.ref 293) [.bytes d.toArray, .int a] σ K X := by
  obtain ⟨n, rfl⟩ := pre hn rfl
  obtain ⟨n, rfl⟩ := pre (dn hn rfl : 8 ≤ n) rfl
  obtain ⟨sm1, sm2, sm3⟩ := S.small
  have hz : d.length ≤ 1000000 := by walk_at "om"
  have hce := S.chain.gt
  refine OKd.drop (c_defD ["data", "at"] rfl rfl rfl ?_ (by decide) ?_)
  · exact fun s vs X hv => len2 (P := fun vs => BindsTo s _ ⟨vs, []⟩ (List.zip _ vs)) (fun a b => binds_K X rfl rfl rfl rfl rfl) vs hv
  · repeat walk_at "one"
    refine OKd.call (c_new (fI := 76) rfl rfl rfl (f_bits (dn (dn hn rfl : 8 ≤ n + 1) rfl) (i := σ.length) (by simp) ⟨rfl, ?_⟩))
    rw [set_last, ← bitsP_at]
    repeat walk_at "one"
    refine e_tup ?_
    repeat walk_at "one"
    refine OKd.call (f_lenrows (dn hn rfl) ?_)
    repeat walk_at "one"
    refine OKd.call (f_distrows (dn hn rfl) ?_)
    repeat walk_at "one"
    refine ⟨by simp, ?_⟩
    repeat walk_at "one"
    refine e_lstM ?_
    repeat walk_at "one"
    refine ⟨by simp, ?_⟩
    have hlen : (σ ++ [bitsP d (8 * a)]).length = σ.length + 1 := by simp
    rw [hlen]
    have sm0 : Sm σ (σ ++ [bitsP d (8 * a)] ++ [.list []]) [] := (Sm.refl σ []).app.app
    have h0b : (σ ++ [bitsP d (8 * a)] ++ [O.list []])[σ.length]? = some (bitsP d (8 * a)) := by simp
    have h0k : (σ ++ [bitsP d (8 * a)] ++ [O.list []])[σ.length + 1]? = some (.list []) := by simp
    repeat walk_at "one"
    have nb : σ.length ≠ σ.length + 1 := by walk_at "om"
    have lb : σ.length ≤ σ.length := Nat.le_refl _
    have lk : σ.length ≤ σ.length + 1 := by walk_at "om"
    generalize hib0 : σ.length = ib at h0b h0k nb lb lk
    rw [← hib0] at lb lk
    generalize hkb : ib + 1 = kb at h0k nb lk
    generalize σ ++ [bitsP d (8 * a)] ++ [O.list []] = σ0 at sm0 h0b h0k
    refine x_while (fun k l σ' => Sm σ σ' [] ∧ (
      (k = 2 ∧ σ'[kb]? = some (.list []) ∧ σ'[ib]? = some (bitsP d (8 * a)) ∧ Sub [("blocks", .obj kb), ("bits", .obj ib), ("rows", rowsV), ("is_last", .bool false)] l) ∨
      (k = 1 ∧ σ'[kb]? = some (.list [.tup [.int 0, .lst (iV first)]]) ∧ σ'[ib]? = some (bitsP d (8 * (q + 4 + first.length))) ∧ Sub [("blocks", .obj kb), ("bits", .obj ib), ("rows", rowsV), ("is_last", .bool false)] l) ∨
      (k = 0 ∧ ∃ kp, σ.length ≤ kp ∧ kp ≠ ib ∧ σ'[kb]? = some (.list [.tup [.int 0, .lst (iV first)], .tup [.int 1, .obj kp]]) ∧ σ'[kp]? = some (.list (ptsV parts)) ∧ σ'[ib]? = some (bitsP d pE) ∧ Sub [("blocks", .obj kb), ("bits", .obj ib), ("is_last", .bool true)] l))) 2 ⟨sm0, .inl ⟨rfl, h0k, h0b, ?_⟩⟩ ?_
    · subst hib0; subst hkb
      exact ⟨rfl, rfl, rfl, rfl, trivial⟩
    rintro J hJ k l σ' ⟨sm, ⟨rfl, hik, hib, hl⟩ | ⟨rfl, hik, hib, hl⟩ | ⟨rfl, kp, lp, np, hik, hip, hib, hl⟩⟩
    · refine OKb.sub (loc' := [("is_last", .bool false)]) ?_ (Sub.look ⟨hl.2.2.2.1, trivial⟩)
      walk_at "one"
      refine b_boolV ?_
      repeat walk_at "one"
      refine ⟨_, rfl, fun _ => ?_, fun g => by cases g⟩
      refine OKs.sub (loc' := [("blocks", .obj kb), ("bits", .obj ib), ("rows", rowsV)]) ?_ (Sub.look ⟨hl.1, hl.2.1, hl.2.2.1, trivial⟩)
      repeat walk_at "one"
      refine ⟨.ref 97, m_inst hib rfl rfl rfl rfl, rfl, ?_⟩
      repeat walk_at "one"
      have b1 := S.firstLe
      have b2 := S.q_is
      have f3 : 8 * a + 3 ≤ 8 * d.length := by unfold c8 at b2; omega
      refine OKd.call (f_take (k := 1) (dn hn rfl) hib hz (Nat.le_trans (Nat.add_le_add_left (by decide) (8 * a)) f3) (by walk_at "om") ?_)
      rw [S.last0]
      have s1 := set_at (o' := bitsP d (8 * a + 1)) hib
      repeat walk_at "one"
      refine ⟨.ref 97, m_inst s1 rfl rfl rfl rfl, rfl, ?_⟩
      repeat walk_at "one"
      refine OKd.call (f_take (k := 2) (dn hn rfl) s1 hz f3 (by walk_at "om") ?_)
      rw [S.way0, List.set_set]
      have s2 := set_at (o' := bitsP d (8 * a + 1 + 2)) hib
      repeat walk_at "one"
      refine ⟨_, rfl, fun _ => ?_, fun g => by simp at g⟩
      have e3 : c8 (8 * a + 1 + 2) = q := S.q_is
      have t1 := set_other (o' := bitsP d (8 * a + 1 + 2)) hik nb
      repeat walk_at "one"
      refine ⟨_, m_list t1 F.slot_list_append (by rfl), rfl, ?_⟩
      repeat walk_at "one"
      refine e_tup ?_
      repeat walk_at "one"
      refine OKd.call (f_stored (k := first.length) (dn hn rfl) s2 hz (by rw [e3]; exact S.len0) (by rw [e3]; exact S.len1) (by walk_at "om") (by rw [e3]; walk_at "om") ?_)
      rw [e3, S.firstIs, List.set_set]
      repeat walk_at "one"
      refine c_listB (by simp [bL]; walk_at "om") ?_
      rw [bL_ints S.firstLt]
      repeat walk_at "one"
      refine ⟨by simp, ?_⟩
      repeat walk_at "one"
      have t2 := set_other (o' := bitsP d (8 * (q + 4 + first.length))) hik nb
      have s3 := set_at (o' := bitsP d (8 * (q + 4 + first.length))) hib
      refine c_append t2 (by simp) ?_
      refine s_cons (x_cont ?_)
      exact hJ _ _ _ _ ⟨1, by walk_at "om", (sm.setN (by walk_at "om")).setN (by walk_at "om"), .inr (.inl ⟨rfl, set_at t2, set_other s3 (Ne.symm nb), rfl, rfl, rfl, rfl, trivial⟩)⟩
    · refine OKb.sub (loc' := [("is_last", .bool false)]) ?_ (Sub.look ⟨hl.2.2.2.1, trivial⟩)
      walk_at "one"
      refine b_boolV ?_
      repeat walk_at "one"
      refine ⟨_, rfl, fun _ => ?_, fun g => by cases g⟩
      refine OKs.sub (loc' := [("blocks", .obj kb), ("bits", .obj ib), ("rows", rowsV)]) ?_ (Sub.look ⟨hl.1, hl.2.1, hl.2.2.1, trivial⟩)
      have b1 := S.endLe
      generalize hp2 : 8 * (q + 4 + first.length) = p2 at hib hce
      have f3 : p2 + 3 ≤ 8 * d.length := Nat.le_trans (Nat.le_of_lt hce) b1
      repeat walk_at "one"
      refine ⟨.ref 97, m_inst hib rfl rfl rfl rfl, rfl, ?_⟩
      repeat walk_at "one"
      refine OKd.call (f_take (k := 1) (dn hn rfl) hib hz (Nat.le_trans (Nat.add_le_add_left (by decide) p2) f3) (by walk_at "om") ?_)
      rw [← hp2, S.last1, hp2]
      have s1 := set_at (o' := bitsP d (p2 + 1)) hib
      repeat walk_at "one"
      refine ⟨.ref 97, m_inst s1 rfl rfl rfl rfl, rfl, ?_⟩
      repeat walk_at "one"
      refine OKd.call (f_take (k := 2) (dn hn rfl) s1 hz f3 (by walk_at "om") ?_)
      rw [← hp2, S.way1, hp2, List.set_set]
      have s2 := set_at (o' := bitsP d (p2 + 1 + 2)) hib
      have t1 := set_other (o' := bitsP d (p2 + 1 + 2)) hik nb
      have sm2' : Sm σ (σ'.set ib (bitsP d (p2 + 1 + 2))) [] := sm.setN (by walk_at "om")
      generalize hs2 : σ'.set ib (bitsP d (p2 + 1 + 2)) = σ2 at s2 t1 sm2'
      repeat walk_at "one"
      refine ⟨_, rfl, fun g => by simp at g, fun _ => ?_⟩
      repeat walk_at "one"
      refine x_unp (names := [("literals", _), ("distances", _)]) rfl ?_ (by decide)
      repeat walk_at "one"
      refine OKd.call (f_blockdec (dn hn rfl) ?_)
      refine ⟨_, rfl, rfl, ?_⟩
      repeat walk_at "one"
      refine e_lstM ?_
      repeat walk_at "one"
      refine ⟨by simp, ?_⟩
      have hlb := (List.getElem?_eq_some_iff.mp s2).1
      have hlo := (List.getElem?_eq_some_iff.mp t1).1
      have j1 : (σ2 ++ [decO fixT fixS, decO fixDT fixDS] ++ [O.list []])[σ2.length]? = some (decO fixT fixS) := by simp
      have j2 : (σ2 ++ [decO fixT fixS, decO fixDT fixDS] ++ [O.list []])[σ2.length + 1]? = some (decO fixDT fixDS) := by simp
      have j3 : (σ2 ++ [decO fixT fixS, decO fixDT fixDS] ++ [O.list []])[σ2.length + 2]? = some (.list []) := by simp
      rw [show (σ2 ++ [decO fixT fixS, decO fixDT fixDS]).length = σ2.length + 2 from by simp]
      have s3 := app_at (τ := [O.list []]) (app_at (τ := [decO fixT fixS, decO fixDT fixDS]) s2)
      have t2 := app_at (τ := [O.list []]) (app_at (τ := [decO fixT fixS, decO fixDT fixDS]) t1)
      have ne1 : ib ≠ σ2.length := by walk_at "om"
      have ne2 : ib ≠ σ2.length + 1 := by walk_at "om"
      have ne3 : kb ≠ σ2.length := by walk_at "om"
      have ne4 : kb ≠ σ2.length + 1 := by walk_at "om"
      have ne5 : ib ≠ σ2.length + 2 := by walk_at "om"
      have ne6 : kb ≠ σ2.length + 2 := by walk_at "om"
      have lj : σ.length ≤ σ2.length := by walk_at "om"
      generalize σ2.length = j at j1 j2 j3 ne1 ne2 ne3 ne4 ne5 ne6 lj
      have sm3' : Sm σ (σ2 ++ [decO fixT fixS, decO fixDT fixDS] ++ [O.list []]) [] := sm2'.app.app
      generalize σ2 ++ [decO fixT fixS, decO fixDT fixDS] ++ [O.list []] = σ3 at j1 j2 j3 s3 t2 sm3'
      have hch : Chain (num d) (p2 + 1 + 2) parts pE := by have := S.chain; rw [hp2] at this; exact this
      repeat walk_at "one"
      refine OKd.call (f_next (dn hn rfl) s3 j1 j2 ne1 ne2 hz hch S.endLe fun p1 hp1 => ?_)
      walk_at "one"
      refine x_while (fun m l σ' => ∃ ps xs pc, m = xs.length ∧ Sm σ σ' [] ∧ parts = ps ++ xs ∧
        σ'[kb]? = some (.list [.tup [.int 0, .lst (iV first)]]) ∧ σ'[ib]? = some (bitsP d pc) ∧ σ'[j]? = some (decO fixT fixS) ∧ σ'[j + 1]? = some (decO fixDT fixDS) ∧ σ'[j + 2]? = some (.list (ptsV ps)) ∧ (match xs with | [] => pc = pE | _ :: r => Chain (num d) pc r pE) ∧
        Sub [("blocks", .obj kb), ("bits", .obj ib), ("rows", rowsV), ("is_last", .bool true), ("literals", .obj j), ("distances", .obj (j + 1)), ("parts", .obj (j + 2)), ("way", .int 1), ("part", nextV xs)] l) parts.length
        ⟨[], parts, p1, rfl, sm3'.setN (by walk_at "om"), rfl, set_other t2 nb, set_at s3, set_other j1 ne1, set_other j2 ne2, set_other j3 ne5, hp1, rfl, rfl, rfl, rfl, rfl, rfl, rfl, rfl, rfl, trivial⟩ ?_
      rintro J₂ hJ₂ m l σ' ⟨ps, xs, pc, rfl, sm4, hpp, hik, hib, hj1, hj2, hj3, hch, hl⟩
      cases xs with
      | nil =>
        refine OKb.sub (loc' := [("part", .none)]) ?_ (Sub.look ⟨hl.2.2.2.2.2.2.2.2.1, trivial⟩)
        repeat walk_at "one"
        refine t_isnotN ⟨_, rfl, (fun g => by cases g), fun _ => ?_⟩
        refine OKs.sub (loc' := [("blocks", .obj kb), ("bits", .obj ib), ("is_last", .bool true), ("parts", .obj (j + 2)), ("way", .int 1)]) ?_ (Sub.look ⟨hl.1, hl.2.1, hl.2.2.2.1, hl.2.2.2.2.2.2.1, hl.2.2.2.2.2.2.2.1, trivial⟩)
        subst hch
        repeat walk_at "one"
        refine ⟨_, m_list hik F.slot_list_append (by rfl), rfl, ?_⟩
        repeat walk_at "one"
        refine e_tup ?_
        repeat walk_at "one"
        refine ⟨by simp, ?_⟩
        repeat walk_at "one"
        refine c_append hik (by simp) ?_
        repeat walk_at "one"
        rw [List.append_nil] at hpp
        subst hpp
        exact hJ _ _ _ _ ⟨0, by walk_at "om", sm4.setN (by walk_at "om"), .inr (.inr ⟨rfl, j + 2, by walk_at "om", Ne.symm ne5, set_at hik, set_other hj3 ne6, set_other hib (Ne.symm nb), rfl, rfl, rfl, trivial⟩)⟩
      | cons x r =>
        refine OKb.sub (loc' := [("part", ptV x)]) ?_ (Sub.look ⟨hl.2.2.2.2.2.2.2.2.1, trivial⟩)
        repeat walk_at "one"
        refine t_isnot (notNone_pt x) ⟨_, rfl, fun _ => ?_, fun g => by cases g⟩
        refine OKs.sub (loc' := [("blocks", .obj kb), ("bits", .obj ib), ("rows", rowsV), ("is_last", .bool true), ("literals", .obj j), ("distances", .obj (j + 1)), ("parts", .obj (j + 2)), ("way", .int 1), ("part", ptV x)]) ?_ hl.look
        have hps : (ptsV ps).length ≤ 1000000 := by
          have := congrArg List.length hpp
          simp [ptsV] at this ⊢; walk_at "om"
        repeat walk_at "one"
        refine ⟨_, m_list hj3 F.slot_list_append (by rfl), rfl, ?_⟩
        repeat walk_at "one"
        refine c_append hj3 hps ?_
        have hst : ptsV ps ++ [ptV x] = ptsV (ps ++ [x]) := by simp [ptsV]
        rw [hst]
        repeat walk_at "one"
        refine OKd.call (f_next (dn hn rfl) (set_other hib (Ne.symm ne5)) (set_other hj1 (by walk_at "om")) (set_other hj2 (by walk_at "om")) ne1 ne2 hz hch S.endLe fun p1 hp1 => ?_)
        repeat walk_at "one"
        exact hJ₂ _ _ _ _ ⟨r.length, by simp, ps ++ [x], r, p1, rfl, (sm4.setN (by walk_at "om")).setN (by walk_at "om"), by simp [hpp], set_other (set_other hik (Ne.symm ne6)) nb, set_at (set_other hib (Ne.symm ne5)), set_other (set_other hj1 (by walk_at "om")) ne1, set_other (set_other hj2 (by walk_at "om")) ne2,
          set_other (set_at hj3) ne5, hp1, rfl, rfl, rfl, rfl, rfl, rfl, rfl, rfl, rfl, trivial⟩
    · refine OKb.sub (loc' := [("is_last", .bool true)]) ?_ (Sub.look ⟨hl.2.2.1, trivial⟩)
      walk_at "one"
      refine b_boolV ?_
      repeat walk_at "one"
      refine ⟨_, rfl, (fun g => by cases g), fun _ => ?_⟩
      refine OKs.sub (loc' := [("blocks", .obj kb), ("bits", .obj ib)]) ?_ (Sub.look ⟨hl.1, hl.2.1, trivial⟩)
      repeat walk_at "one"
      refine ⟨.ref 104, m_inst hib rfl rfl rfl rfl, rfl, ?_⟩
      repeat walk_at "one"
      refine OKd.call (f_align (dn hn rfl) hib ?_)
      have t1 := set_other (o' := bitsP d (8 * c8 pE)) hik nb
      have t2 := set_other (o' := bitsP d (8 * c8 pE)) hip (Ne.symm np)
      have s1 := set_at (o' := bitsP d (8 * c8 pE)) hib
      have s1' := s1
      rw [bitsP_at] at s1'
      have sm5 : Sm σ (σ'.set ib (bitsP d (8 * c8 pE))) [] := sm.setN (by walk_at "om")
      rw [bitsP_at] at t1 t2 sm5
      rw [bitsP_at]
      rw [bitsP_at] at s1
      repeat walk_at "one"
      refine e_tup ?_
      repeat walk_at "one"
      refine ⟨by simp, ?_⟩
      repeat walk_at "one"
      refine DropOk.keep (w := blkV first parts pE) ?_ sm5 h
      refine Fz.tup2 ?_ (by unfold Fz; rfl)
      unfold Fz
      refine .inr ⟨kb, _, rfl, by walk_at "om", t1, ?_⟩
      unfold Fzs
      refine ⟨_, _, rfl, Fz.tup2 (by unfold Fz; rfl) (Fz.lst first), ?_⟩
      unfold Fzs
      refine ⟨_, _, rfl, Fz.tup2 (by unfold Fz; rfl) ?_, by unfold Fzs; rfl⟩
      unfold Fz
      exact .inr ⟨kp, _, rfl, lp, t2, Fzs.pts parts⟩
end

theorem tn_sub {a b : Nat} (h : a ≤ b) : (-(a : Int) + (b : Nat)).toNat = b - a := by omega
theorem neg_le {a b : Nat} (h : a ≤ b) : -((b : Nat) : Int) ≤ -(a : Int) := by omega
/-! what the law draws and writes -/
noncomputable def ptAt (c : List Int) (k : Nat) : Pt :=
  if draw c k 5 < 3 then .lit (draw c (k + 1) 256)
  else .mat (3 + (if draw c k 5 = 3 then draw c (k + 1) 9 else draw c (k + 1) 256)) (1 + (if draw c k 5 = 3 then draw c (k + 2) 3 else draw c (k + 2) 32768))
noncomputable def ctAt (c : List Int) (k : Nat) : Nat := if draw c k 5 < 3 then k + 2 else k + 3
noncomputable def stN (c : List Int) (k0 : Nat) : Nat → Nat × List Pt
  | 0 => (k0, [])
  | t + 1 => (ctAt c (stN c k0 t).1, (stN c k0 t).2 ++ [ptAt c (stN c k0 t).1])
noncomputable def lrow (l : Nat) : Nat := (upto LBl l).length - 1
noncomputable def drow (d : Nat) : Nat := (upto DBl d).length - 1
noncomputable def encB : Pt → List Bool
  | .lit k => litB k
  | .mat l d => litB (257 + lrow l) ++ lowB (l - LBl.getD (lrow l) 0) (LEl.getD (lrow l) 0) ++ highB (drow d) 5 5 ++ lowB (d - DBl.getD (drow d) 0) (DEl.getD (drow d) 0)
noncomputable def encs (ps : List Pt) : List Bool := (ps.map encB).flatten
noncomputable def txt0 (first : List Nat) : List Bool := List.replicate 8 false ++ lowB first.length 16 ++ lowB (65535 - first.length) 16 ++ (first.map fun o => lowB o 8).flatten ++ [true, true, false]
noncomputable def txtP (first : List Nat) (ps : List Pt) : List Bool := txt0 first ++ encs ps
noncomputable def pad (n : Nat) : Nat := (8 - n % 8) % 8
noncomputable def txtZ (first : List Nat) (ps : List Pt) : List Bool := txtP first ps ++ List.replicate 7 false
noncomputable def txtE (first : List Nat) (ps : List Pt) : List Bool := txtZ first ps ++ List.replicate (pad (txtZ first ps).length) false
noncomputable def octN (t : List Bool) (j : Nat) : Nat := (((List.range 8).filter fun p => t.getD (8 * j + p) false).map fun p => 2 ^ p).sum
noncomputable def octs (t : List Bool) : List Nat := (List.range (t.length / 8)).map (octN t)
noncomputable def dataL (ahead : Nat) (t : List Bool) (k : Nat) : List Nat := List.replicate ahead 3 ++ octs t ++ List.replicate k 9

/-- lengths and distances that a row has -/
noncomputable def ptIn : Pt → Prop
  | .lit k => k < 256
  | .mat l d => 3 ≤ l ∧ l ≤ 258 ∧ 1 ≤ d ∧ d ≤ 32768
theorem ptIn.ok {x : Pt} (h : ptIn x) : ptOk x := by
  cases x with
  | lit k => exact h
  | mat l d => exact ⟨h.2.2.1, by have := h.2.1; omega, by have := h.2.2.2; omega⟩
theorem ptAt_in (c : List Int) (k : Nat) : ptIn (ptAt c k) := by
  unfold ptAt
  split
  · exact draw_lt c _ (by decide)
  · have h1 := draw_lt c (k + 1) (m := 9) (by decide)
    have h2 := draw_lt c (k + 1) (m := 256) (by decide)
    have h3 := draw_lt c (k + 2) (m := 3) (by decide)
    have h4 := draw_lt c (k + 2) (m := 32768) (by decide)
    refine ⟨by omega, ?_, by omega, ?_⟩ <;> split <;> omega
theorem stN_in (c : List Int) (k0 : Nat) : ∀ t, ∀ x ∈ (stN c k0 t).2, ptIn x
  | 0, x, h => by simp [stN] at h
  | t + 1, x, h => by
    simp only [stN, List.mem_append, List.mem_singleton] at h
    rcases h with q | q
    · exact stN_in c k0 t x q
    · subst q; exact ptAt_in c _
theorem stN_len (c : List Int) (k0 : Nat) : ∀ t, (stN c k0 t).2.length = t
  | 0 => rfl
  | t + 1 => by simp [stN, stN_len c k0 t]
theorem stN_ct (c : List Int) (k0 : Nat) : ∀ t, (stN c k0 t).1 ≤ k0 + 3 * t
  | 0 => by simp [stN]
  | t + 1 => by
    have := stN_ct c k0 t
    simp only [stN, ctAt]
    split <;> omega
theorem lowB_len (v k : Nat) : (lowB v k).length = k := by simp [lowB]
theorem highB_len (v k j : Nat) : (highB v k j).length = j := by simp [highB]
theorem litB_len (s : Nat) : (litB s).length ≤ 9 := by unfold litB; split; (· rw [highB_len]; omega); split; (· rw [highB_len]; omega); split; (· rw [highB_len]; omega); rw [highB_len]; omega
theorem getD_le {L : List Nat} {b : Nat} (h : ∀ e ∈ L, e ≤ b) (k : Nat) : L.getD k 0 ≤ b := by
  rw [List.getD_eq_getElem?_getD]
  cases e : L[k]? with
  | none => exact Nat.zero_le _
  | some y => exact h y (List.mem_of_getElem? e)
theorem encB_len (x : Pt) : (encB x).length ≤ 60 := by
  cases x with
  | lit k => have := litB_len k; show (litB k).length ≤ 60; omega
  | mat l d =>
    have h1 := litB_len (257 + lrow l)
    have h2 := getD_le LEl_le (lrow l)
    have h3 := getD_le DEl_le (drow d)
    show (litB (257 + lrow l) ++ lowB (l - LBl.getD (lrow l) 0) (LEl.getD (lrow l) 0) ++ highB (drow d) 5 5 ++ lowB (d - DBl.getD (drow d) 0) (DEl.getD (drow d) 0)).length ≤ 60
    rw [List.length_append, List.length_append, List.length_append, lowB_len, highB_len, lowB_len]; omega
theorem encs_len : ∀ ps : List Pt, (encs ps).length ≤ 60 * ps.length
  | [] => Nat.zero_le _
  | x :: r => by
    have := encB_len x
    have := encs_len r
    show ((encB x) ++ encs r).length ≤ _
    rw [List.length_append, List.length_cons]; omega
theorem flat8 : ∀ first : List Nat, ((first.map fun o => lowB o 8).flatten).length = 8 * first.length
  | [] => rfl
  | a :: r => by rw [List.map_cons, List.flatten_cons, List.length_append, lowB_len, flat8 r, List.length_cons]; omega
theorem txt0_len (first : List Nat) : (txt0 first).length = 43 + 8 * first.length := by
  unfold txt0
  simp only [List.length_append, List.length_replicate, lowB_len, flat8, List.length_cons, List.length_nil]
  omega

/-! the rows -/
theorem upto_spec : ∀ (L : List Nat) (m : Nat), L.Pairwise (· < ·) → (∀ i, i < (upto L m).length → L.getD i 0 ≤ m) ∧ (∀ i, (upto L m).length ≤ i → i < L.length → m < L.getD i 0) ∧ (upto L m).length ≤ L.length
  | [], m, _ => by simp [upto]
  | a :: r, m, h => by
    obtain ⟨h1, h2⟩ := List.pairwise_cons.mp h
    obtain ⟨i1, i2, i3⟩ := upto_spec r m h2
    by_cases ha : a ≤ m
    · have e : upto (a :: r) m = a :: upto r m := by simp [upto, ha]
      rw [e]
      refine ⟨fun i hi => ?_, fun i hi hl => ?_, by simp; exact i3⟩
      · cases i with
        | zero => simpa using ha
        | succ i => simpa using i1 i (by simpa using hi)
      · cases i with
        | zero => simp at hi
        | succ i => simpa using i2 i (by simpa using hi) (by simpa using hl)
    · have e : upto (a :: r) m = [] := by
        unfold upto
        rw [List.filter_eq_nil_iff]
        intro b hb
        rcases List.mem_cons.mp hb with q | q
        · subst q; simpa using ha
        · have := h1 b q; simp; omega
      rw [e]
      refine ⟨fun i hi => by simp at hi, fun i _ hl => ?_, by simp⟩
      cases i with
      | zero => simp; omega
      | succ i =>
        have hl' : i < r.length := by simpa using hl
        have := h1 r[i] (List.getElem_mem hl')
        rw [List.getD_eq_getElem?_getD, List.getElem?_cons_succ, List.getElem?_eq_getElem hl']
        simp; omega
theorem row_ok {L E : List Nat} {c b last : Nat} (hs : L.Pairwise (· < ·)) (hL : L.length = c) (hc : 0 < c) (h0 : L.getD 0 0 = b) (hst : ∀ k, k + 1 < c → L.getD (k + 1) 0 ≤ L.getD k 0 + 2 ^ E.getD k 0) (hl : L.getD (c - 1) 0 + 2 ^ E.getD (c - 1) 0 = last + 1)
    {m : Nat} (h1 : b ≤ m) (h2 : m ≤ last) : ∃ pl, (upto L m).length = pl + 1 ∧ pl < c ∧ L.getD pl 0 ≤ m ∧ m < L.getD pl 0 + 2 ^ E.getD pl 0 := by
  obtain ⟨i1, i2, i3⟩ := upto_spec L m hs
  have hne : (upto L m).length ≠ 0 := fun q => by
    have := i2 0 (by omega) (by omega)
    omega
  obtain ⟨pl, hpl⟩ : ∃ pl, (upto L m).length = pl + 1 := ⟨(upto L m).length - 1, by omega⟩
  refine ⟨pl, hpl, by omega, i1 pl (by omega), ?_⟩
  by_cases hq : pl + 1 < c
  · have := i2 (pl + 1) (by omega) (by omega)
    have := hst pl hq
    omega
  · have : c - 1 = pl := by omega
    rw [this] at hl
    omega
theorem LB_sorted : LBl.Pairwise (· < ·) := by decide +kernel
theorem DB_sorted : DBl.Pairwise (· < ·) := by decide +kernel
theorem LB_step : ∀ k < 28, LBl.getD k 0 + 2 ^ LEl.getD k 0 = LBl.getD (k + 1) 0 + (if LBl.getD (k + 1) 0 = 258 then 1 else 0) := by decide +kernel
theorem DB_step : ∀ k < 29, DBl.getD k 0 + 2 ^ DEl.getD k 0 = DBl.getD (k + 1) 0 + (if DBl.getD (k + 1) 0 = 258 then 1 else 0) := by decide +kernel
theorem LB_len : LBl.length = 29 := by decide
theorem DB_len : DBl.length = 30 := by decide
theorem LE_len : LEl.length = 29 := by decide
theorem DE_len : DEl.length = 30 := by decide
theorem LB_last : LBl.getD 28 0 + 2 ^ LEl.getD 28 0 = 258 + 1 := by decide +kernel
theorem DB_last : DBl.getD 29 0 + 2 ^ DEl.getD 29 0 = 32768 + 1 := by decide +kernel
theorem lrow_ok {l : Nat} (h1 : 3 ≤ l) (h2 : l ≤ 258) : (upto LBl l).length = lrow l + 1 ∧ lrow l < 29 ∧ LBl.getD (lrow l) 0 ≤ l ∧ l < LBl.getD (lrow l) 0 + 2 ^ LEl.getD (lrow l) 0 := by
  obtain ⟨pl, a, b, c, d⟩ := row_ok (E := LEl) LB_sorted LB_len (by decide) (b := 3) (last := 258) (by decide +kernel) (fun k hk => by have := LB_step k (by omega); omega) LB_last h1 h2
  have : lrow l = pl := by unfold lrow; omega
  rw [this]; exact ⟨a, b, c, d⟩
theorem drow_ok {l : Nat} (h1 : 1 ≤ l) (h2 : l ≤ 32768) : (upto DBl l).length = drow l + 1 ∧ drow l < 30 ∧ DBl.getD (drow l) 0 ≤ l ∧ l < DBl.getD (drow l) 0 + 2 ^ DEl.getD (drow l) 0 := by
  obtain ⟨pl, a, b, c, d⟩ := row_ok (E := DEl) DB_sorted DB_len (by decide) (b := 1) (last := 32768) (by decide +kernel) (fun k hk => by have := DB_step k (by omega); omega) DB_last h1 h2
  have : drow l = pl := by unfold drow; omega
  rw [this]; exact ⟨a, b, c, d⟩
/-! the law's own octets -/
noncomputable def lawStep (s : List Nat × Bool) : Pt → List Nat × Bool
  | .lit k => (s.1 ++ [k], s.2)
  | .mat l d => if s.1.length < d then (s.1, true) else if s.2 then (s.1, s.2) else (copyF s.1 d l, s.2)
noncomputable def lawRun (first : List Nat) (ps : List Pt) : List Nat × Bool := ps.foldl lawStep (first, false)
theorem lawFar : ∀ (ps : List Pt) (o : List Nat), (ps.foldl lawStep (o, true)).2 = true
  | [], _ => rfl
  | x :: r, o => by
    rw [List.foldl_cons]
    cases x with
    | lit k => exact lawFar r _
    | mat l d =>
      show (List.foldl lawStep (if o.length < d then (o, true) else if true then (o, true) else (copyF o d l, true)) r).2 = true
      split
      · exact lawFar r _
      · exact lawFar r _
theorem lawRun_lay : ∀ (ps : List Pt) (o : List Nat), (match layAll o ps with | some o' => ps.foldl lawStep (o, false) = (o', false) | none => (ps.foldl lawStep (o, false)).2 = true)
  | [], o => rfl
  | x :: r, o => by
    have e : layAll o (x :: r) = (match layF o x with | some o' => layAll o' r | none => none) := rfl
    rw [e, List.foldl_cons]
    cases x with
    | lit k => exact lawRun_lay r _
    | mat l d =>
      by_cases q : o.length < d
      · rw [show layF o (.mat l d) = none from if_pos q, show lawStep (o, false) (.mat l d) = (o, true) from if_pos q]
        exact lawFar r o
      · rw [show layF o (.mat l d) = some (copyF o d l) from if_neg q, show lawStep (o, false) (.mat l d) = (copyF o d l, false) from by simp [lawStep, q]]
        exact lawRun_lay r _
theorem pad_spec (n : Nat) : (n + pad n) % 8 = 0 ∧ pad n < 8 := by unfold pad; omega
theorem pad_int (n : Nat) : Int.fmod (-(n : Int)) 8 = (pad n : Nat) := by
  rw [Int.fmod_eq_emod_of_nonneg _ (by decide)]
  unfold pad; omega
theorem txtE_len (first : List Nat) (ps : List Pt) : (txtE first ps).length % 8 = 0 := by
  unfold txtE
  rw [List.length_append, List.length_replicate]
  exact (pad_spec _).1
theorem rng8_el {σ : St} {q : Nat} (hq : q ≤ 10000) : Elems σ (.rng 0 ((8 * q : Nat) : Int) 8) ((List.range q).map fun t => .int ((8 * t : Nat) : Int)) := by
  refine ⟨by decide, by decide, by decide, by omega, ?_⟩
  have e : (rsz 0 ((8 * q : Nat) : Int) 8).toNat = q := by
    unfold rsz Builtin.Range.rangeSize
    rw [if_pos (by decide)]
    split
    · have : (((8 * q : Nat) : Int) - 0 - 1) / 8 = (q : Int) - 1 := by omega
      rw [this]; omega
    · omega
  unfold rngL
  rw [e]
  apply List.map_congr_left
  intro k _
  simp
theorem sum_cast (l : List Nat) : (iZ l).sum = ((l.sum : Nat) : Int) := by
  induction l with
  | nil => rfl
  | cons a r ih =>
    show (a : Int) + (iZ r).sum = _
    rw [ih, List.sum_cons]; simp
theorem byteArr_iZ (l : List Nat) : byteArr (iZ l) = (bL l).toArray := by
  unfold byteArr iZ bL
  rw [List.map_map]
  congr 1
theorem filter_sum (f : Nat → Bool) (g : Nat → Nat) : ∀ l : List Nat, ((l.filter f).map g).sum ≤ (l.map g).sum
  | [] => Nat.le_refl _
  | a :: r => by
    have := filter_sum f g r
    rw [List.filter_cons]
    split
    · rw [List.map_cons, List.sum_cons, List.map_cons, List.sum_cons]; omega
    · rw [List.map_cons, List.sum_cons]; omega
theorem octN_lt (t : List Bool) (j : Nat) : octN t j < 256 := by
  have := filter_sum (fun p => t.getD (8 * j + p) false) (fun p => 2 ^ p) (List.range 8)
  have e : ((List.range 8).map fun p => 2 ^ p).sum = 255 := by decide
  unfold octN
  omega
theorem dataL_lt (ahead : Nat) (t : List Bool) (k : Nat) : ∀ o ∈ dataL ahead t k, o < 256 := by
  intro o ho
  unfold dataL at ho
  rcases List.mem_append.mp ho with q | q
  · rcases List.mem_append.mp q with q | q
    · have := (List.mem_replicate.mp q).2; omega
    · obtain ⟨z, _, rfl⟩ := List.mem_map.mp q
      exact octN_lt t z
  · have := (List.mem_replicate.mp q).2; omega
theorem okVs_iV : ∀ l : List Nat, okVs (iV l) = true
  | [] => by simp [iV, iZ, okVs]
  | a :: r => by
    show okVs (V.int (a : Nat) :: iV r) = true
    unfold okVs
    rw [okVs_iV r]; simp [okV]
theorem dVs_iV : ∀ l : List Nat, dVs (iV l) = 0
  | [] => by simp [iV, iZ, dVs]
  | a :: r => by
    show dVs (V.int (a : Nat) :: iV r) = 0
    unfold dVs
    rw [dVs_iV r]; simp [dV]
theorem okVs_pts : ∀ l : List Pt, okVs (ptsV l) = true
  | [] => by simp [ptsV, okVs]
  | a :: r => by
    show okVs (ptV a :: ptsV r) = true
    unfold okVs
    rw [okVs_pts r]
    cases a <;> simp [ptV, okV, okVs]
theorem dVs_pts : ∀ l : List Pt, dVs (ptsV l) ≤ 1
  | [] => by simp [ptsV, dVs]
  | a :: r => by
    show dVs (ptV a :: ptsV r) ≤ 1
    unfold dVs
    have := dVs_pts r
    cases a <;> simp [ptV, dV, dVs] <;> omega
theorem blkV_ok (first : List Nat) (ps : List Pt) (pE : Nat) : okV (blkV first ps pE) = true := by
  simp [blkV, okV, okVs, okVs_iV, okVs_pts]
theorem blkV_d (first : List Nat) (ps : List Pt) (pE : Nat) : dV (blkV first ps pE) ≤ 50 := by
  have := dVs_pts ps
  simp [blkV, dV, dVs, dVs_iV]; omega
theorem layF_lt {o o' : List Nat} {x : Pt} (ho : ∀ k ∈ o, k < 256) (hx : ptIn x) (h : layF o x = some o') : ∀ k ∈ o', k < 256 := by
  cases x with
  | lit v =>
    cases h
    intro z hz
    rcases List.mem_append.mp hz with q | q
    · exact ho z q
    · rw [List.mem_singleton] at q; subst q; exact hx
  | mat l d =>
    have h : (if o.length < d then none else some (copyF o d l)) = some o' := h
    split at h
    · cases h
    · cases h
      exact copyF_lt ho l
theorem layAll_lt : ∀ (o : List Nat) (ps : List Pt), (∀ k ∈ o, k < 256) → (∀ x ∈ ps, ptIn x) → ∀ {o' : List Nat}, layAll o ps = some o' → ∀ k ∈ o', k < 256
  | o, [], ho, _, o', h => by cases h; exact ho
  | o, x :: r, ho, hp, o', h => by
    have h : (match layF o x with | some o' => layAll o' r | none => none) = some o' := h
    cases e : layF o x with
    | none => rw [e] at h; cases h
    | some o1 =>
      rw [e] at h
      exact layAll_lt o1 r (layF_lt ho (hp x List.mem_cons_self) e) (fun y hy => hp y (List.mem_cons_of_mem _ hy)) h

/-- the source of draws in the ledger -/
structure Src (σ : St) (i j : Nat) (c : List Int) (k : Nat) : Prop where
  at_ : σ[i]? = some (.list [.obj j, .int (k : Nat)])
  cells : σ[j]? = some (.list (c.map .int))
  ne : i ≠ j
theorem Src.sm {σ σ' : St} {i j k : Nat} {c : List Int} {l : List Nat} (S : Src σ i j c k) (sm : Sm σ σ' l) (hi : i ∉ l) (hj : j ∉ l) : Src σ' i j c k := ⟨sm i _ hi S.at_, sm j _ hj S.cells, S.ne⟩
theorem Sm.symm_app {σ τ : St} : Sm σ (σ ++ τ) [] := (Sm.refl σ []).app
theorem Src.app {σ τ : St} {i j k : Nat} {c : List Int} (S : Src σ i j c k) : Src (σ ++ τ) i j c k := S.sm Sm.symm_app (by simp) (by simp)
theorem Src.lt {σ : St} {i j k : Nat} {c : List Int} (S : Src σ i j c k) : i < σ.length ∧ j < σ.length := ⟨(List.getElem?_eq_some_iff.mp S.at_).1, (List.getElem?_eq_some_iff.mp S.cells).1⟩
theorem Src.put {σ : St} {i j k f : Nat} {c : List Int} {o : O} (S : Src σ i j c k) (h1 : i ≠ f) (h2 : j ≠ f) : Src (σ.set f o) i j c k := S.sm ((Sm.refl σ [f]).set (by simp)) (by simpa using h1) (by simpa using h2)
noncomputable def firstK (c : List Int) (t : Nat) : List Nat := (List.range t).map fun z => draw c (2 + z) 256
theorem firstK_succ (c : List Int) (t : Nat) : firstK c t ++ [draw c (2 + t) 256] = firstK c (t + 1) := by simp [firstK, List.range_succ]
theorem firstK_lt (c : List Int) (t : Nat) : ∀ o ∈ firstK c t, o < 256 := fun o h => by
  obtain ⟨z, _, rfl⟩ := List.mem_map.mp h
  exact draw_lt c _ (by decide)
noncomputable abbrev rowsL : V := .tup [.lst (iV LBl), .lst (iV LEl)]
noncomputable abbrev rowsD : V := .tup [.lst (iV DBl), .lst (iV DEl)]
theorem ptsV_app (ps : List Pt) (x : Pt) : ptsV ps ++ [ptV x] = ptsV (ps ++ [x]) := by simp [ptsV]
theorem ptsV_len (ps : List Pt) : (ptsV ps).length = ps.length := by simp [ptsV]
theorem encs_app (ps : List Pt) (x : Pt) : encs (ps ++ [x]) = encs ps ++ encB x := by simp [encs]
section
variable {W : Wd} {n : Nat} {σ : St} {X : St → Prop} {K : V → St → Prop}
theorem f_drawS (hn : 1 ≤ n) {i j k m : Nat} {c : List Int} (S : Src σ i j c k) (h0 : c ≠ []) (hz : c.length ≤ 60) (hm : 0 < m) (hk : k ≤ 1000000)
    (h : ∀ σ', Sm σ σ' [i] → Src σ' i j c (k + 1) → σ'.length = σ.length → K (.int (draw c k m : Nat)) σ') : OKd W n (.ref 300) [.obj i, .int m] σ K X := by
  refine f_draw hn S.at_ (show Elems σ (.obj j) _ from S.cells) rfl h0 hz hm hk (fun o => ?_) (h _ ((Sm.refl _ _).set (by simp)) ⟨?_, set_other S.cells S.ne, S.ne⟩ (by simp))
  · exact set_other S.cells S.ne
  · rw [set_at S.at_, show ((k + 1 : Nat) : Int) = (k : Int) + 1 from by simp]
theorem str8 : Str.ofString "00000000" = bstr (List.replicate 8 false) := by decide
theorem str110 : Str.ofString "110" = bstr [true, true, false] := by decide
theorem str0 : Str.ofString "0" = bstr [false] := by decide
theorem str1 : Str.ofString "1" = bstr [true] := by decide
theorem strE : Str.ofString "" = ⟨#[]⟩ := by decide
noncomputable abbrev PlainLaw : Prop := ∀ (ahead : Nat) (first : List Nat) (parts : List Pt) (k : Nat), ahead < 3 → first.length ≤ 3 → (∀ o ∈ first, o < 256) → parts.length ≤ 5 → (∀ x ∈ parts, ptIn x) → k ≤ 1 →
  ∃ pE, Stream (bL (dataL ahead (txtE first parts) k)) (8 * ahead) first parts (ahead + 1) pE ∧ c8 pE = ahead + (octs (txtE first parts)).length
theorem cellsF_ok (ns : List Int) : cellsF ns ≠ [] ∧ (cellsF ns).length ≤ 60 := by
  unfold cellsF
  split
  · simp
  · rename_i h
    refine ⟨fun q => h (by rw [q]; rfl), by rw [List.length_take]; walk_at "om"⟩
set_option maxHeartbeats 8000000 in
theorem f_law (PL : PlainLaw) (hn : 12 ≤ n) {ns : List Int} (hz : ns.length ≤ 63) (h : ∀ σ', K (.bool true) σ') : OKdR W n (.ref 346) [.lst (ns.map .int)] σ K X := by
  obtain ⟨n, rfl⟩ := pre hn rfl
  refine r_def ["script"] rfl rfl rfl ?_ (by decide) ?_
  · exact len1 fun a => rfl
  refine r_cons (OKx.r (x_setC ?_ rfl))
  repeat walk_at "one"
  refine OKd.call (f_source (dn hn rfl) (by walk_at "om") fun τ j hj hjl i hi hcj hci hij => ?_)
  have S : Src (σ ++ τ) i j (cellsF ns) 0 := ⟨hci, hcj, hij⟩
  obtain ⟨c1, c2⟩ := cellsF_ok ns
  generalize cellsF ns = c at S c1 c2
  generalize σ ++ τ = σ0 at S
  clear hci hcj hi hj hjl
  refine r_cons (OKx.r ?_)
  repeat walk_at "one"
  refine OKd.call (f_lenrows (dn hn rfl) ?_)
  refine r_cons (OKx.r ?_)
  repeat walk_at "one"
  refine OKd.call (f_distrows (dn hn rfl) ?_)
  refine r_cons (r_if (b_or (or_cons (b_not (b_boolV ?_)))))
  repeat walk_at "one"
  refine OKd.call (f_rowsok (c := 29) (b := 3) (last := 258) (L := LBl) (E := LEl) (dn hn rfl) LB_len LE_len (by decide) (by decide) (by decide +kernel) (fun k => Nat.le_trans (getD_le LEl_le k) (by decide)) (fun k hk => LB_step k (by walk_at "om")) LB_last ?_)
  refine ⟨_, rfl, (fun g => by cases g), fun _ => ?_⟩
  refine or_cons (b_not (b_boolV ?_))
  repeat walk_at "one"
  refine OKd.call (f_rowsok (c := 30) (b := 1) (last := 32768) (L := DBl) (E := DEl) (dn hn rfl) DB_len DE_len (by decide) (by decide) (by decide +kernel) (fun k => Nat.le_trans (getD_le DEl_le k) (by decide)) (fun k hk => DB_step k (by walk_at "om")) DB_last ?_)
  refine ⟨_, rfl, (fun g => by cases g), fun _ => or_nil ⟨(fun g => by cases g), fun _ => OKs.r (s_nil ?_)⟩⟩
  refine r_cons (r_if ?_)
  repeat walk_at "one"
  refine OKd.call (f_order (dn hn rfl) ?_)
  refine e_lst ?_
  repeat walk_at "one"
  refine ⟨by simp, ?_⟩
  refine t_neP (.lst (iV (ordL 15))) (Fz.lst _) (Fz.lst (ordL 15)) (by decide +kernel) (by decide +kernel) ⟨_, rfl, (fun g => by cases g), fun _ => OKs.r (s_nil ?_)⟩
  refine r_cons (OKx.r ?_)
  repeat walk_at "one"
  refine OKd.call (f_drawS (m := 3) (dn hn rfl) S c1 c2 (by decide) (by walk_at "om") fun σ1 sm1 S1 l1 => ?_)
  have hah := draw_lt c 0 (m := 3) (by decide)
  generalize draw c 0 3 = ahead at hah
  clear sm1 l1 S σ0
  refine r_cons (OKx.r (x_comp [("source", .obj i)] ?_ ⟨rfl, rfl, by decide, trivial⟩))
  repeat walk_at "one"
  refine OKd.call (f_drawS (m := 4) (dn hn rfl) S1 c1 c2 (by decide) (by walk_at "om") fun σ2 sm2 S2 l2 => ?_)
  repeat walk_at "one"
  refine c_range1 ?_
  have hnf := draw_lt c (0 + 1) (m := 4) (by decide)
  generalize draw c (0 + 1) 4 = nf at hnf
  have hlt := S2.lt
  have hif : i ≠ σ2.length := by walk_at "om"
  have hjf : j ≠ σ2.length := by walk_at "om"
  refine ⟨iV (List.range nf), fun t σ' => Src σ' i j c (2 + t) ∧ σ'[σ2.length]? = some (.list (iV (firstK c t))), rng_el (by walk_at "om"), fun t σ' _ => rng_el (by walk_at "om"), ⟨S2.app, by simp [firstK, iV, iZ]⟩, ?_, ?_⟩
  · rintro t σ' y ⟨S', hf⟩ hy
    obtain ⟨ht, rfl⟩ := rng_at hy
    refine ⟨fun _ => ?_, fun q => by cases q⟩
    repeat walk_at "one"
    refine OKd.call (f_drawS (m := 256) (dn hn rfl) S' c1 c2 (by decide) (by walk_at "om") fun σ3 sm3 S3 l3 => ?_)
    have hf3 := sm3 _ _ (by simpa using Ne.symm hif) hf
    refine ⟨_, hf3, by simp [iV, iZ, firstK]; walk_at "om", S3.put hif hjf, ?_⟩
    rw [set_at hf3, ← firstK_succ, ← iV_app]
    rfl
  rintro σ3 ⟨S3, hf⟩
  rw [iV_len, List.length_range] at hf S3
  have hfl : (firstK c nf).length ≤ 3 := by simp [firstK]; walk_at "om"
  have hf256 := firstK_lt c nf
  generalize firstK c nf = first at hf hfl hf256
  generalize σ2.length = f at hf hif hjf
  clear S2 sm2 l2 hlt S1 σ1 σ2
  refine r_cons (OKx.r ?_)
  repeat walk_at "one"
  refine e_lstM ?_
  repeat walk_at "one"
  refine ⟨by simp, ?_⟩
  have hlt := S3.lt
  have hfl3 := (List.getElem?_eq_some_iff.mp hf).1
  have S4 : Src (σ3 ++ [.list []]) i j c (2 + nf) := S3.app
  have hp : (σ3 ++ [O.list []])[σ3.length]? = some (.list (ptsV [])) := by simp [ptsV]
  have hf4 := app_at (τ := [O.list []]) hf
  have hip : i ≠ σ3.length := by walk_at "om"
  have hjp : j ≠ σ3.length := by walk_at "om"
  have hfp : f ≠ σ3.length := by walk_at "om"
  generalize σ3.length = p at hp hip hjp hfp
  generalize σ3 ++ [O.list []] = σ4 at S4 hp hf4
  clear S3 hf hfl3 hlt
  refine r_cons (OKx.r (x_setC ?_ rfl))
  repeat walk_at "one"
  refine c_len (vs := iV first) hf4 (by rw [iV_len]; walk_at "om") ?_
  rw [iV_len]
  repeat walk_at "one"
  refine OKd.call (f_low (k := 16) (dn hn rfl) (by walk_at "om") (by walk_at "om") ?_)
  rw [str8]
  refine t_addS (by simp [lowB_len]) ?_
  repeat walk_at "one"
  refine c_len (vs := iV first) hf4 (by rw [iV_len]; walk_at "om") ?_
  rw [iV_len]
  repeat walk_at "one"
  rw [show (65535 : Int) - (first.length : Nat) = ((65535 - first.length : Nat) : Int) from by walk_at "om"]
  refine OKd.call (f_low (k := 16) (dn hn rfl) (by walk_at "om") (by walk_at "om") ?_)
  refine t_addS (by simp [lowB_len]) ?_
  refine r_cons (OKx.r (x_setC ?_ rfl))
  repeat walk_at "one"
  refine ⟨_, m_str F.slot_str_join (by rfl), rfl, ?_⟩
  walk_at "one"
  refine e_comp [] ?_ trivial
  repeat walk_at "one"
  refine ⟨iV first, fun t σ' => Sm σ4 σ' [] ∧ σ'[σ4.length]? = some (.list (((first.take t).map fun o => bstr (lowB o 8)).map .str)), hf4, fun t σ' h => h.1 _ _ (by simp) hf4, ⟨Sm.symm_app, by simp⟩, ?_, ?_⟩
  · rintro t σ' y ⟨sm', hg⟩ hy
    obtain ⟨ht, rfl⟩ := iV_at hy
    refine ⟨fun _ => ?_, fun q => by cases q⟩
    have h256 := hf256 _ (List.getElem_mem ht)
    repeat walk_at "one"
    refine OKd.call (f_low (k := 8) (dn hn rfl) (by walk_at "om") (by walk_at "om") ?_)
    refine ⟨_, hg, by simp; walk_at "om", sm'.setN (Nat.le_refl _), ?_⟩
    rw [set_at hg, List.take_succ_eq_append_getElem ht, List.map_append, List.map_append]
    rfl
  rintro σ5 ⟨sm5, hg⟩
  rw [iV_len, List.take_length] at hg
  repeat walk_at "one"
  refine c_join (l := first.map fun o => lowB o 8) (show Elems σ5 (.obj σ4.length) _ from by
    show σ5[σ4.length]? = _
    rw [hg]; simp [Function.comp_def]) (by rw [flat8]; walk_at "om") ?_
  refine t_addS (by have := flat8 first; simp only [List.length_append, List.length_replicate, lowB_len, List.length_cons, List.length_nil]; walk_at "om") ?_
  repeat walk_at "one"
  rw [str110]
  refine t_addS (by have := flat8 first; simp only [List.length_append, List.length_replicate, lowB_len, List.length_cons, List.length_nil]; walk_at "om") ?_
  rw [show List.replicate 8 false ++ lowB first.length 16 ++ lowB (65535 - first.length) 16 ++ (first.map fun o => lowB o 8).flatten ++ [true, true, false] = txtP first [] from by simp [txtP, txt0, encs]]
  have S5 := S4.sm sm5 (by simp) (by simp)
  have hf5 := sm5 _ _ (by simp) hf4
  have hp5 := sm5 _ _ (by simp) hp
  clear hg sm5 S4 hf4 hp σ4
  refine r_cons (OKx.r (x_for ?_))
  repeat walk_at "one"
  refine OKd.call (f_drawS (m := 5) (dn hn rfl) S5 c1 c2 (by decide) (by walk_at "om") fun σ6 sm6 S6 l6 => ?_)
  repeat walk_at "one"
  rw [show (1 : Int) + (draw c (2 + nf) 5 : Nat) = ((1 + draw c (2 + nf) 5 : Nat) : Int) from by simp]
  refine c_range1 ?_
  have hnp := draw_lt c (2 + nf) (m := 5) (by decide)
  obtain ⟨np, hnp'⟩ : ∃ np, np = 1 + draw c (2 + nf) 5 := ⟨_, rfl⟩
  rw [← hnp']
  have hnp5 : np ≤ 5 := by walk_at "om"
  obtain ⟨k1, hk1⟩ : ∃ k1, k1 = 2 + nf + 1 := ⟨_, rfl⟩
  rw [← hk1] at S6
  have hf6 := sm6 _ _ (by simpa using Ne.symm hif) hf5
  have hp6 := sm6 _ _ (by simpa using Ne.symm hip) hp5
  clear sm6 l6 S5 hf5 hp5 σ5
  have ht0 := txt0_len first
  refine ⟨iV (List.range np), fun t l σ' => Src σ' i j c (stN c k1 t).1 ∧ σ'[f]? = some (.list (iV first)) ∧ σ'[p]? = some (.list (ptsV (stN c k1 t).2)) ∧
    Sub [("source", .obj i), ("lengths", rowsL), ("distances", rowsD), ("ahead", .int ahead), ("first", .obj f), ("parts", .obj p), ("text", .str (bstr (txtP first (stN c k1 t).2)))] l,
    ⟨S6, hf6, hp6, rfl, rfl, rfl, rfl, rfl, rfl, rfl, trivial⟩, fun t l σ' _ => rng_el (by walk_at "om"), ?_, ?_⟩
  · rintro J hJ t l σ' y ⟨S7, hf7, hp7, hl⟩ hy
    obtain ⟨ht, rfl⟩ := rng_at hy
    have hct := stN_ct c k1 t
    have hpl := stN_len c k1 t
    have hps4 : (stN c k1 t).2.length ≤ 5 := by omega
    have hk9 : (stN c k1 t).1 ≤ 100 := by omega
    have hst : stN c k1 (t + 1) = (ctAt c (stN c k1 t).1, (stN c k1 t).2 ++ [ptAt c (stN c k1 t).1]) := rfl
    obtain ⟨k, ps, e⟩ : ∃ k ps, stN c k1 t = (k, ps) := ⟨_, _, rfl⟩
    rw [e] at hst S7 hp7 hl hct hpl hps4 hk9
    simp only at hst S7 hp7 hl hct hpl hps4 hk9
    refine OKs.monoG (K₀ := fun fl l' σ'' => fl = .next ∧ Src σ'' i j c (ctAt c k) ∧ σ''[f]? = some (.list (iV first)) ∧ σ''[p]? = some (.list (ptsV (ps ++ [ptAt c k]))) ∧
      Sub [("source", .obj i), ("lengths", rowsL), ("distances", rowsD), ("ahead", .int ahead), ("first", .obj f), ("parts", .obj p), ("text", .str (bstr (txtP first (ps ++ [ptAt c k]))))] l') (fun fl l' σ'' hh => by
        obtain ⟨rfl, hh⟩ := hh
        refine hJ _ _ _ _ ?_
        show Src σ'' i j c (stN c k1 (t + 1)).1 ∧ σ''[f]? = some (.list (iV first)) ∧ σ''[p]? = some (.list (ptsV (stN c k1 (t + 1)).2)) ∧
          Sub [("source", .obj i), ("lengths", rowsL), ("distances", rowsD), ("ahead", .int ahead), ("first", .obj f), ("parts", .obj p), ("text", .str (bstr (txtP first (stN c k1 (t + 1)).2)))] l'
        rw [hst]
        exact hh) fun K' hK => ?_
    refine OKs.sub (loc' := [("source", .obj i), ("lengths", rowsL), ("distances", rowsD), ("ahead", .int ahead), ("first", .obj f), ("parts", .obj p), ("text", .str (bstr (txtP first ps)))]) ?_
      (Sub.look ⟨hl.1, hl.2.1, hl.2.2.1, hl.2.2.2.1, hl.2.2.2.2.1, hl.2.2.2.2.2.1, hl.2.2.2.2.2.2.1, trivial⟩)
    clear hst e hl hy
    have hel := encs_len ps
    have hzt : (txtP first ps).length ≤ 1000 := by unfold txtP; rw [List.length_append]; walk_at "om"
    have hpin := ptAt_in c k
    have hxe : ∀ x, txtP first (ps ++ [x]) = txtP first ps ++ encB x := fun x => by simp [txtP, encs_app]
    repeat walk_at "one"
    refine OKd.call (f_drawS (m := 5) (dn hn rfl) S7 c1 c2 (by decide) (by walk_at "om") fun σ8 sm8 S8 l8 => ?_)
    have hf8 := sm8 _ _ (by simpa using Ne.symm hif) hf7
    have hp8 := sm8 _ _ (by simpa using Ne.symm hip) hp7
    clear sm8 l8 S7 hf7 hp7 σ'
    repeat walk_at "one"
    refine ⟨_, rfl, fun g => ?_, fun g => ?_⟩
    · have g' : draw c k 5 < 3 := by simp at g; walk_at "om"
      rw [show ptAt c k = .lit (draw c (k + 1) 256) from if_pos g'] at hpin hK
      rw [show ctAt c k = k + 2 from if_pos g'] at hK
      have hv : draw c (k + 1) 256 < 256 := hpin
      repeat walk_at "one"
      refine ⟨_, m_list hp8 F.slot_list_append (by rfl), rfl, ?_⟩
      repeat walk_at "one"
      refine OKd.call (f_drawS (m := 256) (dn hn rfl) S8 c1 c2 (by decide) (by walk_at "om") fun σ9 sm9 S9 l9 => ?_)
      have hf9 := sm9 _ _ (by simpa using Ne.symm hif) hf8
      have hp9 := sm9 _ _ (by simpa using Ne.symm hip) hp8
      generalize draw c (k + 1) 256 = v at hv hpin hK
      repeat walk_at "one"
      refine c_append hp9 (by rw [ptsV_len]; walk_at "om") ?_
      rw [show ptsV ps ++ [V.int (v : Nat)] = ptsV (ps ++ [Pt.lit v]) from ptsV_app ps (Pt.lit v)]
      have hp10 := set_at (o' := .list (ptsV (ps ++ [Pt.lit v]))) hp9
      have hf10 := set_other (o' := .list (ptsV (ps ++ [Pt.lit v]))) hf9 (Ne.symm hfp)
      have S10 : Src (σ9.set p (.list (ptsV (ps ++ [Pt.lit v])))) i j c (k + 1 + 1) := S9.put hip hjp
      walk_at "one"
      refine x_setC ?_ rfl
      repeat walk_at "one"
      refine i_neg (vs := ptsV (ps ++ [Pt.lit v])) hp10 (by walk_at "om") (by rw [ptsV_len]; simp; walk_at "om") (x := .int (v : Nat)) (by
        rw [ptsV_len, List.length_append, show (-1 + ((ps.length + [Pt.lit v].length : Nat) : Int)).toNat = ps.length from by simp; walk_at "om"]
        simp [ptsV, ptV]) (by rw [ptsV_len]; simp; walk_at "om") ?_
      repeat walk_at "one"
      refine OKd.call (f_lit (s := v) (dn hn rfl) (by walk_at "om") ?_)
      refine t_addS (by have := litB_len v; walk_at "om") ?_
      repeat walk_at "one"
      refine hK _ _ _ ⟨rfl, S10, hf10, hp10, rfl, rfl, rfl, rfl, rfl, rfl, ?_, trivial⟩
      rw [hxe]; rfl
    · have g' : ¬ draw c k 5 < 3 := by simp at g; walk_at "om"
      rw [show ptAt c k = Pt.mat (3 + (if draw c k 5 = 3 then draw c (k + 1) 9 else draw c (k + 1) 256)) (1 + (if draw c k 5 = 3 then draw c (k + 2) 3 else draw c (k + 2) 32768)) from if_neg g'] at hpin hK
      rw [show ctAt c k = k + 3 from if_neg g'] at hK
      obtain ⟨ml, hml⟩ : ∃ ml, ml = (if draw c k 5 = 3 then draw c (k + 1) 9 else draw c (k + 1) 256) := ⟨_, rfl⟩
      obtain ⟨md, hmd⟩ : ∃ md, md = (if draw c k 5 = 3 then draw c (k + 2) 3 else draw c (k + 2) 32768) := ⟨_, rfl⟩
      rw [← hml, ← hmd] at hpin hK
      refine s_cons (x_set (OKe.mono (K := fun v σ' => v = .int ((3 + ml : Nat) : Int) ∧ Sm σ8 σ' [i] ∧ Src σ' i j c (k + 2)) ?_ ?_))
      · repeat walk_at "one"
        refine ⟨_, rfl, fun g => ?_, fun g => ?_⟩
        · have g3 : draw c k 5 = 3 := by simp at g; walk_at "om"
          rw [if_pos g3] at hml
          repeat walk_at "one"
          refine OKd.call (f_drawS (m := 9) (dn hn rfl) S8 c1 c2 (by decide) (by walk_at "om") fun σ9 sm9 S9 l9 => ?_)
          repeat walk_at "one"
          exact ⟨by rw [hml]; simp, sm9, S9⟩
        · have g3 : ¬ draw c k 5 = 3 := by simp at g; walk_at "om"
          rw [if_neg g3] at hml
          repeat walk_at "one"
          refine OKd.call (f_drawS (m := 256) (dn hn rfl) S8 c1 c2 (by decide) (by walk_at "om") fun σ9 sm9 S9 l9 => ?_)
          repeat walk_at "one"
          exact ⟨by rw [hml]; simp, sm9, S9⟩
      rintro _ σ9 ⟨rfl, sm9, S9⟩
      have hf9 := sm9 _ _ (by simpa using Ne.symm hif) hf8
      have hp9 := sm9 _ _ (by simpa using Ne.symm hip) hp8
      clear sm9 hf8 hp8 S8 σ8
      refine s_cons (x_set (OKe.mono (K := fun v σ' => v = .int ((1 + md : Nat) : Int) ∧ Sm σ9 σ' [i] ∧ Src σ' i j c (k + 3)) ?_ ?_))
      · repeat walk_at "one"
        refine ⟨_, rfl, fun g => ?_, fun g => ?_⟩
        · have g3 : draw c k 5 = 3 := by simp at g; walk_at "om"
          rw [if_pos g3] at hmd
          repeat walk_at "one"
          refine OKd.call (f_drawS (m := 3) (dn hn rfl) S9 c1 c2 (by decide) (by walk_at "om") fun σ9 sm9 S9 l9 => ?_)
          repeat walk_at "one"
          exact ⟨by rw [hmd]; simp, sm9, S9⟩
        · have g3 : ¬ draw c k 5 = 3 := by simp at g; walk_at "om"
          rw [if_neg g3] at hmd
          repeat walk_at "one"
          refine OKd.call (f_drawS (m := 32768) (dn hn rfl) S9 c1 c2 (by decide) (by walk_at "om") fun σ9 sm9 S9 l9 => ?_)
          repeat walk_at "one"
          exact ⟨by rw [hmd]; simp, sm9, S9⟩
      rintro _ σa ⟨rfl, sma, Sa⟩
      have hfa := sma _ _ (by simpa using Ne.symm hif) hf9
      have hpa := sma _ _ (by simpa using Ne.symm hip) hp9
      clear sma hf9 hp9 S9 σ9
      obtain ⟨q1, q2, q3, q4⟩ := hpin
      generalize 3 + ml = ll at q1 q2 hK
      generalize 1 + md = dd at q3 q4 hK
      clear hml hmd
      repeat walk_at "one"
      refine ⟨_, m_list hpa F.slot_list_append (by rfl), rfl, ?_⟩
      repeat walk_at "one"
      refine e_tup ?_
      repeat walk_at "one"
      refine ⟨by simp, ?_⟩
      repeat walk_at "one"
      refine c_append hpa (by rw [ptsV_len]; walk_at "om") ?_
      rw [show ptsV ps ++ [V.tup [.int (ll : Nat), .int (dd : Nat)]] = ptsV (ps ++ [Pt.mat ll dd]) from ptsV_app ps (Pt.mat ll dd)]
      have hpb := set_at (o' := .list (ptsV (ps ++ [Pt.mat ll dd]))) hpa
      have hfb := set_other (o' := .list (ptsV (ps ++ [Pt.mat ll dd]))) hfa (Ne.symm hfp)
      have Sb : Src (σa.set p (.list (ptsV (ps ++ [Pt.mat ll dd])))) i j c (k + 3) := Sa.put hip hjp
      generalize σa.set p (.list (ptsV (ps ++ [Pt.mat ll dd]))) = σb at hpb hfb Sb
      clear hpa hfa Sa σa
      obtain ⟨r1, r2, r3, r4⟩ := lrow_ok q1 q2
      obtain ⟨u1, u2, u3, u4⟩ := drow_ok q3 q4
      walk_at "one"
      refine x_unp (names := [("place", _), ("more", _), ("count", _)]) rfl ?_ (by decide)
      repeat walk_at "one"
      have getL : ∀ {M : List Nat} {z : Nat}, z < M.length → M[z]? = some (M.getD z 0) := fun {M z} hz => by rw [List.getD_eq_getElem?_getD, List.getElem?_eq_getElem hz]; rfl
      refine OKd.call (f_row (L := LBl) (E := LEl) (pl := lrow ll) (dn hn rfl) (by rw [LB_len]; decide) (by rw [LE_len]; decide) r1 (getL (by rw [LB_len]; walk_at "om")) (getL (by rw [LE_len]; walk_at "om")) ?_)
      have le1 := getD_le LEl_le (lrow ll)
      have le2 := getD_le DEl_le (drow dd)
      have hx := hxe (Pt.mat ll dd)
      rw [show encB (Pt.mat ll dd) = litB (257 + lrow ll) ++ lowB (ll - LBl.getD (lrow ll) 0) (LEl.getD (lrow ll) 0) ++ highB (drow dd) 5 5 ++ lowB (dd - DBl.getD (drow dd) 0) (DEl.getD (drow dd) 0) from rfl] at hx
      rw [show ((ll : Nat) : Int) - (LBl.getD (lrow ll) 0 : Nat) = ((ll - LBl.getD (lrow ll) 0 : Nat) : Int) from by walk_at "om"]
      have hb1 : ll - LBl.getD (lrow ll) 0 < 1000000 := by walk_at "om"
      have hb2 : dd - DBl.getD (drow dd) 0 < 1000000 := by walk_at "om"
      generalize lrow ll = lr at r1 r2 le1 hx hb1
      generalize ll - LBl.getD lr 0 = lm at hb1 hx
      generalize LEl.getD lr 0 = lc at le1 hx
      refine ⟨_, rfl, rfl, ?_⟩
      walk_at "one"
      refine x_setC ?_ rfl
      repeat walk_at "one"
      rw [show (257 : Int) + (lr : Nat) = ((257 + lr : Nat) : Int) from by simp]
      refine OKd.call (f_lit (s := 257 + lr) (dn hn rfl) (by walk_at "om") ?_)
      have hll := litB_len (257 + lr)
      refine t_addS (by walk_at "om") ?_
      repeat walk_at "one"
      refine OKd.call (f_low (v := lm) (k := lc) (dn hn rfl) hb1 (by walk_at "om") ?_)
      refine t_addS (by rw [List.length_append, lowB_len]; walk_at "om") ?_
      walk_at "one"
      refine x_unp (names := [("place", _), ("more", _), ("count", _)]) rfl ?_ (by decide)
      repeat walk_at "one"
      refine OKd.call (f_row (L := DBl) (E := DEl) (pl := drow dd) (dn hn rfl) (by rw [DB_len]; decide) (by rw [DE_len]; decide) u1 (getL (by rw [DB_len]; walk_at "om")) (getL (by rw [DE_len]; walk_at "om")) ?_)
      rw [show ((dd : Nat) : Int) - (DBl.getD (drow dd) 0 : Nat) = ((dd - DBl.getD (drow dd) 0 : Nat) : Int) from by walk_at "om"]
      generalize drow dd = dr at u1 u2 le2 hx hb2
      generalize dd - DBl.getD dr 0 = dm at hb2 hx
      generalize DEl.getD dr 0 = dc at le2 hx
      refine ⟨_, rfl, rfl, ?_⟩
      walk_at "one"
      refine x_setC ?_ rfl
      repeat walk_at "one"
      refine OKd.call (f_high (v := dr) (k := 5) (dn hn rfl) (by walk_at "om") (by walk_at "om") ?_)
      refine t_addS (by simp only [List.length_append, lowB_len, highB_len]; walk_at "om") ?_
      repeat walk_at "one"
      refine OKd.call (f_low (v := dm) (k := dc) (dn hn rfl) hb2 (by walk_at "om") ?_)
      refine t_addS (by simp only [List.length_append, lowB_len, highB_len]; walk_at "om") ?_
      repeat walk_at "one"
      refine hK _ _ _ ⟨rfl, Sb, hfb, hpb, rfl, rfl, rfl, rfl, rfl, rfl, ?_, trivial⟩
      rw [hx]
      simp only [List.append_assoc]
      rfl
  rintro l σ7 ⟨S7, hf7, hp7, hl⟩
  rw [iV_len, List.length_range] at S7 hp7 hl
  have hct := stN_ct c k1 np
  have hpl := stN_len c k1 np
  have hin := stN_in c k1 np
  generalize (stN c k1 np).1 = k at S7 hct
  generalize (stN c k1 np).2 = ps at hp7 hpl hin hl
  refine OKsR.sub (loc' := [("source", .obj i), ("ahead", .int ahead), ("first", .obj f), ("parts", .obj p), ("text", .str (bstr (txtP first ps)))]) ?_
    (Sub.look ⟨hl.1, hl.2.2.2.1, hl.2.2.2.2.1, hl.2.2.2.2.2.1, hl.2.2.2.2.2.2.1, trivial⟩)
  clear hl
  have hel := encs_len ps
  have hzt : (txtP first ps).length ≤ 1000 := by unfold txtP; rw [List.length_append]; walk_at "om"
  refine r_cons (OKx.r (x_setC ?_ rfl))
  repeat walk_at "one"
  rw [str0]
  refine t_mulS (b := false) (by decide) (by decide) ?_
  refine t_addS (by rw [List.length_replicate]; walk_at "om") ?_
  rw [show txtP first ps ++ List.replicate (7 : Int).toNat false = txtZ first ps from rfl]
  have hzz : (txtZ first ps).length ≤ 1007 := by unfold txtZ; rw [List.length_append, List.length_replicate]; walk_at "om"
  refine r_cons (OKx.r (x_setC ?_ rfl))
  repeat walk_at "one"
  refine c_lenS (by walk_at "om") ?_
  repeat walk_at "one"
  refine t_mod ?_ (by decide)
  have hpad := (pad_spec (txtZ first ps).length).2
  rw [pad_int]
  refine t_mulS (b := false) (by walk_at "om") (by walk_at "om") ?_
  refine t_addS (by rw [List.length_replicate]; walk_at "om") ?_
  rw [show txtZ first ps ++ List.replicate ((pad (txtZ first ps).length : Nat) : Int).toNat false = txtE first ps from rfl]
  have hE8 := txtE_len first ps
  have hEz : (txtE first ps).length ≤ 1100 := by unfold txtE; rw [List.length_append, List.length_replicate]; walk_at "om"
  obtain ⟨q, hq⟩ : ∃ q, (txtE first ps).length = 8 * q := ⟨(txtE first ps).length / 8, by walk_at "om"⟩
  have hoq : octs (txtE first ps) = (List.range q).map (octN (txtE first ps)) := by unfold octs; rw [hq, Nat.mul_div_cancel_left _ (by decide)]
  have PL' := fun kk hk => PL ahead first ps kk hah hfl hf256 (by walk_at "om") hin hk
  rw [hoq] at PL'
  generalize hT : txtE first ps = T at hq hEz hoq PL'
  refine r_cons (OKx.r (x_comp [("text", .str (bstr T))] ?_ ⟨rfl, rfl, by decide, trivial⟩))
  repeat walk_at "one"
  refine c_lenS (by walk_at "om") ?_
  repeat walk_at "one"
  refine c_range3 (by decide) (by decide) ?_
  rw [hq]
  refine ⟨(List.range q).map fun t => .int ((8 * t : Nat) : Int), fun t σ' => Sm σ7 σ' [] ∧ σ'[σ7.length]? = some (.list (iV ((List.range t).map (octN T)))), rng8_el (by walk_at "om"), fun t σ' _ => rng8_el (by walk_at "om"), ⟨Sm.symm_app, by simp [iV, iZ]⟩, ?_, ?_⟩
  · rintro t σ' y ⟨sm', hg⟩ hy
    rw [List.getElem?_map, Option.map_eq_some_iff] at hy
    obtain ⟨t', ht', rfl⟩ := hy
    obtain ⟨ht, rfl⟩ : t < q ∧ t = t' := by
      have := List.getElem?_eq_some_iff.mp ht'
      obtain ⟨a, b⟩ := this
      simp at a b
      exact ⟨a, b⟩
    refine ⟨fun _ => ?_, fun q => by cases q⟩
    have hgl := (List.getElem?_eq_some_iff.mp hg).1
    repeat walk_at "one"
    refine e_comp [("text", .str (bstr T)), ("at", .int ((8 * t : Nat) : Int))] ?_ ⟨rfl, rfl, by decide, rfl, rfl, by decide, trivial⟩
    repeat walk_at "one"
    refine c_range1 ?_
    refine ⟨iV (List.range 8), fun u σ'' => Sm σ' σ'' [] ∧ σ''[σ'.length]? = some (.list (iV (((List.range u).filter fun z => T.getD (8 * t + z) false).map fun z => 2 ^ z))), rng_el (k := 8) (by walk_at "om"), fun u σ'' _ => rng_el (k := 8) (by walk_at "om"), ⟨Sm.symm_app, by simp [iV, iZ]⟩, ?_, ?_⟩
    · rintro u σ'' y ⟨sm'', hg''⟩ hy
      obtain ⟨hu, rfl⟩ := rng_at hy
      unfold OKif
      repeat walk_at "one"
      have hb : T[8 * t + u]? = some (T.getD (8 * t + u) false) := by rw [List.getD_eq_getElem?_getD, List.getElem?_eq_getElem (by walk_at "om")]; rfl
      have hst : (List.range (u + 1)).filter (fun z => T.getD (8 * t + z) false) = (List.range u).filter (fun z => T.getD (8 * t + z) false) ++ (if T.getD (8 * t + u) false then [u] else []) := by
        rw [List.range_succ, List.filter_append]
        congr 1
        simp only [List.filter_cons, List.filter_nil]
      generalize T.getD (8 * t + u) false = b at hb hst
      refine i_str (bs := T) (b := b) (Int.natCast_nonneg (8 * t + u)) (by exact hb) (by walk_at "om") ?_
      repeat walk_at "one"
      rw [str1]
      refine t_eqS ⟨_, rfl, fun g => ?_, fun g => ?_⟩
      · have gb : b = true := by simpa using g
        subst gb
        repeat walk_at "one"
        refine t_pow ?_ (by walk_at "om") (by walk_at "om") (by decide)
        rw [two_pow_cast]
        refine ⟨_, hg'', by rw [iV_len]; simp; have := List.length_filter_le (fun z => T.getD (8 * t + z) false) (List.range u); simp at this; walk_at "om", sm''.setN (Nat.le_refl _), ?_⟩
        rw [set_at hg'', hst, List.map_append, ← iV_app]
        rfl
      · have gb : b = false := by simpa using g
        subst gb
        refine ⟨sm'', ?_⟩
        rw [hg'', hst]
        simp
    rintro σ'' ⟨sm'', hg''⟩
    rw [iV_len, List.length_range] at hg''
    repeat walk_at "one"
    refine c_sum (ns := iZ (((List.range 8).filter fun z => T.getD (8 * t + z) false).map fun z => 2 ^ z)) hg'' ?_
    rw [sum_cast]
    have hg2 := sm'' _ _ (by simp) hg
    refine ⟨_, hg2, by rw [iV_len]; simp; walk_at "om", fun z o hz e => ?_, ?_⟩
    · have := (List.getElem?_eq_some_iff.mp e).1
      rw [List.getElem?_set_ne (by walk_at "om")]
      exact sm'' z o (by simp) (sm' z o (by simp) e)
    · rw [set_at hg2, show List.range (t + 1) = List.range t ++ [t] from List.range_succ, List.map_append, ← iV_app]
      rfl
  rintro σ8 ⟨sm8, hg⟩
  rw [List.length_map, List.length_range] at hg
  have S8 := S7.sm sm8 (by simp) (by simp)
  have hf8 := sm8 _ _ (by simp) hf7
  have hp8 := sm8 _ _ (by simp) hp7
  have hlt := S7.lt
  have hl1 := (List.getElem?_eq_some_iff.mp hf7).1
  have hl2 := (List.getElem?_eq_some_iff.mp hp7).1
  have hoct : ((List.range q).map (octN T)).length = q := by simp
  rw [← hoq] at hg
  have hol : (octs T).length = q := by rw [hoq]; exact hoct
  rw [← hoq] at PL'
  have hqz : q ≤ 200 := by walk_at "om"
  generalize hoc : σ7.length = oc at hg hlt hl1 hl2
  have n1 : i ≠ oc := by walk_at "om"
  have n2 : j ≠ oc := by walk_at "om"
  have n3 : f ≠ oc := by walk_at "om"
  have n4 : p ≠ oc := by walk_at "om"
  clear sm8 S7 hf7 hp7 hlt hl1 hl2 hoct hoc σ7
  refine r_cons (OKx.r ?_)
  repeat walk_at "one"
  refine c_listM (vs := iV first) hf8 (by rw [iV_len]; walk_at "om") ?_
  have hlt := S8.lt
  have hl1 := (List.getElem?_eq_some_iff.mp hf8).1
  have hl2 := (List.getElem?_eq_some_iff.mp hp8).1
  have hl3 := (List.getElem?_eq_some_iff.mp hg).1
  have S9 := S8.app (τ := [.list (iV first)])
  have hf9 := app_at (τ := [.list (iV first)]) hf8
  have hp9 := app_at (τ := [.list (iV first)]) hp8
  have hg9 := app_at (τ := [.list (iV first)]) hg
  have ho9 : (σ8 ++ [O.list (iV first)])[σ8.length]? = some (.list (iV first)) := by simp
  have m1 : i ≠ σ8.length := by walk_at "om"
  have m2 : j ≠ σ8.length := by walk_at "om"
  have m3 : f ≠ σ8.length := by walk_at "om"
  have m4 : p ≠ σ8.length := by walk_at "om"
  have m5 : oc ≠ σ8.length := by walk_at "om"
  generalize σ8.length = o at ho9 m1 m2 m3 m4 m5
  generalize σ8 ++ [O.list (iV first)] = σ9 at S9 hf9 hp9 hg9 ho9
  clear S8 hf8 hp8 hg hlt hl1 hl2 hl3
  refine r_cons (OKx.r ?_)
  repeat walk_at "one"
  refine r_cons (OKx.r (x_for ?_))
  repeat walk_at "one"
  refine ⟨ptsV ps, fun t l σ' => Src σ' i j c k ∧ σ'[f]? = some (.list (iV first)) ∧ σ'[p]? = some (.list (ptsV ps)) ∧ σ'[oc]? = some (.list (iV (octs T))) ∧ σ'[o]? = some (.list (iV (lawRun first (ps.take t)).1)) ∧
    (lawRun first (ps.take t)).1.length ≤ 3 + 300 * t ∧
    Sub [("source", .obj i), ("ahead", .int ahead), ("first", .obj f), ("parts", .obj p), ("octets", .obj oc), ("out", .obj o), ("is_far", .bool (lawRun first (ps.take t)).2)] l,
    ⟨S9, hf9, hp9, hg9, ho9, hfl, rfl, rfl, rfl, rfl, rfl, rfl, rfl, trivial⟩, fun t l σ' h => h.2.2.1, ?_, ?_⟩
  · rintro J hJ t l σ' y ⟨Sa, hfa, hpa, hga, hoa, hsz, hl⟩ hy
    unfold ptsV at hy
    rw [List.getElem?_map, Option.map_eq_some_iff] at hy
    obtain ⟨x, hx, rfl⟩ := hy
    obtain ⟨ht, hxx⟩ := List.getElem?_eq_some_iff.mp hx
    have hxin := hin x (by rw [← hxx]; exact List.getElem_mem ht)
    have hst : lawRun first (ps.take (t + 1)) = lawStep (lawRun first (ps.take t)) x := by
      unfold lawRun
      rw [List.take_succ_eq_append_getElem ht, List.foldl_append, hxx]; rfl
    refine OKs.monoG (K₀ := fun fl l' σ'' => fl = .next ∧ Src σ'' i j c k ∧ σ''[f]? = some (.list (iV first)) ∧ σ''[p]? = some (.list (ptsV ps)) ∧ σ''[oc]? = some (.list (iV (octs T))) ∧ σ''[o]? = some (.list (iV (lawStep (lawRun first (ps.take t)) x).1)) ∧
      (lawStep (lawRun first (ps.take t)) x).1.length ≤ 3 + 300 * (t + 1) ∧
      Sub [("source", .obj i), ("ahead", .int ahead), ("first", .obj f), ("parts", .obj p), ("octets", .obj oc), ("out", .obj o), ("is_far", .bool (lawStep (lawRun first (ps.take t)) x).2)] l') (fun fl l' σ'' hh => by
        obtain ⟨rfl, hh⟩ := hh
        refine hJ _ _ _ _ ?_
        show Src σ'' i j c k ∧ σ''[f]? = some (.list (iV first)) ∧ σ''[p]? = some (.list (ptsV ps)) ∧ σ''[oc]? = some (.list (iV (octs T))) ∧ σ''[o]? = some (.list (iV (lawRun first (ps.take (t + 1))).1)) ∧
          (lawRun first (ps.take (t + 1))).1.length ≤ 3 + 300 * (t + 1) ∧
          Sub [("source", .obj i), ("ahead", .int ahead), ("first", .obj f), ("parts", .obj p), ("octets", .obj oc), ("out", .obj o), ("is_far", .bool (lawRun first (ps.take (t + 1))).2)] l'
        rw [hst]
        exact hh) fun K' hK => ?_
    clear hst
    generalize lawRun first (ps.take t) = st at hoa hsz hl hK
    obtain ⟨oo, far⟩ := st
    simp only at hoa hsz hl
    refine OKs.sub (loc' := [("part", ptV x), ("source", .obj i), ("ahead", .int ahead), ("first", .obj f), ("parts", .obj p), ("octets", .obj oc), ("out", .obj o), ("is_far", .bool far)]) ?_
      (Sub.look ⟨rfl, hl.1, hl.2.1, hl.2.2.1, hl.2.2.2.1, hl.2.2.2.2.1, hl.2.2.2.2.2.1, hl.2.2.2.2.2.2.1, trivial⟩)
    clear hl hx hxx
    have ht5 : t < 5 := by omega
    have hs6 : oo.length ≤ 1500 := by omega
    walk_at "one"
    refine x_if (b_boolV ?_)
    cases x with
    | lit v =>
      repeat walk_at "one"
      refine e_glb (.type "int") rfl ?_
      repeat walk_at "one"
      refine c_isint ⟨_, rfl, fun _ => ?_, fun g => by cases g⟩
      repeat walk_at "one"
      refine ⟨_, m_list hoa F.slot_list_append (by rfl), rfl, ?_⟩
      repeat walk_at "one"
      refine c_append hoa (by rw [iV_len]; walk_at "om") ?_
      repeat walk_at "one"
      refine hK _ _ _ ⟨rfl, Sa.put m1 m2, set_other hfa (Ne.symm m3), set_other hpa (Ne.symm m4), set_other hga (Ne.symm m5), ?_, ?_, rfl, rfl, rfl, rfl, rfl, rfl, rfl, trivial⟩
      · rw [set_at hoa]
        show some (O.list (iV oo ++ [V.int (v : Nat)])) = some (.list (iV (oo ++ [v])))
        rw [← iV_app]; rfl
      · show (oo ++ [v]).length ≤ _
        rw [List.length_append]; simp; walk_at "om"
    | mat l d =>
      obtain ⟨x1, x2, x3, x4⟩ := hxin
      repeat walk_at "one"
      refine e_glb (.type "int") rfl ?_
      repeat walk_at "one"
      refine c_isintT ⟨_, rfl, (fun g => by cases g), fun _ => ?_⟩
      repeat walk_at "one"
      refine i_tup (x := .int (d : Nat)) (by decide) rfl (by decide) ?_
      repeat walk_at "one"
      refine c_len (vs := iV oo) hoa (by rw [iV_len]; walk_at "om") ?_
      rw [iV_len]
      repeat walk_at "one"
      refine ⟨_, rfl, fun g => ?_, fun g => ?_⟩
      · have g' : oo.length < d := by simp at g; walk_at "om"
        rw [show lawStep (oo, far) (.mat l d) = (oo, true) from if_pos g'] at hK
        repeat walk_at "one"
        exact hK _ _ _ ⟨rfl, Sa, hfa, hpa, hga, hoa, by show oo.length ≤ _; walk_at "om", rfl, rfl, rfl, rfl, rfl, rfl, rfl, trivial⟩
      · have g' : ¬ oo.length < d := by simp at g; walk_at "om"
        walk_at "one"
        refine x_if (b_not (b_boolV ?_))
        repeat walk_at "one"
        refine ⟨far, rfl, fun g => ?_, fun g => ?_⟩
        · have gf : far = false := by simpa using g
          subst gf
          rw [show lawStep (oo, false) (.mat l d) = (copyF oo d l, false) from by simp [lawStep, g']] at hK
          walk_at "one"
          refine x_for ?_
          repeat walk_at "one"
          refine i_tup (x := .int (l : Nat)) (by decide) rfl (by decide) ?_
          repeat walk_at "one"
          refine c_range1 ?_
          refine ⟨iV (List.range l), fun u lo σ'' => Src σ'' i j c k ∧ σ''[f]? = some (.list (iV first)) ∧ σ''[p]? = some (.list (ptsV ps)) ∧ σ''[oc]? = some (.list (iV (octs T))) ∧ σ''[o]? = some (.list (iV (copyF oo d u))) ∧
            Sub [("part", ptV (.mat l d)), ("source", .obj i), ("ahead", .int ahead), ("first", .obj f), ("parts", .obj p), ("octets", .obj oc), ("out", .obj o), ("is_far", .bool false)] lo,
            ⟨Sa, hfa, hpa, hga, hoa, rfl, rfl, rfl, rfl, rfl, rfl, rfl, rfl, trivial⟩, fun u lo σ'' _ => rng_el (by walk_at "om"), ?_, ?_⟩
          · rintro J₂ hJ₂ u lo σ'' y ⟨Sb, hfb, hpb, hgb, hob, hlb⟩ hy
            obtain ⟨hu, rfl⟩ := rng_at hy
            refine OKs.sub (loc' := [("part", ptV (.mat l d)), ("source", .obj i), ("ahead", .int ahead), ("first", .obj f), ("parts", .obj p), ("octets", .obj oc), ("out", .obj o), ("is_far", .bool false)]) ?_
              (Sub.look ⟨hlb.1, hlb.2.1, hlb.2.2.1, hlb.2.2.2.1, hlb.2.2.2.2.1, hlb.2.2.2.2.2.1, hlb.2.2.2.2.2.2.1, hlb.2.2.2.2.2.2.2.1, trivial⟩)
            have hlen := copyF_len oo d u
            have hdl : d ≤ (copyF oo d u).length := by omega
            have hl6 : (copyF oo d u).length ≤ 2000 := by omega
            have hstep : copyF oo d (u + 1) = copyF oo d u ++ [(copyF oo d u).getD ((copyF oo d u).length - d) 0] := rfl
            have hx : (iV (copyF oo d u))[(copyF oo d u).length - d]? = some (.int ((copyF oo d u).getD ((copyF oo d u).length - d) 0 : Nat)) := getD_at (by walk_at "om")
            generalize (copyF oo d u).getD ((copyF oo d u).length - d) 0 = y at hx hstep
            repeat walk_at "one"
            refine ⟨_, m_list hob F.slot_list_append (by rfl), rfl, ?_⟩
            repeat walk_at "one"
            refine i_tup (x := .int (d : Nat)) (by decide) rfl (by decide) ?_
            repeat walk_at "one"
            refine i_neg (vs := iV (copyF oo d u)) hob (by walk_at "om") (by rw [iV_len]; exact neg_le hdl) (x := .int (y : Nat)) (by
              rw [iV_len, tn_sub hdl]; exact hx) (by rw [iV_len]; walk_at "om") ?_
            repeat walk_at "one"
            refine c_append hob (by rw [iV_len]; walk_at "om") ?_
            repeat walk_at "one"
            refine hJ₂ _ _ _ _ ⟨Sb.put m1 m2, set_other hfb (Ne.symm m3), set_other hpb (Ne.symm m4), set_other hgb (Ne.symm m5), ?_, rfl, rfl, rfl, rfl, rfl, rfl, rfl, rfl, trivial⟩
            rw [set_at hob, hstep, ← iV_app]; rfl
          · rintro lo σ'' ⟨Sb, hfb, hpb, hgb, hob, hlb⟩
            rw [iV_len, List.length_range] at hob
            refine OKs.sub (loc' := [("source", .obj i), ("ahead", .int ahead), ("first", .obj f), ("parts", .obj p), ("octets", .obj oc), ("out", .obj o), ("is_far", .bool false)]) ?_
              (Sub.look ⟨hlb.2.1, hlb.2.2.1, hlb.2.2.2.1, hlb.2.2.2.2.1, hlb.2.2.2.2.2.1, hlb.2.2.2.2.2.2.1, hlb.2.2.2.2.2.2.2.1, trivial⟩)
            repeat walk_at "one"
            exact hK _ _ _ ⟨rfl, Sb, hfb, hpb, hgb, hob, by have := copyF_len oo d l; show (copyF oo d l).length ≤ _; walk_at "om", rfl, rfl, rfl, rfl, rfl, rfl, rfl, trivial⟩
        · have gf : far = true := by simpa using g
          subst gf
          rw [show lawStep (oo, true) (.mat l d) = (oo, true) from by simp [lawStep]] at hK
          repeat walk_at "one"
          exact hK _ _ _ ⟨rfl, Sa, hfa, hpa, hga, hoa, by show oo.length ≤ _; walk_at "om", rfl, rfl, rfl, rfl, rfl, rfl, rfl, trivial⟩
  rintro l σa ⟨Sa, hfa, hpa, hga, hoa, hsz, hl⟩
  rw [ptsV_len, List.take_length] at hoa hsz hl
  have hlay := lawRun_lay ps first
  rw [show ps.foldl lawStep (first, false) = lawRun first ps from rfl] at hlay
  generalize lawRun first ps = st at hoa hsz hl hlay
  obtain ⟨oo, far⟩ := st
  simp only at hoa hsz hl hlay
  refine OKsR.sub (loc' := [("source", .obj i), ("ahead", .int ahead), ("first", .obj f), ("parts", .obj p), ("octets", .obj oc), ("out", .obj o), ("is_far", .bool far)]) ?_
    (Sub.look ⟨hl.1, hl.2.1, hl.2.2.1, hl.2.2.2.1, hl.2.2.2.2.1, hl.2.2.2.2.2.1, hl.2.2.2.2.2.2.1, trivial⟩)
  clear hl S9 hf9 hp9 hg9 ho9 σ9
  refine r_cons (OKx.r ?_)
  repeat walk_at "one"
  refine e_lst ?_
  repeat walk_at "one"
  refine ⟨by simp, ?_⟩
  repeat walk_at "one"
  refine t_mulL (vs := [.int 3]) rfl (by walk_at "om") (by simp; walk_at "om") ?_
  repeat walk_at "one"
  rw [show (List.replicate ((ahead : Nat) : Int).toNat [V.int 3]).flatten = iV (List.replicate ahead 3) from iV_rep ahead 3]
  refine t_addL (vs := iV (List.replicate ahead 3)) (us := iV (octs T)) rfl hga (by rw [iV_len, iV_len, List.length_replicate]; walk_at "om") ?_
  repeat walk_at "one"
  refine e_lst ?_
  repeat walk_at "one"
  refine ⟨by simp, ?_⟩
  repeat walk_at "one"
  refine OKd.call (f_drawS (m := 2) (dn hn rfl) Sa c1 c2 (by decide) (by walk_at "om") fun σb smb Sb lb => ?_)
  have hkk := draw_lt c k (m := 2) (by decide)
  generalize draw c k 2 = kk at hkk
  have hfb := smb _ _ (by simpa using Ne.symm hif) hfa
  have hpb := smb _ _ (by simpa using Ne.symm hip) hpa
  have hgb := smb _ _ (by simpa using Ne.symm n1) hga
  have hob := smb _ _ (by simpa using Ne.symm m1) hoa
  clear smb lb Sa hfa hpa hga hoa σa
  refine t_mulL (vs := [.int 9]) rfl (by walk_at "om") (by simp; walk_at "om") ?_
  rw [show (List.replicate ((kk : Nat) : Int).toNat [V.int 9]).flatten = iV (List.replicate kk 9) from iV_rep kk 9]
  rw [iV_app]
  refine t_addL (vs := iV (List.replicate ahead 3 ++ octs T)) (us := iV (List.replicate kk 9)) rfl rfl (by rw [iV_len, iV_len, List.length_append, List.length_replicate, List.length_replicate]; walk_at "om") ?_
  rw [iV_app, show List.replicate ahead 3 ++ octs T ++ List.replicate kk 9 = dataL ahead T kk from rfl]
  have hdl : (dataL ahead T kk).length ≤ 1000 := by unfold dataL; rw [List.length_append, List.length_append, List.length_replicate, List.length_replicate]; walk_at "om"
  have hdr := dataL_lt ahead T kk
  obtain ⟨pE, S, hpE⟩ := PL' kk (by walk_at "om")
  repeat walk_at "one"
  refine c_bytesL (ns := iZ (dataL ahead T kk)) rfl (fun z hz => ?_) (by simp [iZ]; walk_at "om") ?_
  · obtain ⟨y, hy, rfl⟩ := List.mem_map.mp hz
    have := hdr y hy
    omega
  rw [byteArr_iZ]
  refine r_cons (OKx.r ?_)
  repeat walk_at "one"
  refine c_len (vs := iV (octs T)) hgb (by rw [iV_len]; walk_at "om") ?_
  rw [iV_len]
  repeat walk_at "one"
  rw [show ((ahead : Nat) : Int) + ((octs T).length : Nat) = ((c8 pE : Nat) : Int) from by rw [hpE]; simp]
  refine r_cons (r_if ?_)
  repeat walk_at "one"
  refine OKd.call (f_blocks (dn hn rfl) S ?_)
  refine e_tup ?_
  repeat walk_at "one"
  refine e_lst ?_
  repeat walk_at "one"
  refine e_tup ?_
  repeat walk_at "one"
  refine ⟨by simp, ?_⟩
  repeat walk_at "one"
  refine e_tup ?_
  repeat walk_at "one"
  refine ⟨by simp, ?_⟩
  repeat walk_at "one"
  refine ⟨by simp, ?_⟩
  repeat walk_at "one"
  refine ⟨by simp, ?_⟩
  refine t_neP (blkV first ps pE) ?_ ?_ ?_ ?_ ⟨_, rfl, (fun g => by cases g), fun _ => OKs.r (s_nil ?_)⟩
  · unfold blkV
    refine Fz.tup2 ?_ (by unfold Fz; rfl)
    unfold Fz
    refine .inl ⟨_, rfl, ?_⟩
    unfold Fzs
    refine ⟨_, _, rfl, Fz.tup2 (by unfold Fz; rfl) (Fz.lst first), ?_⟩
    unfold Fzs
    refine ⟨_, _, rfl, Fz.tup2 (by unfold Fz; rfl) ?_, by unfold Fzs; rfl⟩
    unfold Fz
    exact .inl ⟨_, rfl, Fzs.pts ps⟩
  · unfold blkV
    refine Fz.tup2 ?_ (by unfold Fz; rfl)
    unfold Fz
    refine .inl ⟨_, rfl, ?_⟩
    unfold Fzs
    refine ⟨_, _, rfl, Fz.tup2 (by unfold Fz; rfl) (Fz.own hfb (Nat.zero_le _)), ?_⟩
    unfold Fzs
    refine ⟨_, _, rfl, Fz.tup2 (by unfold Fz; rfl) ?_, by unfold Fzs; rfl⟩
    unfold Fz
    exact .inr ⟨p, _, rfl, Nat.zero_le _, hpb, Fzs.pts ps⟩
  · exact blkV_ok first ps pE
  · exact blkV_d first ps pE
  refine r_cons (r_ret (r_cmp (r_call (.ref 341) rfl ?_)))
  repeat walk_at "one"
  refine f_inflated (dn hn rfl) S ?_
  refine e_ife (b_boolV ?_)
  repeat walk_at "one"
  cases hL : layAll first ps with
  | none =>
    rw [hL] at hlay
    have hfar : far = true := hlay
    subst hfar
    refine ⟨_, rfl, fun _ => ?_, fun g => by cases g⟩
    repeat walk_at "one"
    unfold infV
    rw [hL]
    exact t_eqN (h _)
  | some o' =>
    rw [hL] at hlay
    have hlay : (oo, far) = (o', false) := hlay
    cases hlay
    refine ⟨_, rfl, (fun g => by cases g), fun _ => ?_⟩
    refine e_tup ?_
    repeat walk_at "one"
    refine c_bytesL (ns := iZ oo) hob (fun z hz => ?_) (by simp [iZ]; walk_at "om") ?_
    · obtain ⟨y, hy, rfl⟩ := List.mem_map.mp hz
      have := layAll_lt first ps hf256 hin hL y hy
      omega
    rw [byteArr_iZ]
    repeat walk_at "one"
    refine ⟨by simp, ?_⟩
    unfold infV
    rw [hL]
    exact t_eqB (h _)
end

end Mine
section
namespace Mine
open PySem PySem.W PySem.Calls PyProof.Rows
set_option maxRecDepth 100000
/-! bits -/
noncomputable def bv : List Bool → Nat
  | [] => 0
  | b :: r => (if b then 1 else 0) + 2 * bv r
theorem bv_lt : ∀ l : List Bool, bv l < 2 ^ l.length
  | [] => by decide
  | b :: r => by
    have := bv_lt r
    rw [bv, List.length_cons, Nat.pow_succ]
    split <;> omega
theorem bv_app : ∀ a b : List Bool, bv (a ++ b) = bv a + 2 ^ a.length * bv b
  | [], b => by simp [bv]
  | x :: r, b => by
    rw [List.cons_append, bv, bv, bv_app r b, List.length_cons, Nat.pow_succ, Nat.mul_add, ← Nat.mul_assoc, Nat.mul_comm 2 (2 ^ r.length)]
    omega
theorem bv_low (v : Nat) : ∀ k, bv (lowB v k) = v % 2 ^ k
  | 0 => by simp [lowB, bv, Nat.mod_one]
  | k + 1 => by
    have e : lowB v (k + 1) = lowB v k ++ [decide (v / 2 ^ k % 2 = 1)] := by simp [lowB, List.range_succ]
    rw [e, bv_app, bv_low v k, lowB_len, Nat.pow_succ, Nat.mod_mul]
    congr 1
    have := Nat.mod_lt (v / 2 ^ k) (by decide : 0 < 2)
    by_cases h : v / 2 ^ k % 2 = 1
    · simp [bv, h]
    · have : v / 2 ^ k % 2 = 0 := by omega
      simp [bv, this]
/-- the bits of N at p -/
noncomputable def Bits (N p : Nat) (l : List Bool) : Prop := N / 2 ^ p % 2 ^ l.length = bv l
theorem Bits.left {N p : Nat} {a b : List Bool} (h : Bits N p (a ++ b)) : Bits N p a := by
  unfold Bits at *
  rw [List.length_append, bv_app] at h
  have h1 : N / 2 ^ p % 2 ^ (a.length + b.length) % 2 ^ a.length = N / 2 ^ p % 2 ^ a.length := Nat.mod_mod_of_dvd _ (Nat.pow_dvd_pow 2 (Nat.le_add_right _ _))
  rw [← h1, h, Nat.add_mul_mod_self_left, Nat.mod_eq_of_lt (bv_lt a)]
theorem Bits.right {N p : Nat} {a b : List Bool} (h : Bits N p (a ++ b)) : Bits N (p + a.length) b := by
  unfold Bits at *
  rw [List.length_append, bv_app, Nat.pow_add, Nat.mod_mul] at h
  have hl : N / 2 ^ p % 2 ^ a.length = bv a := Bits.left (a := a) (b := b) (by unfold Bits; rw [List.length_append, bv_app, Nat.pow_add, Nat.mod_mul]; exact h)
  rw [hl] at h
  have := Nat.two_pow_pos a.length
  have h2 : 2 ^ a.length * (N / 2 ^ p / 2 ^ a.length % 2 ^ b.length) = 2 ^ a.length * bv b := by omega
  have h3 := Nat.eq_of_mul_eq_mul_left this h2
  rw [Nat.div_div_eq_div_mul, ← Nat.pow_add] at h3
  exact h3
theorem Bits.of {N p X Y Z : Nat} {l : List Bool} (hX : X < 2 ^ p) (hN : N = X + 2 ^ p * (bv l + 2 ^ l.length * Y)) : Bits N p l := by
  unfold Bits
  have h1 : N / 2 ^ p = bv l + 2 ^ l.length * Y := by
    rw [hN, Nat.add_mul_div_left _ _ (Nat.two_pow_pos p), Nat.div_eq_of_lt hX, Nat.zero_add]
  rw [h1, Nat.add_mul_mod_self_left, Nat.mod_eq_of_lt (bv_lt l)]

/-! octets -/
theorem sum_dbl : ∀ l : List Nat, (l.map fun p => 2 ^ (p + 1)).sum = 2 * (l.map fun p => 2 ^ p).sum
  | [] => rfl
  | a :: r => by rw [List.map_cons, List.sum_cons, List.map_cons, List.sum_cons, sum_dbl r, Nat.pow_succ]; omega
theorem bv_sum : ∀ l : List Bool, (((List.range l.length).filter fun p => l.getD p false).map fun p => 2 ^ p).sum = bv l
  | [] => rfl
  | b :: r => by
    have h : ((List.range r.length).map Nat.succ).filter (fun p => (b :: r).getD p false) = ((List.range r.length).filter fun p => r.getD p false).map Nat.succ := by
      rw [List.filter_map]
      congr 1
    rw [List.length_cons, List.range_succ_eq_map, List.filter_cons, h, bv, ← bv_sum r, ← sum_dbl]
    cases b
    · simp [Function.comp_def]
    · simp [Function.comp_def]
theorem octN_at {a b : List Bool} (ha : a.length = 8) : octN (a ++ b) 0 = bv a := by
  rw [← bv_sum, ha]
  unfold octN
  congr 2
  apply List.filter_congr
  intro p hp
  have hp : p < 8 := by simpa using hp
  simp only [Nat.mul_zero, Nat.zero_add, List.getD_eq_getElem?_getD]
  rw [List.getElem?_append_left (by omega)]
theorem octN_next {a b : List Bool} (ha : a.length = 8) (j : Nat) : octN (a ++ b) (j + 1) = octN b j := by
  unfold octN
  congr 2
  apply List.filter_congr
  intro p _
  simp only [List.getD_eq_getElem?_getD]
  rw [List.getElem?_append_right (by omega)]
  congr 2
  omega
theorem octs_cons {a b : List Bool} (ha : a.length = 8) : octs (a ++ b) = bv a :: octs b := by
  unfold octs
  have e : (a ++ b).length / 8 = b.length / 8 + 1 := by rw [List.length_append, ha]; omega
  rw [e, List.range_succ_eq_map, List.map_cons, octN_at ha, List.map_map]
  congr 1
  apply List.map_congr_left
  intro j _
  exact octN_next ha j
theorem num_cons (x : Nat) (l : List Nat) (hx : x < 256) : num (bL (x :: l)) = x + 256 * num (bL l) := by
  show (x.toUInt8).toNat + 256 * num (bL l) = _
  rw [u8 hx]
theorem num_octs : ∀ (q : Nat) (t : List Bool), t.length = 8 * q → num (bL (octs t)) = bv t
  | 0, t, h => by
    have : t = [] := List.length_eq_zero_iff.mp (by omega)
    subst this; rfl
  | q + 1, t, h => by
    have ha : (t.take 8).length = 8 := by rw [List.length_take]; omega
    have e : octs t = bv (t.take 8) :: octs (t.drop 8) := by
      have := octs_cons (a := t.take 8) (b := t.drop 8) ha
      rwa [List.take_append_drop] at this
    have hl := bv_lt (t.take 8)
    rw [ha] at hl
    rw [e, num_cons _ _ hl, num_octs q (t.drop 8) (by rw [List.length_drop]; omega)]
    have := bv_app (t.take 8) (t.drop 8)
    rw [List.take_append_drop, ha] at this
    rw [this]
theorem num_app : ∀ (a b : List Nat), (∀ o ∈ a, o < 256) → num (bL (a ++ b)) = num (bL a) + 2 ^ (8 * a.length) * num (bL b)
  | [], b, _ => by simp [bL, num]
  | x :: r, b, h => by
    have hx := h x List.mem_cons_self
    rw [List.cons_append, num_cons _ _ hx, num_cons _ _ hx, num_app r b (fun o ho => h o (List.mem_cons_of_mem _ ho)), List.length_cons, show 8 * (r.length + 1) = 8 + 8 * r.length from by omega, Nat.pow_add, Nat.mul_add, Nat.mul_assoc]
    omega
theorem num_lt : ∀ (a : List Nat), (∀ o ∈ a, o < 256) → num (bL a) < 2 ^ (8 * a.length)
  | [], _ => by decide
  | x :: r, h => by
    have hx := h x List.mem_cons_self
    have := num_lt r (fun o ho => h o (List.mem_cons_of_mem _ ho))
    rw [num_cons _ _ hx, List.length_cons, show 8 * (r.length + 1) = 8 + 8 * r.length from by omega, Nat.pow_add]
    omega
theorem octs_lt (t : List Bool) : ∀ o ∈ octs t, o < 256 := fun o ho => by
  obtain ⟨z, _, rfl⟩ := List.mem_map.mp ho
  exact octN_lt t z
theorem octs_len (t : List Bool) : (octs t).length = t.length / 8 := by simp [octs]
/-- the bits of the law's data -/
theorem data_bits {ahead k q : Nat} {t : List Bool} (ht : t.length = 8 * q) : Bits (num (bL (dataL ahead t k))) (8 * ahead) t := by
  have hol : (octs t).length = q := by rw [octs_len, ht]; omega
  have h3 : ∀ o ∈ List.replicate ahead 3, o < 256 := fun o ho => by have := (List.mem_replicate.mp ho).2; omega
  have e : num (bL (dataL ahead t k)) = num (bL (List.replicate ahead 3)) + 2 ^ (8 * ahead) * (bv t + 2 ^ t.length * num (bL (List.replicate k 9))) := by
    unfold dataL
    rw [List.append_assoc, num_app _ _ h3, List.length_replicate, num_app _ _ (octs_lt t), num_octs q t ht, hol, ht]
  have hX := num_lt _ h3
  rw [List.length_replicate] at hX
  exact Bits.of (Z := 0) hX e

/-! codes -/
noncomputable def readL : List Nat → Int → Int → Int → List Bool → Option (Int × Nat)
  | t :: r, c, f, pl, b :: bs =>
    if 2 * c + (if b then 1 else 0) - f < t then some (pl + (2 * c + (if b then 1 else 0)) - f, 1)
    else (readL r (2 * c + (if b then 1 else 0)) (2 * (f + t)) (pl + t) bs).map fun x => (x.1, x.2 + 1)
  | _, _, _, _, _ => none
theorem readF_L (N : Nat) : ∀ (l : List Nat) (c f pl : Int) (p : Nat) (bs : List Bool) (q : Int) (n : Nat), Bits N p bs → readL l c f pl bs = some (q, n) → readF N l c f pl p = some (q, p + n)
  | [], c, f, pl, p, bs, q, n, _, h => by simp [readL] at h
  | t :: r, c, f, pl, p, [], q, n, _, h => by simp [readL] at h
  | t :: r, c, f, pl, p, b :: bs, q, n, hb, h => by
    have h1 : Bits N p [b] := Bits.left (b := bs) hb
    have h2 : Bits N (p + 1) bs := Bits.right (a := [b]) hb
    have hbit : ((N / 2 ^ p % 2 ^ 1 : Nat) : Int) = if b then 1 else 0 := by
      unfold Bits at h1
      rw [show [b].length = 1 from rfl] at h1
      rw [h1]
      cases b <;> rfl
    unfold readF
    unfold readL at h
    rw [hbit]
    generalize (if b = true then 1 else 0 : Int) = v at h
    by_cases hc : 2 * c + v - f < t
    · rw [if_pos hc] at h ⊢
      cases h
      rfl
    · rw [if_neg hc] at h ⊢
      obtain ⟨⟨q', n'⟩, e, e2⟩ := Option.map_eq_some_iff.mp h
      cases e2
      rw [readF_L N r _ _ _ (p + 1) bs _ _ h2 e]
      congr 2
      omega
theorem fixT_is : fixT = [0, 0, 0, 0, 0, 0, 0, 24, 152, 112] := by decide +kernel
theorem fixS_is : fixS = List.range' 256 24 ++ List.range 144 ++ List.range' 280 8 ++ List.range' 144 112 := by decide +kernel
theorem fixDT_is : fixDT = [0, 0, 0, 0, 0, 32] := by decide +kernel
theorem fixDS_is : fixDS = List.range 32 := by decide +kernel
noncomputable def litOk (s : Nat) : Bool := match readL [0, 0, 0, 0, 0, 0, 24, 152, 112] 0 0 0 (litB s) with
  | some (q, n) => decide (0 ≤ q) && decide (n = (litB s).length) && decide ((List.range' 256 24 ++ List.range 144 ++ List.range' 280 8 ++ List.range' 144 112)[q.toNat]? = some s)
  | none => false
theorem litOk_all : ((List.range 288).all litOk) = true := by decide +kernel
noncomputable def dstOk (s : Nat) : Bool := match readL [0, 0, 0, 0, 32] 0 0 0 (highB s 5 5) with
  | some (q, n) => decide (0 ≤ q) && decide (n = 5) && decide ((List.range 32)[q.toNat]? = some s)
  | none => false
theorem dstOk_all : ((List.range 32).all dstOk) = true := by decide +kernel
theorem sym_lit {N p s : Nat} (hs : s < 288) (h : Bits N p (litB s)) : SymAt N fixT fixS p s (p + (litB s).length) := by
  have := List.all_eq_true.mp litOk_all s (List.mem_range.mpr hs)
  unfold litOk at this
  split at this
  · rename_i q n e
    simp only [Bool.and_eq_true, decide_eq_true_eq] at this
    obtain ⟨⟨h0, rfl⟩, h2⟩ := this
    refine ⟨q, ?_, h0, by rw [fixS_is]; exact h2⟩
    rw [fixT_is]
    exact readF_L N _ _ _ _ p _ _ _ h e
  · cases this
theorem sym_dst {N p s : Nat} (hs : s < 32) (h : Bits N p (highB s 5 5)) : SymAt N fixDT fixDS p s (p + 5) := by
  have := List.all_eq_true.mp dstOk_all s (List.mem_range.mpr hs)
  unfold dstOk at this
  split at this
  · rename_i q n e
    simp only [Bool.and_eq_true, decide_eq_true_eq] at this
    obtain ⟨⟨h0, rfl⟩, h2⟩ := this
    refine ⟨q, ?_, h0, by rw [fixDS_is]; exact h2⟩
    rw [fixDT_is]
    exact readF_L N _ _ _ _ p _ _ _ h e
  · cases this
theorem Bits.low {N p v k : Nat} (h : Bits N p (lowB v k)) (hv : v < 2 ^ k) : N / 2 ^ p % 2 ^ k = v := by
  unfold Bits at h
  rwa [lowB_len, bv_low, Nat.mod_eq_of_lt hv] at h
theorem part_at {N p : Nat} {x : Pt} (hx : ptIn x) (h : Bits N p (encB x)) : PartF N p (ptV x) (p + (encB x).length) := by
  cases x with
  | lit k => exact .lit (sym_lit (by have : k < 256 := hx; omega) h) hx
  | mat l d =>
    obtain ⟨x1, x2, x3, x4⟩ := hx
    obtain ⟨r1, r2, r3, r4⟩ := lrow_ok x1 x2
    obtain ⟨u1, u2, u3, u4⟩ := drow_ok x3 x4
    have h : Bits N p (litB (257 + lrow l) ++ lowB (l - LBl.getD (lrow l) 0) (LEl.getD (lrow l) 0) ++ highB (drow d) 5 5 ++ lowB (d - DBl.getD (drow d) 0) (DEl.getD (drow d) 0)) := h
    have e : (encB (.mat l d)).length = (litB (257 + lrow l)).length + LEl.getD (lrow l) 0 + 5 + DEl.getD (drow d) 0 := by
      show (litB (257 + lrow l) ++ lowB (l - LBl.getD (lrow l) 0) (LEl.getD (lrow l) 0) ++ highB (drow d) 5 5 ++ lowB (d - DBl.getD (drow d) 0) (DEl.getD (drow d) 0)).length = _
      rw [List.length_append, List.length_append, List.length_append, lowB_len, highB_len, lowB_len]
    have h4 := h.right
    have h3 := h.left.right
    have h2 := h.left.left.right
    have h1 := h.left.left.left
    rw [List.length_append, List.length_append, lowB_len, highB_len] at h4
    rw [List.length_append, lowB_len] at h3
    have getL : ∀ {M : List Nat} {z : Nat}, z < M.length → M[z]? = some (M.getD z 0) := fun {M z} hz => by rw [List.getD_eq_getElem?_getD, List.getElem?_eq_getElem hz]; rfl
    have s1 := sym_lit (s := 257 + lrow l) (by omega) h1
    have s3 := sym_dst (s := drow d) (by omega) h3
    have v2 := h2.low (by omega)
    have v4 := h4.low (by omega)
    have pr := PartIs.pair (N := N) (lt := fixT) (ls := fixS) (dt := fixDT) (ds := fixDS) s1 (getL (M := LBl) (by rw [LB_len]; exact r2)) (getL (M := LEl) (by rw [LE_len]; exact r2)) (by rw [Nat.add_assoc]; exact s3) (getL (M := DBl) (by rw [DB_len]; exact u2)) (getL (M := DEl) (by rw [DE_len]; exact u2))
    rw [v2, show p + ((litB (257 + lrow l)).length + LEl.getD (lrow l) 0) + 5 = p + ((litB (257 + lrow l)).length + LEl.getD (lrow l) 0 + 5) from by omega, v4] at pr
    have el : ((LBl.getD (lrow l) 0 : Nat) : Int) + (l - LBl.getD (lrow l) 0 : Nat) = (l : Nat) := by omega
    have ed : ((DBl.getD (drow d) 0 : Nat) : Int) + (d - DBl.getD (drow d) 0 : Nat) = (d : Nat) := by omega
    rw [el, ed] at pr
    rw [e, show p + ((litB (257 + lrow l)).length + LEl.getD (lrow l) 0 + 5 + DEl.getD (drow d) 0) = p + ((litB (257 + lrow l)).length + LEl.getD (lrow l) 0 + 5) + DEl.getD (drow d) 0 from by omega]
    exact pr
theorem end_at {N p : Nat} (h : Bits N p (List.replicate 7 false)) : PartF N p .none (p + 7) := by
  have e : List.replicate 7 false = litB 256 := by decide +kernel
  rw [e] at h
  have := sym_lit (s := 256) (by decide) h
  rw [← e] at this
  exact .fin this
theorem chain_at {N : Nat} : ∀ (ps : List Pt) (p : Nat), (∀ x ∈ ps, ptIn x) → Bits N p (encs ps ++ List.replicate 7 false) → Chain N p ps (p + (encs ps).length + 7)
  | [], p, _, h => .nil (end_at h)
  | x :: r, p, hx, h => by
    have e : encs (x :: r) = encB x ++ encs r := rfl
    rw [e, List.append_assoc] at h
    have c := chain_at r (p + (encB x).length) (fun y hy => hx y (List.mem_cons_of_mem _ hy)) h.right
    rw [e, List.length_append, show p + ((encB x).length + (encs r).length) + 7 = p + (encB x).length + (encs r).length + 7 from by omega]
    exact .cons (part_at (hx x List.mem_cons_self) h.left) c
end Mine
end

section
namespace Mine
open PySem PySem.W PySem.Calls PyProof.Rows
set_option maxRecDepth 100000
theorem octs_app : ∀ (m : Nat) (a b : List Bool), a.length = 8 * m → octs (a ++ b) = octs a ++ octs b
  | 0, a, b, h => by
    have : a = [] := List.length_eq_zero_iff.mp (by omega)
    subst this; rfl
  | m + 1, a, b, h => by
    have ha : (a.take 8).length = 8 := by rw [List.length_take]; omega
    have e1 : octs a = bv (a.take 8) :: octs (a.drop 8) := by
      have := octs_cons (a := a.take 8) (b := a.drop 8) ha
      rwa [List.take_append_drop] at this
    have e2 : octs (a ++ b) = bv (a.take 8) :: octs (a.drop 8 ++ b) := by
      have := octs_cons (a := a.take 8) (b := a.drop 8 ++ b) ha
      rwa [← List.append_assoc, List.take_append_drop] at this
    rw [e2, octs_app m (a.drop 8) b (by rw [List.length_drop]; omega), e1]; rfl
theorem octs_first : ∀ (first : List Nat) (c : List Bool), (∀ o ∈ first, o < 256) → octs ((first.map fun o => lowB o 8).flatten ++ c) = first ++ octs c
  | [], c, _ => rfl
  | a :: r, c, h => by
    have ha := h a List.mem_cons_self
    rw [List.map_cons, List.flatten_cons, List.append_assoc, octs_cons (lowB_len a 8), octs_first r c (fun o ho => h o (List.mem_cons_of_mem _ ho)), bv_low, Nat.mod_eq_of_lt (by omega)]
    rfl
theorem plain_law : PlainLaw := by
  intro ahead first ps k ha hf hf256 hp hin hk
  have hE8 := txtE_len first ps
  obtain ⟨q, hq⟩ : ∃ q, (txtE first ps).length = 8 * q := ⟨(txtE first ps).length / 8, by omega⟩
  have hol : (octs (txtE first ps)).length = q := by rw [octs_len, hq]; omega
  have B : Bits (num (bL (dataL ahead (txtE first ps) k))) (8 * ahead) (txtE first ps) := data_bits hq
  have hel := encs_len ps
  have ht0 := txt0_len first
  have hpad := (pad_spec (txtZ first ps).length).2
  have hzl : (txtZ first ps).length = 43 + 8 * first.length + (encs ps).length + 7 := by
    unfold txtZ txtP
    rw [List.length_append, List.length_append, List.length_replicate, ht0]
  have hel2 : (txtE first ps).length = (txtZ first ps).length + pad (txtZ first ps).length := by
    unfold txtE
    rw [List.length_append, List.length_replicate]
  have hdl : (bL (dataL ahead (txtE first ps) k)).length = ahead + q + k := by
    unfold bL dataL
    rw [List.length_map, List.length_append, List.length_append, List.length_replicate, List.length_replicate, hol]
  have BZ : Bits (num (bL (dataL ahead (txtE first ps) k))) (8 * ahead) (txtZ first ps) := Bits.left (b := List.replicate (pad (txtZ first ps).length) false) B
  have B0 : Bits (num (bL (dataL ahead (txtE first ps) k))) (8 * ahead) (txt0 first) := Bits.left (b := encs ps) (Bits.left (b := List.replicate 7 false) BZ)
  have BC : Bits (num (bL (dataL ahead (txtE first ps) k))) (8 * ahead + (txt0 first).length) (encs ps ++ List.replicate 7 false) := by
    refine Bits.right (a := txt0 first) ?_
    rw [← List.append_assoc]
    exact BZ
  have C := chain_at ps _ hin BC
  -- the octets
  have hfirst : ((bL (dataL ahead (txtE first ps) k)).drop (ahead + 1 + 4)).take first.length = bL first := by
    obtain ⟨A, hA⟩ : ∃ A, A = List.replicate 8 false ++ lowB first.length 16 ++ lowB (65535 - first.length) 16 := ⟨_, rfl⟩
    have hAl : A.length = 8 * 5 := by rw [hA, List.length_append, List.length_append, List.length_replicate, lowB_len, lowB_len]
    have e : txtE first ps = A ++ ((first.map fun o => lowB o 8).flatten ++ ([true, true, false] ++ (encs ps ++ (List.replicate 7 false ++ List.replicate (pad (txtZ first ps).length) false)))) := by
      rw [hA]
      show (((List.replicate 8 false ++ lowB first.length 16 ++ lowB (65535 - first.length) 16 ++ (first.map fun o => lowB o 8).flatten ++ [true, true, false]) ++ encs ps) ++ List.replicate 7 false) ++ List.replicate (pad (txtZ first ps).length) false = _
      simp only [List.append_assoc]
    have e2 : octs (txtE first ps) = octs A ++ (first ++ octs ([true, true, false] ++ (encs ps ++ (List.replicate 7 false ++ List.replicate (pad (txtZ first ps).length) false)))) := by
      rw [e, octs_app 5 _ _ hAl, octs_first _ _ hf256]
    have hoA : (octs A).length = 5 := by rw [octs_len, hAl]
    unfold dataL
    rw [e2]
    unfold bL
    rw [← List.map_drop, ← List.map_take]
    congr 1
    rw [show ∀ X : List Nat, List.replicate ahead 3 ++ (octs A ++ (first ++ X)) ++ List.replicate k 9 = (List.replicate ahead 3 ++ octs A) ++ (first ++ (X ++ List.replicate k 9)) from fun X => by simp only [List.append_assoc]]
    rw [List.drop_left' (by rw [List.length_append, List.length_replicate, hoA]), List.take_left' rfl]
  generalize hN : num (bL (dataL ahead (txtE first ps) k)) = N at B BZ B0 BC C
  have B0 : Bits N (8 * ahead) (List.replicate 8 false ++ lowB first.length 16 ++ lowB (65535 - first.length) 16 ++ (first.map fun o => lowB o 8).flatten ++ [true, true, false]) := B0
  have f8 := flat8 first
  have h5 := B0.right
  have h3 := B0.left.left.right
  have h2 := B0.left.left.left.right
  have h1 := B0.left.left.left.left
  rw [List.length_append, List.length_append, List.length_append, List.length_replicate, lowB_len, lowB_len, f8] at h5
  rw [List.length_append, List.length_replicate, lowB_len] at h3
  rw [List.length_replicate] at h2
  have h2' := h2.low (by omega)
  have h3' := h3.low (by omega)
  have a1 : Bits N (8 * ahead) [false] := Bits.left (b := List.replicate 7 false) h1
  have a2 : Bits N (8 * ahead + 1) [false, false] := Bits.left (b := List.replicate 5 false) (Bits.right (a := [false]) (b := List.replicate 7 false) h1)
  have a3 := Bits.left (a := [true]) (b := [true, false]) h5
  have a4 := Bits.right (a := [true]) (b := [true, false]) h5
  refine ⟨8 * ahead + (txt0 first).length + (encs ps).length + 7, ⟨?_, (by rw [hN]; exact a1), (by rw [hN]; exact a2), ?_, ?_, hfirst, ?_, ?_, ?_, ?_, ?_, hf256, fun x hx => (hin x hx).ok, ?_⟩, ?_⟩
  · unfold c8; omega
  · rw [show 8 * (ahead + 1) = 8 * ahead + 8 from by omega, hN]; exact h2'
  · rw [show 8 * (ahead + 1) + 16 = 8 * ahead + (8 + 16) from by omega, hN]; exact h3'
  · rw [hdl]; omega
  · rw [show 8 * (ahead + 1 + 4 + first.length) = 8 * ahead + (8 + 16 + 16 + 8 * first.length) from by omega, hN]; exact a3
  · rw [show 8 * (ahead + 1 + 4 + first.length) + 1 = 8 * ahead + (8 + 16 + 16 + 8 * first.length) + [true].length from by simp; omega, hN]; exact a4
  · rw [show 8 * (ahead + 1 + 4 + first.length) + 3 = 8 * ahead + (txt0 first).length from by omega, hN]; exact C
  · rw [hdl]; omega
  · rw [hdl]; omega
  · rw [hol]; unfold c8; omega
end Mine
end

section
namespace Mine
open PySem PySem.W PySem.Calls PyProof.Rows
set_option maxRecDepth 100000
theorem has_int {R : WRecords} {d : WData} (h : WShape.has R d .int = true) : ∃ i, d = .int i := by
  cases d with
  | int i => exact ⟨i, rfl⟩
  | _ => exact absurd (h : false = true) Bool.false_ne_true
theorem has_ints {R : WRecords} : ∀ {xs : List WData}, WShape.hasItems R xs .int = true → ∃ ns : List Int, xs = ns.map .int := by
  intro xs
  induction xs with
  | nil => exact fun _ => ⟨[], rfl⟩
  | cons x r ih =>
    intro h
    obtain ⟨h1, h2⟩ := Bool.and_eq_true_iff.mp (h : (WShape.has R x .int && WShape.hasItems R r .int) = true)
    obtain ⟨i, rfl⟩ := has_int h1
    obtain ⟨ns, rfl⟩ := ih h2
    exact ⟨i :: ns, rfl⟩
theorem has_list {R : WRecords} {d : WData} (h : WShape.has R d (.list .int) = true) : ∃ ns : List Int, d = .list (ns.map .int) := by
  cases d with
  | list xs =>
    obtain ⟨ns, rfl⟩ := has_ints (R := R) (xs := xs) (Bool.or_eq_true_iff.mp (h : (WShape.hasItems R xs .int || false) = true) |>.resolve_right Bool.false_ne_true)
    exact ⟨ns, rfl⟩
  | _ => exact absurd (h : false = true) Bool.false_ne_true
theorem rps_reads {R : WRecords} {cl : Str → Option Addr} {h : Heap} {ρ : Rho} : ∀ {ns : List Int} {vs : List Value} {as : List Addr}, ReadsAllW R cl h vs (ns.map .int) as → Rps ρ h (ns.map .int) vs
  | [], _, _, r => by cases r; exact Rps.nil
  | a :: ns, _, _, r => by
    cases r with
    | cons r1 r2 =>
      cases r1
      exact Rps.cons (by unfold Rp; exact ⟨_, rfl⟩) (rps_reads r2)
theorem law_at {w : World} {h : Heap} {mg : Str → Option Value} (Y : (Mine.KK w.params).In h) (g : h.Ns mainGlobals mg) : mg "law" = some (.ref 346) := by
  have e : nsIn (Mine.KK w.params) mainGlobals "law" = some (some (.ref 346)) := rfl
  obtain ⟨o, es, ep, ho, hd, hk, hm⟩ := g
  obtain ⟨o', h1, h2⟩ : ∃ o', (Mine.KK w.params).lookup mainGlobals = some o' ∧ lookIn "law" o' = some (some (.ref 346)) := ⟨_, rfl, rfl⟩
  have := Y _ _ h1
  rw [ho] at this
  cases this
  rw [lookIn_of hd hk, hm] at h2
  exact Option.some.inj h2
theorem post_ok (ns : List Int) : PySem.Challenge.rw_nn0216_01.row.toRowW.claim.post [.list (ns.map .int)] (.bool true) [.list (ns.map .int)] = true := by
  show (true && WTm.holds [] (.eq .res (.lit (.bool true))) { args := [.list (ns.map .int)], res := some (.bool true), after := [.list (ns.map .int)] }) = true
  rw [Bool.true_and]
  simp [WTm.holds, WTm.value, same]
end Mine
open PySem PySem.W PySem.Calls PyProof.Rows Mine
set_option maxRecDepth 100000 in
set_option maxHeartbeats 8000000 in
theorem PySem.Challenge.cw_nn0216_01_holds : PySem.Challenge.rw_nn0216_01.Holds := by
  refine Mine.hd rfl rfl rfl ?_
  intro w s₀ s₁ mg mb G Y a o pm cd doc dV kV ho hd hcd hD hmg hg args vals as hpre hlay hrd hwl hlo
  have Y : (Mine.KK w.params).In s₁.heap := Y
  have ha : mg "law" = some (.ref a) := hmg
  rw [law_at Y G.T.g] at ha
  cases ha
  obtain ⟨p1, p2⟩ := pre_splitW hpre
  obtain ⟨d, r, rfl, hd1, hd2⟩ := hasAllW_cons p1
  obtain rfl := hasAllW_nil hd2
  obtain ⟨ns, rfl⟩ := has_list hd1
  have hlen : ns.length ≤ 63 := by
    have p2 : WTm.holds [] (.and (.not (.lt (.lit (.int ((63 : Nat) : Int))) (.len (.arg 0)))) (.lit (.bool true))) { args := [.list (ns.map .int)] } = true := p2
    simp [WTm.holds, WTm.value] at p2
    by_cases q : ns.length ≤ 63
    · exact q
    · exfalso
      rw [show less? (WData.int 63) (WData.int ns.length) = some true from (show some (decide ((63 : Int) < (ns.length : Int))) = some true from by rw [decide_eq_true (by omega)])] at p2
      simp at p2
  let W : Wd := { prog := PySem.Challenge.rw_nn0216_01.row.toRowW.prog, w := w, mb := mb, h₀ := s₁.heap, kin := Y, b := G.T.b, hb := G.T.builtins, lim := G.T.nolimit, dig := G.T.nodigits }
  have P : Pre W 12 callerA [] [] s₁ := ⟨⟨by rw [depth_caller]; decide, by rw [units_caller]; decide +kernel⟩, rfl, ⟨[], rfl, fun _ h => nomatch h⟩, ⟨fun _ _ e => e, fun d h => by simp [Dm] at h, by simp [Dm], rfl, fun i l o h => by simp at h⟩⟩
  cases hrd with
  | cons r1 r2 =>
    cases r2
    cases r1 with
    | list ho' hc' hd' hr' =>
      have R : Rps [] s₁.heap [V.lst (ns.map .int)] _ := Rps.one (by unfold Rp; exact ⟨_, _, _, _, rfl, ho', hc', hd', by simp [Dm], rps_reads hr'⟩)
      refine f_law (W := W) plain_law (K := fun v _ => v = .bool true) (X := fun _ => False) (n := 12) (by omega) hlen (fun _ => rfl) callerA [] s₁ _ _ P R ?_ ?_
      · rintro v s' ⟨v', σ', ρ', rfl, t, I, r⟩
        unfold Rp at r
        subst r
        refine ⟨_, rfl, .inl ⟨.bool true, .bool true, [], rfl, fun _ => rfl, .bool true, post_ok ns, fun _ => ⟨List.nodup_nil, by simp⟩⟩, OldK.of_keep I.keep, ?_, ?_⟩
        · obtain ⟨h', t', rfl⟩ := t.same
          rfl
        · obtain ⟨h', t', rfl⟩ := t.same
          exact AllBare.of_eq hg
      · intro e σ' ρ' s' hx
        exact hx.elim
end

