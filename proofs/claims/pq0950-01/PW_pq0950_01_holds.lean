import PyProof.Rows.All
import Wide.All
import OpenK.AllK
import Wide.FinOn
import Lean
import PySem.Challenge.RW_pq0950_01
open PySem PySem.W PyProof.Rows
set_option Elab.async false
set_option maxRecDepth 100000
set_option maxHeartbeats 8000000
set_option pp.deepTerms false
set_option pp.maxSteps 4000
set_option linter.all false
set_option compiler.extract_closed false
namespace Mine
section
def dec : Code → Bool
  | .builtin id _ => Builtin.Bytes.decodersThatHold.contains id
  | _ => false
def Good (Γ : Ctx) : Prop := dec Γ.code = false ∧ ∀ x ∈ Γ.below, dec x.1 = false
theorem Good.enter {Γ : Ctx} {c : Code} {hd : Option Value} {p : Pos} (h : Good Γ) (hc : dec c = false) : Good (Γ.enter c hd p) := ⟨hc, fun x hx => by
  rcases List.mem_cons.mp hx with rfl | hx
  · exact h.1
  · exact h.2 x hx⟩
theorem Good.goto {Γ : Ctx} {c : Code} (h : Good Γ) (hc : dec c = false) : Good (Γ.goto c) := ⟨hc, h.2⟩
abbrev NoE : Value → Shared → Prop := fun _ _ => False
def wpN {α : Type} (M : Model) (A : Around) (t : Sem α) (Q : α → Shared → Prop) (s : Shared) : Prop :=
  ∀ Γ p, Γ.In A → Good Γ → Sem.wp M Γ t (fun a _ s' => Q a s') (fun _ _ _ => False) p s
abbrev OkR (R : Flow → Shared → Prop) : Result → Shared → Prop := fun r s' => match r with | .ok f => R f s' | .error _ => False
def codeN (M : Model) (A : Around) (c : Code) (R : Flow → Shared → Prop) (s : Shared) : Prop :=
  ∀ Γ p, Γ.code = c → Γ.Below A → Good Γ → wpCode M Γ (OkR R) p s
section
variable {α β : Type} {M : Model} {A : Around} {s : Shared}
theorem wpN_of {t : Sem α} {Q : α → Shared → Prop} (h : wpAny M A t Q NoE s) : wpN M A t Q s := fun Γ p hΓ _ => h Γ p hΓ
theorem wpN_mono {t : Sem α} {Q Q' : α → Shared → Prop} (h : wpN M A t Q s) (hQ : ∀ a s, Q a s → Q' a s) : wpN M A t Q' s :=
  fun Γ p hΓ g => Sem.wp_mono M Γ t (fun a _ s => hQ a s) (fun _ _ _ h => h) p s (h Γ p hΓ g)
theorem wpN_bind {m : Sem α} {f : α → Sem β} {Q : β → Shared → Prop} (h : wpN M A m (fun a s' => wpN M A (f a) Q s') s) : wpN M A (m >>= f) Q s := fun Γ p hΓ g => by
  rw [Sem.wp_bind']
  exact Sem.wp_mono M Γ m (fun a p' s' h' => h' Γ p' hΓ g) (fun _ _ _ h' => h') p s (h Γ p hΓ g)
theorem wpN_pure {a : α} {Q : α → Shared → Prop} (h : Q a s) : wpN M A (pure a) Q s := fun _ _ _ _ => h
theorem wpN_standAt {pos : Pos} {Q : Unit → Shared → Prop} (h : Q () s) : wpN M A (standAt pos) Q s := fun _ _ _ _ => h
theorem wpN_point {Q : Unit → Shared → Prop} (h : Q () s) : wpN M A point Q s := fun _ _ _ _ => h
theorem wpN_holding {vs : List Value} {m : Sem α} {Q : α → Shared → Prop} (h : wpN M A m Q s) : wpN M A (holding vs m) Q s := fun Γ p hΓ g => by
  rw [Sem.wp_holding]; exact h Γ p hΓ g
theorem wpN_operate {vs : List Value} {m : Sem Value} {Q : Value → Shared → Prop} (h : wpN M A m Q s) : wpN M A (operate vs m) Q s := fun Γ p hΓ g => by
  rw [Sem.wp_operate]; exact h Γ p hΓ g
theorem wpN_onRaise {m : Sem α} {k : Value → Sem Unit} {Q : α → Shared → Prop} (h : wpN M A m Q s) : wpN M A (m.onRaise k) Q s := fun Γ p hΓ g => by
  rw [Sem.wp_onRaise]
  exact Sem.wp_mono M Γ m (fun _ _ _ h' => h') (fun _ _ _ h' => h'.elim) p s (h Γ p hΓ g)
theorem wpN_attempt {m : Sem α} {Q : Except Value α → Shared → Prop} (h : wpN M A m (fun a => Q (.ok a)) s) : wpN M A m.attempt Q s := fun Γ p hΓ g => by
  rw [Sem.wp_attempt]
  exact Sem.wp_mono M Γ m (fun _ _ _ h' => h') (fun _ _ _ h' => h'.elim) p s (h Γ p hΓ g)
theorem wpN_run {c : Code} {Q : Flow → Shared → Prop} (hc : codeN M A c Q s) (hd : dec c = false) : wpN M A (run c none) Q s := fun Γ p hΓ g => by
  rw [Sem.wp_run]
  have := hc _ p rfl (hΓ.enter c none p (by intro x; cases x)) (g.enter hd)
  refine wpCode_mono (fun r s' h' => ?_) this
  cases r with
  | ok f => exact h'
  | error e => exact h'.elim
theorem wpN_runValue {c : Code} {Q : Value → Shared → Prop} (hc : codeN M A c (fun f s' => match f with | .ret v => Q v s' | _ => False) s) (hd : dec c = false) : wpN M A (runValue c) Q s := fun Γ p hΓ g => by
  rw [Sem.wp_runValue]
  have := hc _ p rfl (hΓ.enter c none p (by intro x; cases x)) (g.enter hd)
  refine wpCode_mono (fun r s' h' => ?_) this
  rcases r with e | (_ | _ | _ | _) <;> exact h'
theorem wpN_call {f : Value} {pos : List Value} {kw : List (Str × Value)} {Q : Value → Shared → Prop} (hc : codeN M A (.call f ⟨pos, kw⟩) (fun f s' => match f with | .ret v => Q v s' | _ => False) s) : wpN M A (call f pos kw) Q s := wpN_runValue hc rfl
theorem codeN_of {c : Code} {R : Flow → Shared → Prop} (h : codeAny M A c (OkR R) s) : codeN M A c R s := fun Γ p hc hΓ _ => h Γ p hc hΓ
theorem codeN_of_tree {c : Code} {R : Flow → Shared → Prop}
    (h : wpN M (A.under c) (M.den c) (fun fin s' => match fin with | .done f => R f s' | .again c' => c'.quiet = true ∧ dec c' = false ∧ codeN M A c' R s') s) : codeN M A c R s := fun Γ p hc hΓ g => by
  rw [wpCode_iff_wp, hc]
  refine Sem.wp_mono M Γ _ (fun fin p' s' h' => ?_) (fun _ _ _ h' => h'.elim) p s (h Γ p (hc ▸ hΓ.in) g)
  cases fin with
  | done f => exact h'
  | again c' => exact ⟨h'.1, h'.2.2 (Γ.goto c') p' rfl (hΓ.goto c') (g.goto h'.2.1)⟩
theorem codeN_mono {c : Code} {R R' : Flow → Shared → Prop} (h : codeN M A c R s) (hR : ∀ f s, R f s → R' f s) : codeN M A c R' s := fun Γ p hc hΓ g =>
  wpCode_mono (fun r s' h' => by cases r with | ok f => exact hR _ _ h' | error e => exact h') (h Γ p hc hΓ g)
theorem codeN_loop {c : Code} {R : Flow → Shared → Prop} (hq : c.quiet = true) (hd : dec c = false) (I : Nat → Shared → Prop)
    (turn : ∀ n s, I n s → wpN M (A.under c) (M.den c) (fun fin s' => match fin with | .done f => R f s' | .again c' => c' = c ∧ ∃ m, m < n ∧ I m s') s)
    (n : Nat) (h : I n s) : codeN M A c R s := by
  induction n using Nat.strongRecOn generalizing s with
  | ind n ih =>
    refine codeN_of_tree (wpN_mono (turn n s h) fun fin s' hf => ?_)
    cases fin with
    | done f => exact hf
    | again c' => obtain ⟨rfl, m, hm, hI⟩ := hf; exact ⟨hq, hd, ih m hm hI⟩
theorem wpN_stackAny_false {f : Code × Pos → Bool} {g : List Code} {Q : Bool → Shared → Prop} (hg : A.guards = some g) (hf : ∀ c p, c.isGuard = false → dec c = false → f (c, p) = false) (hno : ∀ c ∈ g, ∀ p, f (c, p) = false) (h : Q false s) :
    wpN M A (do return (← stack).any f) Q s := fun Γ p hΓ gd => by
  show Q (((Γ.code, p) :: Γ.below).any f) s
  have all : ∀ (l : List (Code × Pos)), (∀ x ∈ l, dec x.1 = false) → (∀ c ∈ guardsOf l, ∀ p, f (c, p) = false) → l.any f = false := by
    intro l
    induction l with
    | nil => intro _ _; rfl
    | cons x l ih =>
      obtain ⟨c, q⟩ := x
      intro h1 h2
      rw [guardsOf_cons] at h2
      rw [List.any_cons, ih (fun y hy => h1 y (.tail _ hy)) (fun c' hc' => h2 c' (List.mem_append_right _ hc')), Bool.or_false]
      cases hgd : c.isGuard with
      | false => exact hf c q hgd (h1 (c, q) (.head _))
      | true => exact h2 c (List.mem_append_left _ (by simp [Code.guards, hgd])) q
  rw [all _ (fun x hx => by
    rcases List.mem_cons.mp hx with rfl | hx
    · exact gd.1
    · exact gd.2 x hx) (fun c hc p' => hno c (by rw [← hΓ.2.2.2.1 g hg, ← guardsOf_cons Γ.code p]; exact hc) p')]
  exact h
end
section
open Sem (wp)
open PySem.Calls
theorem good_caller : Good ⟨.builtin "claim.caller" {}, none, none, [], none⟩ := ⟨by show Builtin.Bytes.decodersThatHold.contains "claim.caller" = false; decide +kernel, fun _ h => nomatch h⟩
theorem thread_endsN {prog : Program} {w : World} {t : Sem Fin} {s : Shared} {R : Result → Shared → Prop} (hreg : s.asleep)
    (h : wpN (model prog w) callerA t (fun fin s' => ∃ f, fin = .done f ∧ (R (.ok f) s' ∧ leftWithCleanup s'.gens = false)) s) :
    ∃ n r s' s'', runN (denote table) prog w n s ⟨t, .builtin "claim.caller" {}, default, []⟩ = .halted (outcomeOf r) s' ∧
      schedN (denote table) prog w n (.single s ⟨t, .builtin "claim.caller" {}, default, []⟩) = .halted (outcomeOf r) s' ∧ s'.forget = s''.forget ∧ R r s'' := by
  have h1 := h _ default caller_in good_caller
  have h2 : wp (model prog w) ⟨.builtin "claim.caller" {}, none, none, [], none⟩ t (Sem.finPost (model prog w) ⟨.builtin "claim.caller" {}, none, none, [], none⟩ (fun r s' => R r s' ∧ leftWithCleanup s'.gens = false)) (fun e _ s' => R (.error e) s' ∧ leftWithCleanup s'.gens = false) default s :=
    Sem.wp_mono _ _ t (fun fin p' s' h' => by obtain ⟨f, rfl, hf⟩ := h'; exact hf) (fun _ _ _ h' => h'.elim) default s h1
  obtain ⟨n, r, s₁, s₂, hs, hn, hfo, hR⟩ := wp_halts_full (M := model prog w) (R := R) hreg h2
  exact ⟨n, r, s₂, s₁, hn, hs, hfo, hR⟩
theorem callFromN {c : ClaimW} {tree : List Value → Sem Fin} {w : World} {s : Shared} {free : Addr → Prop} {gens : Prop} {kept : Heap → Prop} (hz : s.asleep) (hgens : s.gens = #[])
    (hspec : ∀ args, c.pre args = true → WData.layableAll args = true → ∀ ord : List DictEntry → List DictEntry, (∀ l, (ord l).Perm l) →
      ∃ vs s₁, layAllW c.records (classAt s.heap) w.params ord args s = some (vs, s₁) ∧
        wpN (model c.prog w) callerA (tree vs) (fun fin s' => ∃ f, fin = .done f ∧ (c.Ends s args vs s₁ (.ok f) s' ∧ s'.os = s.os ∧ AllBare s'.gens ∧ kept s'.heap)) s₁) :
    c.CallFrom (fun vs => ⟨tree vs, .builtin "claim.caller" {}, default, []⟩) w free gens kept s := by
  intro args h1 h2 ord h3
  obtain ⟨vs, s₁, hlaid, hcode⟩ := hspec args h1 h2 ord h3
  have hal := layAllW_rest _ _ _ hlaid
  obtain ⟨k, r, s', s'', hrun, hsched, hfo, hR⟩ := thread_endsN (prog := c.prog) (w := w) (t := tree vs) (s := s₁) (R := fun r s' => c.Ends s args vs s₁ r s' ∧ s'.os = s.os ∧ kept s'.heap)
    (Shared.asleep_of_life hal.2.2.2 hz) (wpN_mono hcode fun fin s' hf => by
      obtain ⟨f, e, a, b, d, k⟩ := hf
      exact ⟨f, e, ⟨a, b, k⟩, leftWithCleanup_false_of_bare d⟩)
  obtain ⟨hcase, hos, hkp⟩ := hR
  obtain ⟨eh, _, _, eo, _⟩ := Shared.forget_eq hfo
  have hcase' := hcase.congr eh
  have hkp' : kept s'.heap := by rw [eh]; exact hkp
  have hos' : s'.os = s.os := eo.trans hos
  have hlife : s'.heap.life = s.heap.life := (runN_life _ _ _ hrun).trans hal.2.2.2
  refine ⟨vs, s₁, hlaid, k, _, s', hsched, ?_, (fun _ i x hx => by rw [hgens] at hx; simp at hx), hkp', by rw [hlife], Shared.rest_eq hos'⟩
  rcases hcase' with ⟨v, rfl, d1, d2, d3, d4, d5⟩ | ⟨e, ob, cls, rfl, d1, d2, d3, d4, d5⟩
  · exact .inl ⟨v, rfl, d1, d2, d3, fun b o y _ => d4 b o y, d5⟩
  · exact .inr ⟨e, ob, cls, rfl, d1, d2, d3, d4, fun b o y _ => d5 b o y⟩
abbrev WalkX (q : Program) (loose : List Str) (XP : (Str → Option Value) → Heap → Prop) (YP : World → Heap → Prop) (r : RowW) (d : DefRec) (kwd : List (Str × Expr)) (run : Value → List Value → Sem Value) : Prop :=
  ∀ (w : World) (s₀ s₁ : Shared) (mg mb : Str → Option Value), Ground q loose r.records XP w s₀ mg mb s₁.heap → YP w s₁.heap → ∀ (a : Addr) (o : Obj) (pm cd doc dV kV : Value), s₁.heap.get? a = some o →
    o.data = .func { docDef d.name d.params d.body d.scope pm cd doc with defaults := dV, kwdefaults := kV } → s₁.heap.CodeRec cd d.name → Dflts mg s₁.heap d.params kwd dV kV → mg d.name = some (.ref a) → s₁.gens = #[] →
    ∀ (args : List WData) (vals : List Value) (as : List Addr), r.claim.pre args = true → WData.layableAll args = true → ReadsAllW r.records (classAt s₀.heap) s₁.heap vals args as → WellAll w.params s₁.heap vals args → (∀ a ∈ as, (a == sysModules) = false) →
      wpN (model r.prog w) callerA (run (.ref a) vals) (fun v s' => GoodWG r.claim (classAt s₀.heap) (ExcName.means s₀.heap) args s₁ (.ok (.ret v)) s') s₁
theorem holds_openX {r : OpenRow} {q : Program} {loose : List Str} {Xt : Shared → Bool} {XP : (Str → Option Value) → Heap → Prop} {α : Type} {Yf : Shared → α} {Ya : World → α} {YP : World → Heap → Prop} {d : DefRec} {kwd : List (Str × Expr)} {N : Nat}
    (left : LeftO r.prog q loose Xt Yf Ya N) (hY : ∀ w s, Yf s = Ya w → YP w s.heap) (hYk : ∀ w h h', YP w h → (∀ b o, h.get? b = some o → h'.get? b = some o) → YP w h')
    (hX : ∀ s, Xt s = true → XP (s.heap.nsMap mainGlobals) s.heap) (hXk : ∀ mg h h', XP mg h → (∀ b o, h.get? b = some o → h'.get? b = some o) → XP mg h')
    (hdef : defOf q r.name = some (d, kwd)) (hp : r.prog.theDef r.name = some (d.params, d.body, d.scope)) (hk : kwWritten? d.params.kwonlyargs d.params.kw_defaults = some kwd) (hRf : ∀ s, Xt s = true → RecFacts r.records s.heap) (hwr : (!r.writes || r.records.isEmpty) = true)
    (k1 : r.wellSaid = true) (ok : (chainsOk q && opensWell r.prog && (frees r.toRowW && r.within.isEmpty)) = true) (hb : r.prog.bare) (hw : r.toRowW.promised)
    (call : WalkX q loose XP YP r.toRowW d kwd fun f vs => PySem.call f vs) : r.Holds := by
  have ok0 := ok
  obtain ⟨ok, k5⟩ := Bool.and_eq_true_iff.mp ok
  obtain ⟨hch, o1⟩ := Bool.and_eq_true_iff.mp ok
  obtain ⟨k5, k6⟩ := Bool.and_eq_true_iff.mp k5
  obtain ⟨hsame, hu, ha, hap, hm⟩ := frees_parts k5
  refine ⟨k1, hw, ⟨hb, o1, by show r.makers.map _ = []; rw [hm]; rfl⟩, hw.witness, fun w => ⟨(left.behind hX hch w).1, fun s' hs' => ?_⟩⟩
  obtain ⟨s₀, hf, hg0, s, hT, hz, hgens, hg, G00, y⟩ := (left.behind (XP := fun mg h => XP mg h ∧ RecFacts r.records h) (fun s hs => ⟨hX s hs, hRf s hs⟩) hch w).2 s' hs'
  have G0 : Ground q loose [] XP w s (s.heap.nsMap mainGlobals) (s.heap.nsMap builtinsNs) s.heap := ⟨G00.T, G00.B, G00.D, G00.TE, G00.TD, G00.W, G00.X.1, G00.cls, G00.has, G00.apart, G00.once, G00.K⟩
  have RF := G00.X.2
  have hT' := hT
  have pin : ∀ n ∈ (if r.pinned then [r.name] else []), isTheDefsW r.prog s.heap n := fun n hn => by
    obtain rfl : n = r.name := by split at hn <;> simp_all
    exact pinned_of_view hg G0 hdef hp hk
  refine ⟨s₀, hf, hg0, s, hT, pin, RF.1, RF.2.1, ?_⟩
  have hgens' : s.gens = #[] := Array.eq_empty_of_size_eq_zero (beq_iff_eq.mp hgens)
  have G : Ground q loose r.records XP w s _ _ s.heap := RF.ground G0
  refine callFromN (c := r.toRowW.claim) hz hgens' fun args hpre hlay ord hord => ?_
  obtain ⟨⟨vs, s₁⟩, hlaid⟩ := Option.isSome_iff_exists.mp (layAllW_isSome (P := w.params) (ord := ord) G.has args r.args s (pre_splitW hpre).1)
  have keeps := layAllW_keeps _ _ _ hlaid
  have hal := layAllW_rest _ _ _ hlaid
  obtain ⟨as, hrd, hin, hold⟩ := reads_layAllW hord _ _ _ hlaid hlay s₁.heap (fun _ _ e => e)
  have L : Laid r.records w s s₁ args vs as := ⟨⟨ord, hord, hlaid⟩, hrd, hin, hold, keeps, hal.1.trans hgens', hal.2.2.1⟩
  have G₁ := G.keeps hXk keeps
  have hi := ident_freeW hu ha hap
  have hwi : r.toRowW.claim.within = [] := List.isEmpty_iff.mp k6
  obtain ⟨a, o, pm, cd, doc, dV, kV, p1, p2, p3, p4, p5⟩ := G₁.fn hdef
  have h := call w s s₁ _ _ G₁ (hYk _ _ _ (hY w s y) keeps) a o pm cd doc dV kV p2 p3 p4 p5 (defOf_name hdef ▸ p1) L.gens args vs as hpre hlay L.reads L.well (L.low G.low)
  refine ⟨vs, s₁, hlaid, ?_⟩
  refine wpN_bind (wpN_of (wpAny_nsGet G₁.T.g ?_))
  rw [p1]
  refine wpN_bind (wpN_mono h fun v s' g => wpN_pure ?_)
  have z := g.laid (c := r.toRowW.claim) hsame hwi hi L
  exact ⟨_, rfl, z.1, z.2.1, z.2.2, fun q => ⟨namesKept_of hT' hg r.keeps keeps g.2.1.old, noTable hwr q⟩⟩

end
theorem roomD {d k j : Nat} (h : d + k < recursionLimit) (hj : Nat.ble (1 + j) k = true) : d + 1 + j < recursionLimit := by
  have := Nat.le_of_ble_eq_true hj
  omega
theorem roomU {u k j : Nat} (h : u + 8 * k < cLine) (hj : Nat.ble (3 + j) (8 * k) = true) : u + 3 + j < cLine := by
  have := Nat.le_of_ble_eq_true hj
  omega
section
variable {tb : String → Option Builtin} {p : Program} {w : World} {n₀ : Nat} {ann : Option Value}
theorem end_through {t : Thread} {f : Flow} (h : endAt 0 t = some f) : through t = true := by
  obtain ⟨cur, code, pos, st⟩ := t
  cases st with
  | cons a b => simp [endAt] at h
  | nil =>
    cases cur with
    | pure x => cases x with
      | done f => rfl
      | again c => simp [endAt] at h
    | _ => simp [endAt] at h
theorem end_not {t : Thread} (h : endAt 0 t = none) : through t = false := by
  obtain ⟨cur, code, pos, st⟩ := t
  cases st with
  | cons a b => rfl
  | nil =>
    cases cur with
    | pure x => cases x with
      | done f => simp [endAt] at h
      | again c => rfl
    | _ => rfl
theorem top_of_seg : ∀ {n : Nat} {s s' : Shared} {t : Thread} {f : Flow} {c : Code} {q : Pos}, segRun tb p w n₀ ann 0 n s t = some (f, s', c, q) → topRun tb p w n₀ ann n s t = some s'
  | 0, _, _, _, _, _, _, h => by cases h
  | n + 1, s, s', t, f, c, q, h => by
    unfold segRun at h
    unfold topRun
    cases he : endAt 0 t with
    | some x =>
      rw [he] at h
      simp only [Option.some.injEq, Prod.mk.injEq] at h
      rw [end_through he, h.2.1]
    | none =>
      rw [he] at h
      rw [end_not he]
      cases hk : stepOk n₀ ann t with
      | false => rw [hk] at h; cases h
      | true =>
        rw [hk] at h
        cases hs : step (denote tb) p w s t with
        | halt o s₂ => rw [hs] at h; cases h
        | go s₂ t₂ => rw [hs] at h; exact top_of_seg h
end
noncomputable def bootT (P : Params) : BT := ((((((((((BT.nil.ins 0 (boot_o_0 P)).ins 1 (boot_o_1 P)).ins 2 (boot_o_2 P)).ins 3 (boot_o_3 P)).ins 4 (boot_o_4 P)).ins 5 (boot_o_5 P)).ins 6 (boot_o_6 P)).ins 7 (boot_o_7 P)).ins 8 (boot_o_8 P)).ins 9 (boot_o_9 P)).ins 10 (boot_o_10 P)
theorem boot_abs (P : Params) : absHeap (bootT P) 11 (boot_heap P).life = boot_heap P := by kernel_rfl
def lookT {β : Type} (p : Program) (seen : Shared → β) {α : Type} (Yf : Shared → α) (H : Heap) (s : SharedT) :=
  ((staticsOk (importedModules p.main.body) H s.abs.heap && namesBound p s.abs.heap && gensDone s.abs && laidKept H s.abs.heap), seen s.abs, Yf s.abs)
theorem left_of_tree {p q : Program} {loose : List Str} {Xt : Shared → Bool} {α : Type} {Yf : Shared → α} {Ya : World → α} {N : Nat} {g0 : Bool}
    (e : opening p = plainProg p.main.scope.names) (hN : Nat.ble 600 N = true) (f : ∀ s, fenceModules? p s = some s)
    (size : ∀ P : Params, ((boot_heap P).isNs mainGlobals, (boot_heap P).objs.size, (boot_heap P).nsMap mainGlobals "__annotations__") = (true, 11, some (Value.ref 6)))
    (run : ∀ (w : World) (os : OsState), (segRunT treeTable p w 11 (some (Value.ref 6)) 0 N ⟨bootT w.params, 11, (boot_heap w.params).life, Array.mk [], boot_drawn, boot_toks, os⟩ (topStub p)).map
      (fun r => lookT p (openSeen q loose (importedModules p.main.body) Xt g0) Yf (boot_heap w.params) r.2.1) = some (true, openGood q loose, Ya w)) : LeftO p q loose Xt Yf Ya N g0 := fun w => by
  obtain ⟨⟨h, gs, d, k, os⟩, e1, e'⟩ := Option.map_eq_some_iff.mp (boot_open e hN f w)
  obtain ⟨rfl, rfl, rfl, rfl⟩ : h = boot_heap w.params ∧ gs = Array.mk [] ∧ d = boot_drawn ∧ k = boot_toks := by simpa using e'
  obtain ⟨z1, z2, z3⟩ : _ ∧ _ ∧ _ := by simpa only [Prod.mk.injEq] using size w.params
  obtain ⟨⟨fl, r, c, pq⟩, hr, hl⟩ := Option.map_eq_some_iff.mp (run w os)
  have hr2 := top_of_seg (segRun_of hr)
  have hab : (⟨bootT w.params, 11, (boot_heap w.params).life, Array.mk [], boot_drawn, boot_toks, os⟩ : SharedT).abs = ⟨boot_heap w.params, Array.mk [], boot_drawn, boot_toks, os⟩ := by
    show (⟨absHeap (bootT w.params) 11 (boot_heap w.params).life, _, _, _, _⟩ : Shared) = _
    rw [boot_abs]
  rw [hab] at hr2
  unfold lookT at hl
  simp only [Prod.mk.injEq] at hl
  obtain ⟨l1, l2, l3⟩ := hl
  have t : topFrom treeTable p w N ⟨boot_heap w.params, Array.mk [], boot_drawn, boot_toks, os⟩ = some r.abs := by
    unfold topFrom
    dsimp only
    rw [z1, z2, z3, hr2]
    show (match staticsOk (importedModules p.main.body) (boot_heap w.params) r.abs.heap && namesBound p r.abs.heap && gensDone r.abs && laidKept (boot_heap w.params) r.abs.heap with | true => _ | false => _) = _
    rw [l1]
  unfold openEnds
  rw [e1]
  show (topFrom treeTable p w N _).map _ = _
  rw [t]
  exact congrArg some (Prod.ext l2 l3)
theorem size_ok : ∀ P : Params, ((boot_heap P).isNs mainGlobals, (boot_heap P).objs.size, (boot_heap P).nsMap mainGlobals "__annotations__") = (true, 11, some (Value.ref 6)) := fun P => by kernel_rfl
theorem open_ok : opening PySem.Challenge.pw_pq0950_01 = plainProg PySem.Challenge.pw_pq0950_01.main.scope.names := by kernel_rfl
theorem fence_ok : ∀ s, fenceModules? PySem.Challenge.pw_pq0950_01 s = some s := fun s => by kernel_rfl
def hd.view_39 : Program := PySem.W.view PySem.Challenge.pw_pq0950_01 [0, 2, 3, 4, 5, 6, 8, 9, 10, 11, 12, 13, 15, 16, 17, 18, 19, 20, 22, 23, 24, 25, 26, 27, 28, 29, 30, 31, 32, 33, 34, 35, 37, 38, 39, 40, 41, 42, 43, 44, 45, 46, 47, 48, 49, 50, 51, 52, 53, 54, 55, 56, 61, 62, 63, 64, 65, 66, 67, 68, 70, 71, 72, 73, 74, 75, 76, 77, 78, 79, 81, 82, 83]
noncomputable def hd.heap_39 : Params → Frag := fun P => by
  refine' (fun (α : Prop) (l : Frag) (_ : α) => l) (@Eq (List Stmt) PySem.Challenge.pw_pq0950_01.main.body ((Stmt.FunctionDef _ ?a0 ?b0 _ _ _ ?c0 _ _ _) ::
    _ ::
    (Stmt.ClassDef _ _ _ [Stmt.FunctionDef _ ?a2x0 ?b2x0 _ _ _ ?c2x0 _ _ _, Stmt.FunctionDef _ ?a2x1 ?b2x1 _ _ _ ?c2x1 _ _ _] _ _ _ _ _ _ _) ::
    (Stmt.ClassDef _ _ _ [_] _ _ _ _ _ _ _) ::
    (Stmt.ClassDef _ _ _ [_] _ _ _ _ _ _ _) ::
    (Stmt.ClassDef _ _ _ [_] _ _ _ _ _ _ _) ::
    (Stmt.ClassDef _ _ _ [_] _ _ _ _ _ _ _) ::
    _ ::
    (Stmt.FunctionDef _ ?a8 ?b8 _ _ _ ?c8 _ _ _) ::
    (Stmt.FunctionDef _ ?a9 ?b9 _ _ _ ?c9 _ _ _) ::
    (Stmt.FunctionDef _ ?a10 ?b10 _ _ _ ?c10 _ _ _) ::
    (Stmt.FunctionDef _ ?a11 ?b11 _ _ _ ?c11 _ _ _) ::
    (Stmt.FunctionDef _ ?a12 ?b12 _ _ _ ?c12 _ _ _) ::
    (Stmt.FunctionDef _ ?a13 ?b13 _ _ _ ?c13 _ _ _) ::
    _ ::
    _ ::
    (Stmt.FunctionDef _ ?a16 ?b16 _ _ _ ?c16 _ _ _) ::
    (Stmt.FunctionDef _ ?a17 ?b17 _ _ _ ?c17 _ _ _) ::
    (Stmt.FunctionDef _ ?a18 ?b18 _ _ _ ?c18 _ _ _) ::
    (Stmt.FunctionDef _ ?a19 ?b19 _ _ _ ?c19 _ _ _) ::
    (Stmt.FunctionDef _ ?a20 ?b20 _ _ _ ?c20 _ _ _) ::
    _ ::
    _ ::
    _ ::
    _ ::
    (Stmt.FunctionDef _ ?a25 ?b25 _ _ _ ?c25 _ _ _) ::
    (Stmt.FunctionDef _ ?a26 ?b26 _ _ _ ?c26 _ _ _) ::
    (Stmt.FunctionDef _ ?a27 ?b27 _ _ _ ?c27 _ _ _) ::
    (Stmt.FunctionDef _ ?a28 ?b28 _ _ _ ?c28 _ _ _) ::
    (Stmt.FunctionDef _ ?a29 ?b29 _ _ _ ?c29 _ _ _) ::
    (Stmt.FunctionDef _ ?a30 ?b30 _ _ _ ?c30 _ _ _) ::
    (Stmt.FunctionDef _ ?a31 ?b31 _ _ _ ?c31 _ _ _) ::
    (Stmt.FunctionDef _ ?a32 ?b32 _ _ _ ?c32 _ _ _) ::
    (Stmt.FunctionDef _ ?a33 ?b33 _ _ _ ?c33 _ _ _) ::
    (Stmt.FunctionDef _ ?a34 ?b34 _ _ _ ?c34 _ _ _) ::
    (Stmt.FunctionDef _ ?a35 ?b35 _ _ _ ?c35 _ _ _) ::
    _ ::
    _ ::
    _ ::
    _ ::
    _ ::
    _ ::
    _ ::
    _ ::
    _ ::
    (Stmt.ClassDef _ _ _ [Stmt.FunctionDef _ ?a45x0 ?b45x0 _ _ _ ?c45x0 _ _ _, Stmt.FunctionDef _ ?a45x1 ?b45x1 _ _ _ ?c45x1 _ _ _] _ _ _ _ _ _ _) ::
    (Stmt.FunctionDef _ ?a46 ?b46 _ _ _ ?c46 _ _ _) ::
    (Stmt.FunctionDef _ ?a47 ?b47 _ _ _ ?c47 _ _ _) ::
    (Stmt.FunctionDef _ ?a48 ?b48 _ _ _ ?c48 _ _ _) ::
    (Stmt.FunctionDef _ ?a49 ?b49 _ _ _ ?c49 _ _ _) ::
    (Stmt.FunctionDef _ ?a50 ?b50 _ _ _ ?c50 _ _ _) ::
    (Stmt.FunctionDef _ ?a51 ?b51 _ _ _ ?c51 _ _ _) ::
    (Stmt.FunctionDef _ ?a52 ?b52 _ _ _ ?c52 _ _ _) ::
    (Stmt.FunctionDef _ ?a53 ?b53 _ _ _ ?c53 _ _ _) ::
    (Stmt.ClassDef _ _ _ [Stmt.FunctionDef _ ?a54x0 ?b54x0 _ _ _ ?c54x0 _ _ _, Stmt.FunctionDef _ ?a54x1 ?b54x1 _ _ _ ?c54x1 _ _ _, Stmt.FunctionDef _ ?a54x2 ?b54x2 _ _ _ ?c54x2 _ _ _, Stmt.FunctionDef _ ?a54x3 ?b54x3 _ _ _ ?c54x3 _ _ _, Stmt.FunctionDef _ ?a54x4 ?b54x4 _ _ _ ?c54x4 _ _ _, Stmt.FunctionDef _ ?a54x5 ?b54x5 _ _ _ ?c54x5 _ _ _, Stmt.FunctionDef _ ?a54x6 ?b54x6 _ _ _ ?c54x6 _ _ _, Stmt.FunctionDef _ ?a54x7 ?b54x7 _ _ _ ?c54x7 _ _ _, Stmt.FunctionDef _ ?a54x8 ?b54x8 _ _ _ ?c54x8 _ _ _, Stmt.FunctionDef _ ?a54x9 ?b54x9 _ _ _ ?c54x9 _ _ _, Stmt.FunctionDef _ ?a54x10 ?b54x10 _ _ _ ?c54x10 _ _ _, Stmt.FunctionDef _ ?a54x11 ?b54x11 _ _ _ ?c54x11 _ _ _, Stmt.FunctionDef _ ?a54x12 ?b54x12 _ _ _ ?c54x12 _ _ _, Stmt.FunctionDef _ ?a54x13 ?b54x13 _ _ _ ?c54x13 _ _ _, Stmt.FunctionDef _ ?a54x14 ?b54x14 _ _ _ ?c54x14 _ _ _, Stmt.FunctionDef _ ?a54x15 ?b54x15 _ _ _ ?c54x15 _ _ _, Stmt.FunctionDef _ ?a54x16 ?b54x16 _ _ _ ?c54x16 _ _ _, Stmt.FunctionDef _ ?a54x17 ?b54x17 _ _ _ ?c54x17 _ _ _, Stmt.FunctionDef _ ?a54x18 ?b54x18 _ _ _ ?c54x18 _ _ _, Stmt.FunctionDef _ ?a54x19 ?b54x19 _ _ _ ?c54x19 _ _ _, Stmt.FunctionDef _ ?a54x20 ?b54x20 _ _ _ ?c54x20 _ _ _, Stmt.FunctionDef _ ?a54x21 ?b54x21 _ _ _ ?c54x21 _ _ _, Stmt.FunctionDef _ ?a54x22 ?b54x22 _ _ _ ?c54x22 _ _ _, Stmt.FunctionDef _ ?a54x23 ?b54x23 _ _ _ ?c54x23 _ _ _, Stmt.FunctionDef _ ?a54x24 ?b54x24 _ _ _ ?c54x24 _ _ _] _ _ _ _ _ _ _) ::
    (Stmt.FunctionDef _ ?a55 ?b55 _ _ _ ?c55 _ _ _) ::
    (Stmt.FunctionDef _ ?a56 ?b56 _ _ _ ?c56 _ _ _) ::
    (Stmt.FunctionDef _ ?a57 ?b57 _ _ _ ?c57 _ _ _) ::
    (Stmt.FunctionDef _ ?a58 ?b58 _ _ _ ?c58 _ _ _) ::
    (Stmt.FunctionDef _ ?a59 ?b59 _ _ _ ?c59 _ _ _) ::
    _ ::
    (Stmt.FunctionDef _ ?a61 ?b61 _ _ _ ?c61 _ _ _) ::
    (Stmt.FunctionDef _ ?a62 ?b62 _ _ _ ?c62 _ _ _) ::
    (Stmt.FunctionDef _ ?a63 ?b63 _ _ _ ?c63 _ _ _) ::
    (Stmt.FunctionDef _ ?a64 ?b64 _ _ _ ?c64 _ _ _) ::
    (Stmt.FunctionDef _ ?a65 ?b65 _ _ _ ?c65 _ _ _) ::
    (Stmt.FunctionDef _ ?a66 ?b66 _ _ _ ?c66 _ _ _) ::
    (Stmt.FunctionDef _ ?a67 ?b67 _ _ _ ?c67 _ _ _) ::
    (Stmt.FunctionDef _ ?a68 ?b68 _ _ _ ?c68 _ _ _) ::
    _ ::
    _ ::
    (Stmt.FunctionDef _ ?a71 ?b71 _ _ _ ?c71 _ _ _) ::
    (Stmt.FunctionDef _ ?a72 ?b72 _ _ _ ?c72 _ _ _) ::
    (Stmt.FunctionDef _ ?a73 ?b73 _ _ _ ?c73 _ _ _) ::
    (Stmt.FunctionDef _ ?a74 ?b74 _ _ _ ?c74 _ _ _) ::
    (Stmt.FunctionDef _ ?a75 ?b75 _ _ _ ?c75 _ _ _) ::
    (Stmt.FunctionDef _ ?a76 ?b76 _ _ _ ?c76 _ _ _) ::
    (Stmt.FunctionDef _ ?a77 ?b77 _ _ _ ?c77 _ _ _) ::
    (Stmt.FunctionDef _ ?a78 ?b78 _ _ _ ?c78 _ _ _) ::
    (Stmt.FunctionDef _ ?a79 ?b79 _ _ _ ?c79 _ _ _) ::
    _ ::
    (Stmt.FunctionDef _ ?a81 ?b81 _ _ _ ?c81 _ _ _) ::
    (Stmt.FunctionDef _ ?a82 ?b82 _ _ _ ?c82 _ _ _) ::
    (Stmt.FunctionDef _ ?a83 ?b83 _ _ _ ?c83 _ _ _) :: [])) (
    (nat_lit 2, ⟨.none, (@none Nat), .dict #[⟨PyData.keyHash P "type.__subclasses__.Exception.0", .str "type.__subclasses__.Exception.0" 232, .int 46 0⟩, ⟨PyData.keyHash P "type.__subclasses__.Exception.n", .str "type.__subclasses__.Exception.n" 233, .int 1 0⟩] 2, #[]⟩) ::
    (nat_lit 3, ⟨.type "dict", (@none Nat), .dict (List.toArray (⟨PyData.keyHash P "__name__", .str "__name__" 165, .str "law_pq0950_01" 1013⟩ :: ⟨PyData.keyHash P "__doc__", .str "__doc__" 166, .none⟩ :: ⟨PyData.keyHash P "__package__", .str "__package__" 167, .none⟩ :: ⟨PyData.keyHash P "__loader__", .str "__loader__" 168, .builtin "__main__.__loader__#opaque"⟩ :: ⟨PyData.keyHash P "__spec__", .str "__spec__" 169, .none⟩ :: ⟨PyData.keyHash P "__annotations__", .str "__annotations__" 170, .ref 6⟩ :: ⟨PyData.keyHash P "__builtins__", .str "__builtins__" 171, .ref 4⟩ :: ⟨PyData.keyHash P "__file__", .str "__file__" 173, .str "/claim/cut.py" 172⟩ :: ⟨PyData.keyHash P "__cached__", .str "__cached__" 174, .none⟩ :: ⟨PyData.keyHash P "_wall", .str "_wall" 193, .ref 21⟩ :: ⟨PyData.keyHash P "PostError", .str "PostError" 235, .ref 46⟩ :: ⟨PyData.keyHash P "WordFault", .str "WordFault" 251, .ref 59⟩ :: ⟨PyData.keyHash P "MimeFault", .str "MimeFault" 267, .ref 71⟩ :: ⟨PyData.keyHash P "NameFault", .str "NameFault" 283, .ref 83⟩ :: ⟨PyData.keyHash P "WireFault", .str "WireFault" 299, .ref 95⟩ :: ⟨PyData.keyHash P "worth_table", .str "worth_table" 307, .ref 102⟩ :: ⟨PyData.keyHash P "group_codes", .str "group_codes" 313, .ref 107⟩ :: ⟨PyData.keyHash P "group_octets", .str "group_octets" 319, .ref 112⟩ :: ⟨PyData.keyHash P "part_encoded", .str "part_encoded" 329, .ref 119⟩ :: ⟨PyData.keyHash P "part_numbers", .str "part_numbers" 339, .ref 126⟩ :: ⟨PyData.keyHash P "part_decoded", .str "part_decoded" 353, .ref 133⟩ :: ⟨PyData.keyHash P "CRLF", .str "CRLF" 357, .bytes #[13, 10] 356⟩ :: ⟨PyData.keyHash P "lower_code", .str "lower_code" 364, .ref 140⟩ :: ⟨PyData.keyHash P "lower", .str "lower" 370, .ref 145⟩ :: ⟨PyData.keyHash P "upper_text", .str "upper_text" 376, .ref 150⟩ :: ⟨PyData.keyHash P "ascii_text", .str "ascii_text" 382, .ref 155⟩ :: ⟨PyData.keyHash P "text_octets", .str "text_octets" 388, .ref 160⟩ :: ⟨PyData.keyHash P "DELIMITER", .str "DELIMITER" 392, .str "/" 391⟩ :: ⟨PyData.keyHash P "INBOX", .str "INBOX" 394, .str "INBOX" 393⟩ :: ⟨PyData.keyHash P "SHIFT_SIGNS", .str "SHIFT_SIGNS" 396, .bytes (List.toArray (65 :: 66 :: 67 :: 68 :: 69 :: 70 :: 71 :: 72 :: 73 :: 74 :: 75 :: 76 :: 77 :: 78 :: 79 :: 80 :: 81 :: 82 :: 83 :: 84 :: 85 :: 86 :: 87 :: 88 :: 89 :: 90 :: 97 :: 98 :: 99 :: 100 :: 101 :: 102 :: 103 :: 104 :: 105 :: 106 :: 107 :: 108 :: 109 :: 110 :: 111 :: 112 :: 113 :: 114 :: 115 :: 116 :: 117 :: 118 :: 119 :: 120 :: 121 :: 122 :: 48 :: 49 :: 50 :: 51 :: 52 :: 53 :: 54 :: 55 :: 56 :: 57 :: 43 :: 44 :: [])) 395⟩ :: ⟨PyData.keyHash P "is_plain_code", .str "is_plain_code" 403, .ref 167⟩ :: ⟨PyData.keyHash P "is_half", .str "is_half" 410, .ref 174⟩ :: ⟨PyData.keyHash P "utf16_octets", .str "utf16_octets" 423, .ref 181⟩ :: ⟨PyData.keyHash P "run_behind", .str "run_behind" 432, .ref 188⟩ :: ⟨PyData.keyHash P "utf7_octets", .str "utf7_octets" 443, .ref 195⟩ :: ⟨PyData.keyHash P "shift_behind", .str "shift_behind" 452, .ref 202⟩ :: ⟨PyData.keyHash P "units_text", .str "units_text" 465, .ref 209⟩ :: ⟨PyData.keyHash P "shifted_text", .str "shifted_text" 476, .ref 216⟩ :: ⟨PyData.keyHash P "utf7_text", .str "utf7_text" 488, .ref 223⟩ :: ⟨PyData.keyHash P "first_part", .str "first_part" 496, .ref 230⟩ :: ⟨PyData.keyHash P "normal_name", .str "normal_name" 505, .ref 237⟩ :: ⟨PyData.keyHash P "QUOTE", .str "QUOTE" 509, .int 34 508⟩ :: ⟨PyData.keyHash P "BACKSLASH", .str "BACKSLASH" 511, .int 92 510⟩ :: ⟨PyData.keyHash P "MOST_DEPTH", .str "MOST_DEPTH" 513, .int 30 512⟩ :: ⟨PyData.keyHash P "MOST_FIGURES", .str "MOST_FIGURES" 515, .int 19 514⟩ :: ⟨PyData.keyHash P "MOST_COUNT_FIGURES", .str "MOST_COUNT_FIGURES" 517, .int 10 516⟩ :: ⟨PyData.keyHash P "MOST_QUOTED", .str "MOST_QUOTED" 519, .int 72 518⟩ :: ⟨PyData.keyHash P "SPECIALS", .str "SPECIALS" 521, .bytes #[40, 41, 123, 37, 42, 34, 92, 93] 520⟩ :: ⟨PyData.keyHash P "VALUE_SPECIALS", .str "VALUE_SPECIALS" 523, .bytes #[40, 41, 123, 34, 93] 522⟩ :: ⟨PyData.keyHash P "Atom", .str "Atom" 559, .ref 261⟩ :: ⟨PyData.keyHash P "is_printable", .str "is_printable" 566, .ref 272⟩ :: ⟨PyData.keyHash P "is_atom_code", .str "is_atom_code" 573, .ref 279⟩ :: ⟨PyData.keyHash P "is_astring_code", .str "is_astring_code" 580, .ref 286⟩ :: ⟨PyData.keyHash P "is_pattern_code", .str "is_pattern_code" 587, .ref 293⟩ :: ⟨PyData.keyHash P "is_value_code", .str "is_value_code" 594, .ref 300⟩ :: ⟨PyData.keyHash P "is_figure", .str "is_figure" 601, .ref 307⟩ :: ⟨PyData.keyHash P "number_of_figures", .str "number_of_figures" 610, .ref 314⟩ :: ⟨PyData.keyHash P "figures_of", .str "figures_of" 617, .ref 321⟩ :: ⟨PyData.keyHash P "Wire", .str "Wire" 839, .ref 506⟩ :: ⟨PyData.keyHash P "is_quotable", .str "is_quotable" 845, .ref 515⟩ :: ⟨PyData.keyHash P "quoted_octets", .str "quoted_octets" 854, .ref 522⟩ :: ⟨PyData.keyHash P "literal_octets", .str "literal_octets" 862, .ref 530⟩ :: ⟨PyData.keyHash P "string_octets", .str "string_octets" 870, .ref 538⟩ :: ⟨PyData.keyHash P "astring_octets", .str "astring_octets" 876, .ref 544⟩ :: ⟨PyData.keyHash P "name_part", .str "name_part" 885, .ref 551⟩ :: ⟨PyData.keyHash P "pattern_part", .str "pattern_part" 891, .ref 556⟩ :: ⟨PyData.keyHash P "words_part", .str "words_part" 898, .ref 563⟩ :: ⟨PyData.keyHash P "write_login", .str "write_login" 905, .ref 570⟩ :: ⟨PyData.keyHash P "write_enable", .str "write_enable" 912, .ref 577⟩ :: ⟨PyData.keyHash P "write_rename", .str "write_rename" 919, .ref 584⟩ :: ⟨PyData.keyHash P "write_list", .str "write_list" 926, .ref 591⟩ :: ⟨PyData.keyHash P "write_status", .str "write_status" 933, .ref 598⟩ :: ⟨PyData.keyHash P "STATUS_WORDS", .str "STATUS_WORDS" 937, .str "MESSAGES UIDNEXT UIDVALIDITY UNSEEN DELETED SIZE RECENT HIGHESTMODSEQ" 936⟩ :: ⟨PyData.keyHash P "one_of", .str "one_of" 946, .ref 605⟩ :: ⟨PyData.keyHash P "name_here", .str "name_here" 955, .ref 612⟩ :: ⟨PyData.keyHash P "pattern_here", .str "pattern_here" 965, .ref 619⟩ :: ⟨PyData.keyHash P "words_here", .str "words_here" 971, .ref 624⟩ :: ⟨PyData.keyHash P "read_login", .str "read_login" 979, .ref 631⟩ :: ⟨PyData.keyHash P "read_enable", .str "read_enable" 987, .ref 638⟩ :: ⟨PyData.keyHash P "read_rename", .str "read_rename" 995, .ref 645⟩ :: ⟨PyData.keyHash P "read_list", .str "read_list" 1003, .ref 652⟩ :: ⟨PyData.keyHash P "read_status", .str "read_status" 1012, .ref 659⟩ :: ⟨PyData.keyHash P "_law_is_no_status", .str "_law_is_no_status" 1021, .ref 666⟩ :: ⟨PyData.keyHash P "_law_is_one", .str "_law_is_one" 1031, .ref 673⟩ :: ⟨PyData.keyHash P "law", .str "law" 1037, .ref 678⟩ :: [])) 85, #[]⟩) ::
    (nat_lit 15, ⟨.type "tuple", (@none Nat), .seq #[] 0, #[]⟩) ::
    (nat_lit 17, ⟨.type "tuple", (@none Nat), .seq #[.str "k" 190] 0, #[]⟩) ::
    (nat_lit 18, ⟨.type "tuple", (@none Nat), .seq #[] 0, #[]⟩) ::
    (nat_lit 20, ⟨.type "code", (@none Nat), .fields #[.str "_wall" 187, .str "_wall" 188, .str "/claim/cut.py" 189, .int 1 0, .int 1 0, .int 0 0, .int 0 0, .int 3 0, .ref 15, .bool .true, .int 181 0, .ref 16, .none, .ref 17, .ref 18, .ref 19, .int 191 0, .int 1 0, .str "/claim/cut.py" 192], #[]⟩) ::
    (nat_lit 21, ⟨.type "function", (@none Nat), .func ⟨"_wall", "_wall", ?a0, .stmts ?b0, ?c0, 3, [], .none, .none, .none, .str "__main__" 164, (@none Nat), .ref 20, .none, 0⟩, #[]⟩) ::
    (nat_lit 22, ⟨.type "tuple", (@none Nat), .seq #[.type "Exception"] 0, #[]⟩) ::
    (nat_lit 29, ⟨.type "tuple", (@none Nat), .seq #[.int (-1) 209] 0, #[]⟩) ::
    (nat_lit 30, ⟨.type "tuple", (@none Nat), .seq #[] 0, #[]⟩) ::
    (nat_lit 32, ⟨.type "tuple", (@none Nat), .seq #[.str "self" 213, .str "what" 214, .str "at" 215] 0, #[]⟩) ::
    (nat_lit 33, ⟨.type "tuple", (@none Nat), .seq #[] 0, #[]⟩) ::
    (nat_lit 35, ⟨.type "code", (@none Nat), .fields #[.str "__init__" 210, .str "PostError.__init__" 211, .str "/claim/cut.py" 212, .int 7 0, .int 3 0, .int 0 0, .int 0 0, .int 3 0, .ref 30, .bool .true, .int 181 0, .ref 31, .none, .ref 32, .ref 33, .ref 34, .int 216 0, .int 7 0, .str "/claim/cut.py" 217], #[]⟩) ::
    (nat_lit 36, ⟨.type "function", (@none Nat), .func ⟨"__init__", "PostError.__init__", ?a2x0, .stmts ?b2x0, ?c2x0, 3, [], .ref 29, .none, .none, .str "postkeep.errors" 194, (@none Nat), .ref 35, .none, 0⟩, #[]⟩) ::
    (nat_lit 37, ⟨.type "tuple", (@none Nat), .seq #[] 0, #[]⟩) ::
    (nat_lit 39, ⟨.type "tuple", (@none Nat), .seq #[.str "self" 222] 0, #[]⟩) ::
    (nat_lit 40, ⟨.type "tuple", (@none Nat), .seq #[] 0, #[]⟩) ::
    (nat_lit 42, ⟨.type "code", (@none Nat), .fields #[.str "told" 219, .str "PostError.told" 220, .str "/claim/cut.py" 221, .int 12 0, .int 1 0, .int 0 0, .int 0 0, .int 3 0, .ref 37, .bool .true, .int 181 0, .ref 38, .none, .ref 39, .ref 40, .ref 41, .int 223 0, .int 12 0, .str "/claim/cut.py" 224], #[]⟩) ::
    (nat_lit 43, ⟨.type "function", (@none Nat), .func ⟨"told", "PostError.told", ?a2x1, .stmts ?b2x1, ?c2x1, 3, [], .none, .none, .none, .str "postkeep.errors" 194, (@none Nat), .ref 42, .none, 0⟩, #[]⟩) ::
    (nat_lit 44, ⟨.type "tuple", (@none Nat), .seq #[.str "at" 226, .str "what" 227] 0, #[]⟩) ::
    (nat_lit 45, ⟨.type "dict", (@none Nat), .dict #[⟨PyData.keyHash P "__module__", .str "__module__" 203, .str "postkeep.errors" 194⟩, ⟨PyData.keyHash P "__firstlineno__", .str "__firstlineno__" 207, .int 5 206⟩, ⟨PyData.keyHash P "__init__", .str "__init__" 218, .ref 36⟩, ⟨PyData.keyHash P "told", .str "told" 225, .ref 43⟩, ⟨PyData.keyHash P "__static_attributes__", .str "__static_attributes__" 228, .ref 44⟩, ⟨PyData.keyHash P "__weakref__", .str "__weakref__" 230, .ref 47⟩, ⟨PyData.keyHash P "__doc__", .str "__doc__" 231, .none⟩] 3, #[]⟩) ::
    (nat_lit 46, ⟨.type "type", (@none Nat), .cls ⟨"PostError", [.type "Exception"], [.ref 46, .type "Exception", .type "BaseException", .type "object"], 45, "PostError", .true, [], [.ref 59, .ref 71, .ref 83, .ref 95], .false, none, .false⟩, #[some (.ref 22), none, some (.str "PostError" 196), some (.str "PostError" 204), some (.builtin "Exception.__new__"), some (.bool .true)]⟩) ::
    (nat_lit 47, ⟨.type "getset_descriptor", (@none Nat), .fields #[.str "__weakref__" 229, .ref 46, .builtin "ExceptionGroup.__weakref__", .none], #[]⟩) ::
    (nat_lit 50, ⟨.type "tuple", (@none Nat), .seq #[.ref 46] 0, #[]⟩) ::
    (nat_lit 57, ⟨.type "tuple", (@none Nat), .seq #[] 0, #[]⟩) ::
    (nat_lit 58, ⟨.type "dict", (@none Nat), .dict #[⟨PyData.keyHash P "__module__", .str "__module__" 243, .str "postkeep.errors" 194⟩, ⟨PyData.keyHash P "__firstlineno__", .str "__firstlineno__" 247, .int 14 246⟩, ⟨PyData.keyHash P "__static_attributes__", .str "__static_attributes__" 248, .ref 57⟩, ⟨PyData.keyHash P "__doc__", .str "__doc__" 249, .none⟩] 2, #[]⟩) ::
    (nat_lit 59, ⟨.type "type", (@none Nat), .cls ⟨"WordFault", [.ref 46], [.ref 59, .ref 46, .type "Exception", .type "BaseException", .type "object"], 58, "WordFault", .true, [], [], .false, none, .false⟩, #[some (.ref 50), none, some (.str "WordFault" 236), some (.str "WordFault" 244), some (.builtin "Exception.__new__"), some (.bool .true)]⟩) ::
    (nat_lit 62, ⟨.type "tuple", (@none Nat), .seq #[.ref 46] 0, #[]⟩) ::
    (nat_lit 69, ⟨.type "tuple", (@none Nat), .seq #[] 0, #[]⟩) ::
    (nat_lit 70, ⟨.type "dict", (@none Nat), .dict #[⟨PyData.keyHash P "__module__", .str "__module__" 259, .str "postkeep.errors" 194⟩, ⟨PyData.keyHash P "__firstlineno__", .str "__firstlineno__" 263, .int 16 262⟩, ⟨PyData.keyHash P "__static_attributes__", .str "__static_attributes__" 264, .ref 69⟩, ⟨PyData.keyHash P "__doc__", .str "__doc__" 265, .none⟩] 2, #[]⟩) ::
    (nat_lit 71, ⟨.type "type", (@none Nat), .cls ⟨"MimeFault", [.ref 46], [.ref 71, .ref 46, .type "Exception", .type "BaseException", .type "object"], 70, "MimeFault", .true, [], [], .false, none, .false⟩, #[some (.ref 62), none, some (.str "MimeFault" 252), some (.str "MimeFault" 260), some (.builtin "Exception.__new__"), some (.bool .true)]⟩) ::
    (nat_lit 74, ⟨.type "tuple", (@none Nat), .seq #[.ref 46] 0, #[]⟩) ::
    (nat_lit 81, ⟨.type "tuple", (@none Nat), .seq #[] 0, #[]⟩) ::
    (nat_lit 82, ⟨.type "dict", (@none Nat), .dict #[⟨PyData.keyHash P "__module__", .str "__module__" 275, .str "postkeep.errors" 194⟩, ⟨PyData.keyHash P "__firstlineno__", .str "__firstlineno__" 279, .int 18 278⟩, ⟨PyData.keyHash P "__static_attributes__", .str "__static_attributes__" 280, .ref 81⟩, ⟨PyData.keyHash P "__doc__", .str "__doc__" 281, .none⟩] 2, #[]⟩) ::
    (nat_lit 83, ⟨.type "type", (@none Nat), .cls ⟨"NameFault", [.ref 46], [.ref 83, .ref 46, .type "Exception", .type "BaseException", .type "object"], 82, "NameFault", .true, [], [], .false, none, .false⟩, #[some (.ref 74), none, some (.str "NameFault" 268), some (.str "NameFault" 276), some (.builtin "Exception.__new__"), some (.bool .true)]⟩) ::
    (nat_lit 86, ⟨.type "tuple", (@none Nat), .seq #[.ref 46] 0, #[]⟩) ::
    (nat_lit 93, ⟨.type "tuple", (@none Nat), .seq #[] 0, #[]⟩) ::
    (nat_lit 94, ⟨.type "dict", (@none Nat), .dict #[⟨PyData.keyHash P "__module__", .str "__module__" 291, .str "postkeep.errors" 194⟩, ⟨PyData.keyHash P "__firstlineno__", .str "__firstlineno__" 295, .int 20 294⟩, ⟨PyData.keyHash P "__static_attributes__", .str "__static_attributes__" 296, .ref 93⟩, ⟨PyData.keyHash P "__doc__", .str "__doc__" 297, .none⟩] 2, #[]⟩) ::
    (nat_lit 95, ⟨.type "type", (@none Nat), .cls ⟨"WireFault", [.ref 46], [.ref 95, .ref 46, .type "Exception", .type "BaseException", .type "object"], 94, "WireFault", .true, [], [], .false, none, .false⟩, #[some (.ref 86), none, some (.str "WireFault" 284), some (.str "WireFault" 292), some (.builtin "Exception.__new__"), some (.bool .true)]⟩) ::
    (nat_lit 98, ⟨.type "tuple", (@none Nat), .seq #[] 0, #[]⟩) ::
    (nat_lit 101, ⟨.type "code", (@none Nat), .fields #[.str "worth_table" 302, .str "worth_table" 303, .str "/claim/cut.py" 304, .int 23 0, .int 1 0, .int 0 0, .int 0 0, .int 3 0, .ref 98, .bool .true, .int 181 0, .ref 99, .none, .none, .none, .ref 100, .int 305 0, .int 23 0, .str "/claim/cut.py" 306], #[]⟩) ::
    (nat_lit 102, ⟨.type "function", (@none Nat), .func ⟨"worth_table", "worth_table", ?a8, .stmts ?b8, ?c8, 3, [], .none, .none, .none, .str "postkeep.base64" 300, (@none Nat), .ref 101, .none, 0⟩, #[]⟩) ::
    (nat_lit 103, ⟨.type "tuple", (@none Nat), .seq #[] 0, #[]⟩) ::
    (nat_lit 106, ⟨.type "code", (@none Nat), .fields #[.str "group_codes" 308, .str "group_codes" 309, .str "/claim/cut.py" 310, .int 25 0, .int 2 0, .int 0 0, .int 0 0, .int 3 0, .ref 103, .bool .true, .int 181 0, .ref 104, .none, .none, .none, .ref 105, .int 311 0, .int 25 0, .str "/claim/cut.py" 312], #[]⟩) ::
    (nat_lit 107, ⟨.type "function", (@none Nat), .func ⟨"group_codes", "group_codes", ?a9, .stmts ?b9, ?c9, 3, [], .none, .none, .none, .str "postkeep.base64" 300, (@none Nat), .ref 106, .none, 0⟩, #[]⟩) ::
    (nat_lit 108, ⟨.type "tuple", (@none Nat), .seq #[] 0, #[]⟩) ::
    (nat_lit 111, ⟨.type "code", (@none Nat), .fields #[.str "group_octets" 314, .str "group_octets" 315, .str "/claim/cut.py" 316, .int 32 0, .int 1 0, .int 0 0, .int 0 0, .int 3 0, .ref 108, .bool .true, .int 181 0, .ref 109, .none, .none, .none, .ref 110, .int 317 0, .int 32 0, .str "/claim/cut.py" 318], #[]⟩) ::
    (nat_lit 112, ⟨.type "function", (@none Nat), .func ⟨"group_octets", "group_octets", ?a10, .stmts ?b10, ?c10, 3, [], .none, .none, .none, .str "postkeep.base64" 300, (@none Nat), .ref 111, .none, 0⟩, #[]⟩) ::
    (nat_lit 113, ⟨.type "tuple", (@none Nat), .seq #[] 0, #[]⟩) ::
    (nat_lit 115, ⟨.type "tuple", (@none Nat), .seq #[.str "octets" 323, .str "alphabet" 324, .str "codes" 325, .str "begin" 326] 0, #[]⟩) ::
    (nat_lit 116, ⟨.type "tuple", (@none Nat), .seq #[] 0, #[]⟩) ::
    (nat_lit 118, ⟨.type "code", (@none Nat), .fields #[.str "part_encoded" 320, .str "part_encoded" 321, .str "/claim/cut.py" 322, .int 40 0, .int 2 0, .int 0 0, .int 0 0, .int 3 0, .ref 113, .bool .true, .int 181 0, .ref 114, .none, .ref 115, .ref 116, .ref 117, .int 327 0, .int 40 0, .str "/claim/cut.py" 328], #[]⟩) ::
    (nat_lit 119, ⟨.type "function", (@none Nat), .func ⟨"part_encoded", "part_encoded", ?a11, .stmts ?b11, ?c11, 3, [], .none, .none, .none, .str "postkeep.base64" 300, (@none Nat), .ref 118, .none, 0⟩, #[]⟩) ::
    (nat_lit 120, ⟨.type "tuple", (@none Nat), .seq #[] 0, #[]⟩) ::
    (nat_lit 122, ⟨.type "tuple", (@none Nat), .seq #[.str "signs" 333, .str "worths" 334, .str "worth_row" 335, .str "at" 336] 0, #[]⟩) ::
    (nat_lit 123, ⟨.type "tuple", (@none Nat), .seq #[] 0, #[]⟩) ::
    (nat_lit 125, ⟨.type "code", (@none Nat), .fields #[.str "part_numbers" 330, .str "part_numbers" 331, .str "/claim/cut.py" 332, .int 45 0, .int 2 0, .int 0 0, .int 0 0, .int 3 0, .ref 120, .bool .true, .int 181 0, .ref 121, .none, .ref 122, .ref 123, .ref 124, .int 337 0, .int 45 0, .str "/claim/cut.py" 338], #[]⟩) ::
    (nat_lit 126, ⟨.type "function", (@none Nat), .func ⟨"part_numbers", "part_numbers", ?a12, .stmts ?b12, ?c12, 3, [], .none, .none, .none, .str "postkeep.base64" 300, (@none Nat), .ref 125, .none, 0⟩, #[]⟩) ::
    (nat_lit 127, ⟨.type "tuple", (@none Nat), .seq #[] 0, #[]⟩) ::
    (nat_lit 129, ⟨.type "tuple", (@none Nat), .seq #[.str "signs" 343, .str "alphabet" 344, .str "worth_row" 345, .str "found" 346, .str "begin" 347, .str "group" 348, .str "octets" 349, .str "spare" 350] 0, #[]⟩) ::
    (nat_lit 130, ⟨.type "tuple", (@none Nat), .seq #[] 0, #[]⟩) ::
    (nat_lit 132, ⟨.type "code", (@none Nat), .fields #[.str "part_decoded" 340, .str "part_decoded" 341, .str "/claim/cut.py" 342, .int 52 0, .int 2 0, .int 0 0, .int 0 0, .int 3 0, .ref 127, .bool .true, .int 181 0, .ref 128, .none, .ref 129, .ref 130, .ref 131, .int 351 0, .int 52 0, .str "/claim/cut.py" 352], #[]⟩) ::
    (nat_lit 133, ⟨.type "function", (@none Nat), .func ⟨"part_decoded", "part_decoded", ?a13, .stmts ?b13, ?c13, 3, [], .none, .none, .none, .str "postkeep.base64" 300, (@none Nat), .ref 132, .none, 0⟩, #[]⟩) ::
    (nat_lit 134, ⟨.type "tuple", (@none Nat), .seq #[] 0, #[]⟩) ::
    (nat_lit 136, ⟨.type "tuple", (@none Nat), .seq #[.str "code" 361] 0, #[]⟩) ::
    (nat_lit 137, ⟨.type "tuple", (@none Nat), .seq #[] 0, #[]⟩) ::
    (nat_lit 139, ⟨.type "code", (@none Nat), .fields #[.str "lower_code" 358, .str "lower_code" 359, .str "/claim/cut.py" 360, .int 66 0, .int 1 0, .int 0 0, .int 0 0, .int 3 0, .ref 134, .bool .true, .int 181 0, .ref 135, .none, .ref 136, .ref 137, .ref 138, .int 362 0, .int 66 0, .str "/claim/cut.py" 363], #[]⟩) ::
    (nat_lit 140, ⟨.type "function", (@none Nat), .func ⟨"lower_code", "lower_code", ?a16, .stmts ?b16, ?c16, 3, [], .none, .none, .none, .str "postkeep.octets" 354, (@none Nat), .ref 139, .none, 0⟩, #[]⟩) ::
    (nat_lit 141, ⟨.type "tuple", (@none Nat), .seq #[] 0, #[]⟩) ::
    (nat_lit 144, ⟨.type "code", (@none Nat), .fields #[.str "lower" 365, .str "lower" 366, .str "/claim/cut.py" 367, .int 68 0, .int 1 0, .int 0 0, .int 0 0, .int 3 0, .ref 141, .bool .true, .int 181 0, .ref 142, .none, .none, .none, .ref 143, .int 368 0, .int 68 0, .str "/claim/cut.py" 369], #[]⟩) ::
    (nat_lit 145, ⟨.type "function", (@none Nat), .func ⟨"lower", "lower", ?a17, .stmts ?b17, ?c17, 3, [], .none, .none, .none, .str "postkeep.octets" 354, (@none Nat), .ref 144, .none, 0⟩, #[]⟩) ::
    (nat_lit 146, ⟨.type "tuple", (@none Nat), .seq #[] 0, #[]⟩) ::
    (nat_lit 149, ⟨.type "code", (@none Nat), .fields #[.str "upper_text" 371, .str "upper_text" 372, .str "/claim/cut.py" 373, .int 70 0, .int 1 0, .int 0 0, .int 0 0, .int 3 0, .ref 146, .bool .true, .int 181 0, .ref 147, .none, .none, .none, .ref 148, .int 374 0, .int 70 0, .str "/claim/cut.py" 375], #[]⟩) ::
    (nat_lit 150, ⟨.type "function", (@none Nat), .func ⟨"upper_text", "upper_text", ?a18, .stmts ?b18, ?c18, 3, [], .none, .none, .none, .str "postkeep.octets" 354, (@none Nat), .ref 149, .none, 0⟩, #[]⟩) ::
    (nat_lit 151, ⟨.type "tuple", (@none Nat), .seq #[] 0, #[]⟩) ::
    (nat_lit 154, ⟨.type "code", (@none Nat), .fields #[.str "ascii_text" 377, .str "ascii_text" 378, .str "/claim/cut.py" 379, .int 72 0, .int 1 0, .int 0 0, .int 0 0, .int 3 0, .ref 151, .bool .true, .int 181 0, .ref 152, .none, .none, .none, .ref 153, .int 380 0, .int 72 0, .str "/claim/cut.py" 381], #[]⟩) ::
    (nat_lit 155, ⟨.type "function", (@none Nat), .func ⟨"ascii_text", "ascii_text", ?a19, .stmts ?b19, ?c19, 3, [], .none, .none, .none, .str "postkeep.octets" 354, (@none Nat), .ref 154, .none, 0⟩, #[]⟩) ::
    (nat_lit 156, ⟨.type "tuple", (@none Nat), .seq #[] 0, #[]⟩) ::
    (nat_lit 159, ⟨.type "code", (@none Nat), .fields #[.str "text_octets" 383, .str "text_octets" 384, .str "/claim/cut.py" 385, .int 77 0, .int 1 0, .int 0 0, .int 0 0, .int 3 0, .ref 156, .bool .true, .int 181 0, .ref 157, .none, .none, .none, .ref 158, .int 386 0, .int 77 0, .str "/claim/cut.py" 387], #[]⟩) ::
    (nat_lit 160, ⟨.type "function", (@none Nat), .func ⟨"text_octets", "text_octets", ?a20, .stmts ?b20, ?c20, 3, [], .none, .none, .none, .str "postkeep.octets" 354, (@none Nat), .ref 159, .none, 0⟩, #[]⟩) ::
    (nat_lit 161, ⟨.type "tuple", (@none Nat), .seq #[] 0, #[]⟩) ::
    (nat_lit 163, ⟨.type "tuple", (@none Nat), .seq #[.str "code" 400] 0, #[]⟩) ::
    (nat_lit 164, ⟨.type "tuple", (@none Nat), .seq #[] 0, #[]⟩) ::
    (nat_lit 166, ⟨.type "code", (@none Nat), .fields #[.str "is_plain_code" 397, .str "is_plain_code" 398, .str "/claim/cut.py" 399, .int 86 0, .int 1 0, .int 0 0, .int 0 0, .int 3 0, .ref 161, .bool .true, .int 181 0, .ref 162, .none, .ref 163, .ref 164, .ref 165, .int 401 0, .int 86 0, .str "/claim/cut.py" 402], #[]⟩) ::
    (nat_lit 167, ⟨.type "function", (@none Nat), .func ⟨"is_plain_code", "is_plain_code", ?a25, .stmts ?b25, ?c25, 3, [], .none, .none, .none, .str "postkeep.names" 389, (@none Nat), .ref 166, .none, 0⟩, #[]⟩) ::
    (nat_lit 168, ⟨.type "tuple", (@none Nat), .seq #[] 0, #[]⟩) ::
    (nat_lit 170, ⟨.type "tuple", (@none Nat), .seq #[.str "code" 407] 0, #[]⟩) ::
    (nat_lit 171, ⟨.type "tuple", (@none Nat), .seq #[] 0, #[]⟩) ::
    (nat_lit 173, ⟨.type "code", (@none Nat), .fields #[.str "is_half" 404, .str "is_half" 405, .str "/claim/cut.py" 406, .int 88 0, .int 1 0, .int 0 0, .int 0 0, .int 3 0, .ref 168, .bool .true, .int 181 0, .ref 169, .none, .ref 170, .ref 171, .ref 172, .int 408 0, .int 88 0, .str "/claim/cut.py" 409], #[]⟩) ::
    (nat_lit 174, ⟨.type "function", (@none Nat), .func ⟨"is_half", "is_half", ?a26, .stmts ?b26, ?c26, 3, [], .none, .none, .none, .str "postkeep.names" 389, (@none Nat), .ref 173, .none, 0⟩, #[]⟩) ::
    (nat_lit 175, ⟨.type "tuple", (@none Nat), .seq #[] 0, #[]⟩) ::
    (nat_lit 177, ⟨.type "tuple", (@none Nat), .seq #[.str "text" 414, .str "begin" 415, .str "end" 416, .str "out" 417, .str "at" 418, .str "code" 419, .str "high" 420] 0, #[]⟩) ::
    (nat_lit 178, ⟨.type "tuple", (@none Nat), .seq #[] 0, #[]⟩) ::
    (nat_lit 180, ⟨.type "code", (@none Nat), .fields #[.str "utf16_octets" 411, .str "utf16_octets" 412, .str "/claim/cut.py" 413, .int 90 0, .int 3 0, .int 0 0, .int 0 0, .int 3 0, .ref 175, .bool .true, .int 181 0, .ref 176, .none, .ref 177, .ref 178, .ref 179, .int 421 0, .int 90 0, .str "/claim/cut.py" 422], #[]⟩) ::
    (nat_lit 181, ⟨.type "function", (@none Nat), .func ⟨"utf16_octets", "utf16_octets", ?a27, .stmts ?b27, ?c27, 3, [], .none, .none, .none, .str "postkeep.names" 389, (@none Nat), .ref 180, .none, 0⟩, #[]⟩) ::
    (nat_lit 182, ⟨.type "tuple", (@none Nat), .seq #[] 0, #[]⟩) ::
    (nat_lit 184, ⟨.type "tuple", (@none Nat), .seq #[.str "text" 427, .str "begin" 428, .str "end" 429] 0, #[]⟩) ::
    (nat_lit 185, ⟨.type "tuple", (@none Nat), .seq #[] 0, #[]⟩) ::
    (nat_lit 187, ⟨.type "code", (@none Nat), .fields #[.str "run_behind" 424, .str "run_behind" 425, .str "/claim/cut.py" 426, .int 104 0, .int 2 0, .int 0 0, .int 0 0, .int 3 0, .ref 182, .bool .true, .int 181 0, .ref 183, .none, .ref 184, .ref 185, .ref 186, .int 430 0, .int 104 0, .str "/claim/cut.py" 431], #[]⟩) ::
    (nat_lit 188, ⟨.type "function", (@none Nat), .func ⟨"run_behind", "run_behind", ?a28, .stmts ?b28, ?c28, 3, [], .none, .none, .none, .str "postkeep.names" 389, (@none Nat), .ref 187, .none, 0⟩, #[]⟩) ::
    (nat_lit 189, ⟨.type "tuple", (@none Nat), .seq #[] 0, #[]⟩) ::
    (nat_lit 191, ⟨.type "tuple", (@none Nat), .seq #[.str "text" 436, .str "out" 437, .str "at" 438, .str "code" 439, .str "end" 440] 0, #[]⟩) ::
    (nat_lit 192, ⟨.type "tuple", (@none Nat), .seq #[] 0, #[]⟩) ::
    (nat_lit 194, ⟨.type "code", (@none Nat), .fields #[.str "utf7_octets" 433, .str "utf7_octets" 434, .str "/claim/cut.py" 435, .int 109 0, .int 1 0, .int 0 0, .int 0 0, .int 3 0, .ref 189, .bool .true, .int 181 0, .ref 190, .none, .ref 191, .ref 192, .ref 193, .int 441 0, .int 109 0, .str "/claim/cut.py" 442], #[]⟩) ::
    (nat_lit 195, ⟨.type "function", (@none Nat), .func ⟨"utf7_octets", "utf7_octets", ?a29, .stmts ?b29, ?c29, 3, [], .none, .none, .none, .str "postkeep.names" 389, (@none Nat), .ref 194, .none, 0⟩, #[]⟩) ::
    (nat_lit 196, ⟨.type "tuple", (@none Nat), .seq #[] 0, #[]⟩) ::
    (nat_lit 198, ⟨.type "tuple", (@none Nat), .seq #[.str "octets" 447, .str "begin" 448, .str "end" 449] 0, #[]⟩) ::
    (nat_lit 199, ⟨.type "tuple", (@none Nat), .seq #[] 0, #[]⟩) ::
    (nat_lit 201, ⟨.type "code", (@none Nat), .fields #[.str "shift_behind" 444, .str "shift_behind" 445, .str "/claim/cut.py" 446, .int 126 0, .int 2 0, .int 0 0, .int 0 0, .int 3 0, .ref 196, .bool .true, .int 181 0, .ref 197, .none, .ref 198, .ref 199, .ref 200, .int 450 0, .int 126 0, .str "/claim/cut.py" 451], #[]⟩) ::
    (nat_lit 202, ⟨.type "function", (@none Nat), .func ⟨"shift_behind", "shift_behind", ?a30, .stmts ?b30, ?c30, 3, [], .none, .none, .none, .str "postkeep.names" 389, (@none Nat), .ref 201, .none, 0⟩, #[]⟩) ::
    (nat_lit 203, ⟨.type "tuple", (@none Nat), .seq #[] 0, #[]⟩) ::
    (nat_lit 205, ⟨.type "tuple", (@none Nat), .seq #[.str "raw" 456, .str "begin" 457, .str "signs" 458, .str "high" 459, .str "place" 460, .str "at" 461, .str "code" 462] 0, #[]⟩) ::
    (nat_lit 206, ⟨.type "tuple", (@none Nat), .seq #[] 0, #[]⟩) ::
    (nat_lit 208, ⟨.type "code", (@none Nat), .fields #[.str "units_text" 453, .str "units_text" 454, .str "/claim/cut.py" 455, .int 133 0, .int 2 0, .int 0 0, .int 0 0, .int 3 0, .ref 203, .bool .true, .int 181 0, .ref 204, .none, .ref 205, .ref 206, .ref 207, .int 463 0, .int 133 0, .str "/claim/cut.py" 464], #[]⟩) ::
    (nat_lit 209, ⟨.type "function", (@none Nat), .func ⟨"units_text", "units_text", ?a31, .stmts ?b31, ?c31, 3, [], .none, .none, .none, .str "postkeep.names" 389, (@none Nat), .ref 208, .none, 0⟩, #[]⟩) ::
    (nat_lit 210, ⟨.type "tuple", (@none Nat), .seq #[] 0, #[]⟩) ::
    (nat_lit 212, ⟨.type "tuple", (@none Nat), .seq #[.str "octets" 469, .str "begin" 470, .str "end" 471, .str "raw" 472, .str "fault" 473] 0, #[]⟩) ::
    (nat_lit 213, ⟨.type "tuple", (@none Nat), .seq #[] 0, #[]⟩) ::
    (nat_lit 215, ⟨.type "code", (@none Nat), .fields #[.str "shifted_text" 466, .str "shifted_text" 467, .str "/claim/cut.py" 468, .int 155 0, .int 3 0, .int 0 0, .int 0 0, .int 3 0, .ref 210, .bool .true, .int 181 0, .ref 211, .none, .ref 212, .ref 213, .ref 214, .int 474 0, .int 155 0, .str "/claim/cut.py" 475], #[]⟩) ::
    (nat_lit 216, ⟨.type "function", (@none Nat), .func ⟨"shifted_text", "shifted_text", ?a32, .stmts ?b32, ?c32, 3, [], .none, .none, .none, .str "postkeep.names" 389, (@none Nat), .ref 215, .none, 0⟩, #[]⟩) ::
    (nat_lit 217, ⟨.type "tuple", (@none Nat), .seq #[] 0, #[]⟩) ::
    (nat_lit 219, ⟨.type "tuple", (@none Nat), .seq #[.str "octets" 480, .str "pieces" 481, .str "at" 482, .str "shift_end" 483, .str "code" 484, .str "end" 485] 0, #[]⟩) ::
    (nat_lit 220, ⟨.type "tuple", (@none Nat), .seq #[] 0, #[]⟩) ::
    (nat_lit 222, ⟨.type "code", (@none Nat), .fields #[.str "utf7_text" 477, .str "utf7_text" 478, .str "/claim/cut.py" 479, .int 163 0, .int 1 0, .int 0 0, .int 0 0, .int 3 0, .ref 217, .bool .true, .int 181 0, .ref 218, .none, .ref 219, .ref 220, .ref 221, .int 486 0, .int 163 0, .str "/claim/cut.py" 487], #[]⟩) ::
    (nat_lit 223, ⟨.type "function", (@none Nat), .func ⟨"utf7_text", "utf7_text", ?a33, .stmts ?b33, ?c33, 3, [], .none, .none, .none, .str "postkeep.names" 389, (@none Nat), .ref 222, .none, 0⟩, #[]⟩) ::
    (nat_lit 224, ⟨.type "tuple", (@none Nat), .seq #[] 0, #[]⟩) ::
    (nat_lit 226, ⟨.type "tuple", (@none Nat), .seq #[.str "text" 492, .str "end" 493] 0, #[]⟩) ::
    (nat_lit 227, ⟨.type "tuple", (@none Nat), .seq #[] 0, #[]⟩) ::
    (nat_lit 229, ⟨.type "code", (@none Nat), .fields #[.str "first_part" 489, .str "first_part" 490, .str "/claim/cut.py" 491, .int 185 0, .int 1 0, .int 0 0, .int 0 0, .int 3 0, .ref 224, .bool .true, .int 181 0, .ref 225, .none, .ref 226, .ref 227, .ref 228, .int 494 0, .int 185 0, .str "/claim/cut.py" 495], #[]⟩) ::
    (nat_lit 230, ⟨.type "function", (@none Nat), .func ⟨"first_part", "first_part", ?a34, .stmts ?b34, ?c34, 3, [], .none, .none, .none, .str "postkeep.names" 389, (@none Nat), .ref 229, .none, 0⟩, #[]⟩) ::
    (nat_lit 231, ⟨.type "tuple", (@none Nat), .seq #[] 0, #[]⟩) ::
    (nat_lit 233, ⟨.type "tuple", (@none Nat), .seq #[.str "text" 500, .str "head" 501, .str "rest" 502] 0, #[]⟩) ::
    (nat_lit 234, ⟨.type "tuple", (@none Nat), .seq #[] 0, #[]⟩) ::
    (nat_lit 236, ⟨.type "code", (@none Nat), .fields #[.str "normal_name" 497, .str "normal_name" 498, .str "/claim/cut.py" 499, .int 190 0, .int 1 0, .int 0 0, .int 0 0, .int 3 0, .ref 231, .bool .true, .int 181 0, .ref 232, .none, .ref 233, .ref 234, .ref 235, .int 503 0, .int 190 0, .str "/claim/cut.py" 504], #[]⟩) ::
    (nat_lit 237, ⟨.type "function", (@none Nat), .func ⟨"normal_name", "normal_name", ?a35, .stmts ?b35, ?c35, 3, [], .none, .none, .none, .str "postkeep.names" 389, (@none Nat), .ref 236, .none, 0⟩, #[]⟩) ::
    (nat_lit 245, ⟨.type "tuple", (@none Nat), .seq #[] 0, #[]⟩) ::
    (nat_lit 247, ⟨.type "tuple", (@none Nat), .seq #[.str "self" 539, .str "text" 540] 0, #[]⟩) ::
    (nat_lit 248, ⟨.type "tuple", (@none Nat), .seq #[] 0, #[]⟩) ::
    (nat_lit 250, ⟨.type "code", (@none Nat), .fields #[.str "__init__" 536, .str "Atom.__init__" 537, .str "/claim/cut.py" 538, .int 206 0, .int 2 0, .int 0 0, .int 0 0, .int 3 0, .ref 245, .bool .true, .int 181 0, .ref 246, .none, .ref 247, .ref 248, .ref 249, .int 541 0, .int 206 0, .str "/claim/cut.py" 542], #[]⟩) ::
    (nat_lit 251, ⟨.type "function", (@none Nat), .func ⟨"__init__", "Atom.__init__", ?a45x0, .stmts ?b45x0, ?c45x0, 3, [], .none, .none, .none, .str "postkeep.wire" 506, (@none Nat), .ref 250, .none, 0⟩, #[]⟩) ::
    (nat_lit 252, ⟨.type "tuple", (@none Nat), .seq #[] 0, #[]⟩) ::
    (nat_lit 254, ⟨.type "tuple", (@none Nat), .seq #[.str "self" 547] 0, #[]⟩) ::
    (nat_lit 255, ⟨.type "tuple", (@none Nat), .seq #[] 0, #[]⟩) ::
    (nat_lit 257, ⟨.type "code", (@none Nat), .fields #[.str "told" 544, .str "Atom.told" 545, .str "/claim/cut.py" 546, .int 209 0, .int 1 0, .int 0 0, .int 0 0, .int 3 0, .ref 252, .bool .true, .int 181 0, .ref 253, .none, .ref 254, .ref 255, .ref 256, .int 548 0, .int 209 0, .str "/claim/cut.py" 549], #[]⟩) ::
    (nat_lit 258, ⟨.type "function", (@none Nat), .func ⟨"told", "Atom.told", ?a45x1, .stmts ?b45x1, ?c45x1, 3, [], .none, .none, .none, .str "postkeep.wire" 506, (@none Nat), .ref 257, .none, 0⟩, #[]⟩) ::
    (nat_lit 259, ⟨.type "tuple", (@none Nat), .seq #[.str "text" 551] 0, #[]⟩) ::
    (nat_lit 260, ⟨.type "dict", (@none Nat), .dict #[⟨PyData.keyHash P "__module__", .str "__module__" 531, .str "postkeep.wire" 506⟩, ⟨PyData.keyHash P "__firstlineno__", .str "__firstlineno__" 535, .int 204 534⟩, ⟨PyData.keyHash P "__init__", .str "__init__" 543, .ref 251⟩, ⟨PyData.keyHash P "told", .str "told" 550, .ref 258⟩, ⟨PyData.keyHash P "__static_attributes__", .str "__static_attributes__" 552, .ref 259⟩, ⟨PyData.keyHash P "__dict__", .str "__dict__" 554, .ref 262⟩, ⟨PyData.keyHash P "__weakref__", .str "__weakref__" 556, .ref 263⟩, ⟨PyData.keyHash P "__doc__", .str "__doc__" 557, .none⟩] 4, #[]⟩) ::
    (nat_lit 261, ⟨.type "type", (@none Nat), .cls ⟨"Atom", [.type "object"], [.ref 261, .type "object"], 260, "Atom", .true, [], [], .false, none, .false⟩, #[none, none, some (.str "Atom" 524), some (.str "Atom" 532), some (.builtin "object.__new__"), some (.bool .true)]⟩) ::
    (nat_lit 262, ⟨.type "getset_descriptor", (@none Nat), .fields #[.str "__dict__" 553, .ref 261, .builtin "function.__dict__", .builtin "function.__dict__#set"], #[]⟩) ::
    (nat_lit 263, ⟨.type "getset_descriptor", (@none Nat), .fields #[.str "__weakref__" 555, .ref 261, .builtin "ExceptionGroup.__weakref__", .none], #[]⟩) ::
    (nat_lit 266, ⟨.type "tuple", (@none Nat), .seq #[] 0, #[]⟩) ::
    (nat_lit 268, ⟨.type "tuple", (@none Nat), .seq #[.str "code" 563] 0, #[]⟩) ::
    (nat_lit 269, ⟨.type "tuple", (@none Nat), .seq #[] 0, #[]⟩) ::
    (nat_lit 271, ⟨.type "code", (@none Nat), .fields #[.str "is_printable" 560, .str "is_printable" 561, .str "/claim/cut.py" 562, .int 211 0, .int 1 0, .int 0 0, .int 0 0, .int 3 0, .ref 266, .bool .true, .int 181 0, .ref 267, .none, .ref 268, .ref 269, .ref 270, .int 564 0, .int 211 0, .str "/claim/cut.py" 565], #[]⟩) ::
    (nat_lit 272, ⟨.type "function", (@none Nat), .func ⟨"is_printable", "is_printable", ?a46, .stmts ?b46, ?c46, 3, [], .none, .none, .none, .str "postkeep.wire" 506, (@none Nat), .ref 271, .none, 0⟩, #[]⟩) ::
    (nat_lit 273, ⟨.type "tuple", (@none Nat), .seq #[] 0, #[]⟩) ::
    (nat_lit 275, ⟨.type "tuple", (@none Nat), .seq #[.str "code" 570] 0, #[]⟩) ::
    (nat_lit 276, ⟨.type "tuple", (@none Nat), .seq #[] 0, #[]⟩) ::
    (nat_lit 278, ⟨.type "code", (@none Nat), .fields #[.str "is_atom_code" 567, .str "is_atom_code" 568, .str "/claim/cut.py" 569, .int 213 0, .int 1 0, .int 0 0, .int 0 0, .int 3 0, .ref 273, .bool .true, .int 181 0, .ref 274, .none, .ref 275, .ref 276, .ref 277, .int 571 0, .int 213 0, .str "/claim/cut.py" 572], #[]⟩) ::
    (nat_lit 279, ⟨.type "function", (@none Nat), .func ⟨"is_atom_code", "is_atom_code", ?a47, .stmts ?b47, ?c47, 3, [], .none, .none, .none, .str "postkeep.wire" 506, (@none Nat), .ref 278, .none, 0⟩, #[]⟩) ::
    (nat_lit 280, ⟨.type "tuple", (@none Nat), .seq #[] 0, #[]⟩) ::
    (nat_lit 282, ⟨.type "tuple", (@none Nat), .seq #[.str "code" 577] 0, #[]⟩) ::
    (nat_lit 283, ⟨.type "tuple", (@none Nat), .seq #[] 0, #[]⟩) ::
    (nat_lit 285, ⟨.type "code", (@none Nat), .fields #[.str "is_astring_code" 574, .str "is_astring_code" 575, .str "/claim/cut.py" 576, .int 215 0, .int 1 0, .int 0 0, .int 0 0, .int 3 0, .ref 280, .bool .true, .int 181 0, .ref 281, .none, .ref 282, .ref 283, .ref 284, .int 578 0, .int 215 0, .str "/claim/cut.py" 579], #[]⟩) ::
    (nat_lit 286, ⟨.type "function", (@none Nat), .func ⟨"is_astring_code", "is_astring_code", ?a48, .stmts ?b48, ?c48, 3, [], .none, .none, .none, .str "postkeep.wire" 506, (@none Nat), .ref 285, .none, 0⟩, #[]⟩) ::
    (nat_lit 287, ⟨.type "tuple", (@none Nat), .seq #[] 0, #[]⟩) ::
    (nat_lit 289, ⟨.type "tuple", (@none Nat), .seq #[.str "code" 584] 0, #[]⟩) ::
    (nat_lit 290, ⟨.type "tuple", (@none Nat), .seq #[] 0, #[]⟩) ::
    (nat_lit 292, ⟨.type "code", (@none Nat), .fields #[.str "is_pattern_code" 581, .str "is_pattern_code" 582, .str "/claim/cut.py" 583, .int 217 0, .int 1 0, .int 0 0, .int 0 0, .int 3 0, .ref 287, .bool .true, .int 181 0, .ref 288, .none, .ref 289, .ref 290, .ref 291, .int 585 0, .int 217 0, .str "/claim/cut.py" 586], #[]⟩) ::
    (nat_lit 293, ⟨.type "function", (@none Nat), .func ⟨"is_pattern_code", "is_pattern_code", ?a49, .stmts ?b49, ?c49, 3, [], .none, .none, .none, .str "postkeep.wire" 506, (@none Nat), .ref 292, .none, 0⟩, #[]⟩) ::
    (nat_lit 294, ⟨.type "tuple", (@none Nat), .seq #[] 0, #[]⟩) ::
    (nat_lit 296, ⟨.type "tuple", (@none Nat), .seq #[.str "code" 591] 0, #[]⟩) ::
    (nat_lit 297, ⟨.type "tuple", (@none Nat), .seq #[] 0, #[]⟩) ::
    (nat_lit 299, ⟨.type "code", (@none Nat), .fields #[.str "is_value_code" 588, .str "is_value_code" 589, .str "/claim/cut.py" 590, .int 219 0, .int 1 0, .int 0 0, .int 0 0, .int 3 0, .ref 294, .bool .true, .int 181 0, .ref 295, .none, .ref 296, .ref 297, .ref 298, .int 592 0, .int 219 0, .str "/claim/cut.py" 593], #[]⟩) ::
    (nat_lit 300, ⟨.type "function", (@none Nat), .func ⟨"is_value_code", "is_value_code", ?a50, .stmts ?b50, ?c50, 3, [], .none, .none, .none, .str "postkeep.wire" 506, (@none Nat), .ref 299, .none, 0⟩, #[]⟩) ::
    (nat_lit 301, ⟨.type "tuple", (@none Nat), .seq #[] 0, #[]⟩) ::
    (nat_lit 303, ⟨.type "tuple", (@none Nat), .seq #[.str "code" 598] 0, #[]⟩) ::
    (nat_lit 304, ⟨.type "tuple", (@none Nat), .seq #[] 0, #[]⟩) ::
    (nat_lit 306, ⟨.type "code", (@none Nat), .fields #[.str "is_figure" 595, .str "is_figure" 596, .str "/claim/cut.py" 597, .int 221 0, .int 1 0, .int 0 0, .int 0 0, .int 3 0, .ref 301, .bool .true, .int 181 0, .ref 302, .none, .ref 303, .ref 304, .ref 305, .int 599 0, .int 221 0, .str "/claim/cut.py" 600], #[]⟩) ::
    (nat_lit 307, ⟨.type "function", (@none Nat), .func ⟨"is_figure", "is_figure", ?a51, .stmts ?b51, ?c51, 3, [], .none, .none, .none, .str "postkeep.wire" 506, (@none Nat), .ref 306, .none, 0⟩, #[]⟩) ::
    (nat_lit 308, ⟨.type "tuple", (@none Nat), .seq #[] 0, #[]⟩) ::
    (nat_lit 310, ⟨.type "tuple", (@none Nat), .seq #[.str "octets" 605, .str "number" 606, .str "code" 607] 0, #[]⟩) ::
    (nat_lit 311, ⟨.type "tuple", (@none Nat), .seq #[] 0, #[]⟩) ::
    (nat_lit 313, ⟨.type "code", (@none Nat), .fields #[.str "number_of_figures" 602, .str "number_of_figures" 603, .str "/claim/cut.py" 604, .int 223 0, .int 1 0, .int 0 0, .int 0 0, .int 3 0, .ref 308, .bool .true, .int 181 0, .ref 309, .none, .ref 310, .ref 311, .ref 312, .int 608 0, .int 223 0, .str "/claim/cut.py" 609], #[]⟩) ::
    (nat_lit 314, ⟨.type "function", (@none Nat), .func ⟨"number_of_figures", "number_of_figures", ?a52, .stmts ?b52, ?c52, 3, [], .none, .none, .none, .str "postkeep.wire" 506, (@none Nat), .ref 313, .none, 0⟩, #[]⟩) ::
    (nat_lit 315, ⟨.type "tuple", (@none Nat), .seq #[] 0, #[]⟩) ::
    (nat_lit 317, ⟨.type "tuple", (@none Nat), .seq #[.str "number" 614] 0, #[]⟩) ::
    (nat_lit 318, ⟨.type "tuple", (@none Nat), .seq #[] 0, #[]⟩) ::
    (nat_lit 320, ⟨.type "code", (@none Nat), .fields #[.str "figures_of" 611, .str "figures_of" 612, .str "/claim/cut.py" 613, .int 228 0, .int 1 0, .int 0 0, .int 0 0, .int 3 0, .ref 315, .bool .true, .int 181 0, .ref 316, .none, .ref 317, .ref 318, .ref 319, .int 615 0, .int 228 0, .str "/claim/cut.py" 616], #[]⟩) ::
    (nat_lit 321, ⟨.type "function", (@none Nat), .func ⟨"figures_of", "figures_of", ?a53, .stmts ?b53, ?c53, 3, [], .none, .none, .none, .str "postkeep.wire" 506, (@none Nat), .ref 320, .none, 0⟩, #[]⟩) ::
    (nat_lit 329, ⟨.type "tuple", (@none Nat), .seq #[.int 0 630] 0, #[]⟩) ::
    (nat_lit 330, ⟨.type "tuple", (@none Nat), .seq #[] 0, #[]⟩) ::
    (nat_lit 332, ⟨.type "tuple", (@none Nat), .seq #[.str "self" 634, .str "data" 635, .str "at" 636] 0, #[]⟩) ::
    (nat_lit 333, ⟨.type "tuple", (@none Nat), .seq #[] 0, #[]⟩) ::
    (nat_lit 335, ⟨.type "code", (@none Nat), .fields #[.str "__init__" 631, .str "Wire.__init__" 632, .str "/claim/cut.py" 633, .int 234 0, .int 3 0, .int 0 0, .int 0 0, .int 3 0, .ref 330, .bool .true, .int 181 0, .ref 331, .none, .ref 332, .ref 333, .ref 334, .int 637 0, .int 234 0, .str "/claim/cut.py" 638], #[]⟩) ::
    (nat_lit 336, ⟨.type "function", (@none Nat), .func ⟨"__init__", "Wire.__init__", ?a54x0, .stmts ?b54x0, ?c54x0, 3, [], .ref 329, .none, .none, .str "postkeep.wire" 506, (@none Nat), .ref 335, .none, 0⟩, #[]⟩) ::
    (nat_lit 337, ⟨.type "tuple", (@none Nat), .seq #[] 0, #[]⟩) ::
    (nat_lit 339, ⟨.type "tuple", (@none Nat), .seq #[.str "self" 643, .str "what" 644] 0, #[]⟩) ::
    (nat_lit 340, ⟨.type "tuple", (@none Nat), .seq #[] 0, #[]⟩) ::
    (nat_lit 342, ⟨.type "code", (@none Nat), .fields #[.str "fault" 640, .str "Wire.fault" 641, .str "/claim/cut.py" 642, .int 238 0, .int 2 0, .int 0 0, .int 0 0, .int 3 0, .ref 337, .bool .true, .int 181 0, .ref 338, .none, .ref 339, .ref 340, .ref 341, .int 645 0, .int 238 0, .str "/claim/cut.py" 646], #[]⟩) ::
    (nat_lit 343, ⟨.type "function", (@none Nat), .func ⟨"fault", "Wire.fault", ?a54x1, .stmts ?b54x1, ?c54x1, 3, [], .none, .none, .none, .str "postkeep.wire" 506, (@none Nat), .ref 342, .none, 0⟩, #[]⟩) ::
    (nat_lit 344, ⟨.type "tuple", (@none Nat), .seq #[] 0, #[]⟩) ::
    (nat_lit 346, ⟨.type "tuple", (@none Nat), .seq #[.str "self" 651] 0, #[]⟩) ::
    (nat_lit 347, ⟨.type "tuple", (@none Nat), .seq #[] 0, #[]⟩) ::
    (nat_lit 349, ⟨.type "code", (@none Nat), .fields #[.str "peek" 648, .str "Wire.peek" 649, .str "/claim/cut.py" 650, .int 241 0, .int 1 0, .int 0 0, .int 0 0, .int 3 0, .ref 344, .bool .true, .int 181 0, .ref 345, .none, .ref 346, .ref 347, .ref 348, .int 652 0, .int 241 0, .str "/claim/cut.py" 653], #[]⟩) ::
    (nat_lit 350, ⟨.type "function", (@none Nat), .func ⟨"peek", "Wire.peek", ?a54x2, .stmts ?b54x2, ?c54x2, 3, [], .none, .none, .none, .str "postkeep.wire" 506, (@none Nat), .ref 349, .none, 0⟩, #[]⟩) ::
    (nat_lit 351, ⟨.type "tuple", (@none Nat), .seq #[] 0, #[]⟩) ::
    (nat_lit 353, ⟨.type "tuple", (@none Nat), .seq #[.str "self" 658, .str "octets" 659] 0, #[]⟩) ::
    (nat_lit 354, ⟨.type "tuple", (@none Nat), .seq #[] 0, #[]⟩) ::
    (nat_lit 356, ⟨.type "code", (@none Nat), .fields #[.str "skip" 655, .str "Wire.skip" 656, .str "/claim/cut.py" 657, .int 244 0, .int 2 0, .int 0 0, .int 0 0, .int 3 0, .ref 351, .bool .true, .int 181 0, .ref 352, .none, .ref 353, .ref 354, .ref 355, .int 660 0, .int 244 0, .str "/claim/cut.py" 661], #[]⟩) ::
    (nat_lit 357, ⟨.type "function", (@none Nat), .func ⟨"skip", "Wire.skip", ?a54x3, .stmts ?b54x3, ?c54x3, 3, [], .none, .none, .none, .str "postkeep.wire" 506, (@none Nat), .ref 356, .none, 0⟩, #[]⟩) ::
    (nat_lit 358, ⟨.type "tuple", (@none Nat), .seq #[] 0, #[]⟩) ::
    (nat_lit 360, ⟨.type "tuple", (@none Nat), .seq #[.str "self" 666, .str "octets" 667, .str "what" 668] 0, #[]⟩) ::
    (nat_lit 361, ⟨.type "tuple", (@none Nat), .seq #[] 0, #[]⟩) ::
    (nat_lit 363, ⟨.type "code", (@none Nat), .fields #[.str "need" 663, .str "Wire.need" 664, .str "/claim/cut.py" 665, .int 250 0, .int 3 0, .int 0 0, .int 0 0, .int 3 0, .ref 358, .bool .true, .int 181 0, .ref 359, .none, .ref 360, .ref 361, .ref 362, .int 669 0, .int 250 0, .str "/claim/cut.py" 670], #[]⟩) ::
    (nat_lit 364, ⟨.type "function", (@none Nat), .func ⟨"need", "Wire.need", ?a54x4, .stmts ?b54x4, ?c54x4, 3, [], .none, .none, .none, .str "postkeep.wire" 506, (@none Nat), .ref 363, .none, 0⟩, #[]⟩) ::
    (nat_lit 365, ⟨.type "tuple", (@none Nat), .seq #[] 0, #[]⟩) ::
    (nat_lit 367, ⟨.type "tuple", (@none Nat), .seq #[.str "self" 675] 0, #[]⟩) ::
    (nat_lit 368, ⟨.type "tuple", (@none Nat), .seq #[] 0, #[]⟩) ::
    (nat_lit 370, ⟨.type "code", (@none Nat), .fields #[.str "space" 672, .str "Wire.space" 673, .str "/claim/cut.py" 674, .int 254 0, .int 1 0, .int 0 0, .int 0 0, .int 3 0, .ref 365, .bool .true, .int 181 0, .ref 366, .none, .ref 367, .ref 368, .ref 369, .int 676 0, .int 254 0, .str "/claim/cut.py" 677], #[]⟩) ::
    (nat_lit 371, ⟨.type "function", (@none Nat), .func ⟨"space", "Wire.space", ?a54x5, .stmts ?b54x5, ?c54x5, 3, [], .none, .none, .none, .str "postkeep.wire" 506, (@none Nat), .ref 370, .none, 0⟩, #[]⟩) ::
    (nat_lit 372, ⟨.type "tuple", (@none Nat), .seq #[] 0, #[]⟩) ::
    (nat_lit 374, ⟨.type "tuple", (@none Nat), .seq #[.str "self" 682] 0, #[]⟩) ::
    (nat_lit 375, ⟨.type "tuple", (@none Nat), .seq #[] 0, #[]⟩) ::
    (nat_lit 377, ⟨.type "code", (@none Nat), .fields #[.str "done" 679, .str "Wire.done" 680, .str "/claim/cut.py" 681, .int 257 0, .int 1 0, .int 0 0, .int 0 0, .int 3 0, .ref 372, .bool .true, .int 181 0, .ref 373, .none, .ref 374, .ref 375, .ref 376, .int 683 0, .int 257 0, .str "/claim/cut.py" 684], #[]⟩) ::
    (nat_lit 378, ⟨.type "function", (@none Nat), .func ⟨"done", "Wire.done", ?a54x6, .stmts ?b54x6, ?c54x6, 3, [], .none, .none, .none, .str "postkeep.wire" 506, (@none Nat), .ref 377, .none, 0⟩, #[]⟩) ::
    (nat_lit 379, ⟨.type "tuple", (@none Nat), .seq #[] 0, #[]⟩) ::
    (nat_lit 381, ⟨.type "tuple", (@none Nat), .seq #[.str "self" 689, .str "fits" 690, .str "first" 691] 0, #[]⟩) ::
    (nat_lit 382, ⟨.type "tuple", (@none Nat), .seq #[] 0, #[]⟩) ::
    (nat_lit 384, ⟨.type "code", (@none Nat), .fields #[.str "run" 686, .str "Wire.run" 687, .str "/claim/cut.py" 688, .int 260 0, .int 2 0, .int 0 0, .int 0 0, .int 3 0, .ref 379, .bool .true, .int 181 0, .ref 380, .none, .ref 381, .ref 382, .ref 383, .int 692 0, .int 260 0, .str "/claim/cut.py" 693], #[]⟩) ::
    (nat_lit 385, ⟨.type "function", (@none Nat), .func ⟨"run", "Wire.run", ?a54x7, .stmts ?b54x7, ?c54x7, 3, [], .none, .none, .none, .str "postkeep.wire" 506, (@none Nat), .ref 384, .none, 0⟩, #[]⟩) ::
    (nat_lit 386, ⟨.type "tuple", (@none Nat), .seq #[] 0, #[]⟩) ::
    (nat_lit 388, ⟨.type "tuple", (@none Nat), .seq #[.str "self" 698, .str "fits" 699, .str "what" 700, .str "octets" 701] 0, #[]⟩) ::
    (nat_lit 389, ⟨.type "tuple", (@none Nat), .seq #[] 0, #[]⟩) ::
    (nat_lit 391, ⟨.type "code", (@none Nat), .fields #[.str "word_of" 695, .str "Wire.word_of" 696, .str "/claim/cut.py" 697, .int 266 0, .int 3 0, .int 0 0, .int 0 0, .int 3 0, .ref 386, .bool .true, .int 181 0, .ref 387, .none, .ref 388, .ref 389, .ref 390, .int 702 0, .int 266 0, .str "/claim/cut.py" 703], #[]⟩) ::
    (nat_lit 392, ⟨.type "function", (@none Nat), .func ⟨"word_of", "Wire.word_of", ?a54x8, .stmts ?b54x8, ?c54x8, 3, [], .none, .none, .none, .str "postkeep.wire" 506, (@none Nat), .ref 391, .none, 0⟩, #[]⟩) ::
    (nat_lit 393, ⟨.type "tuple", (@none Nat), .seq #[] 0, #[]⟩) ::
    (nat_lit 395, ⟨.type "tuple", (@none Nat), .seq #[.str "self" 708] 0, #[]⟩) ::
    (nat_lit 396, ⟨.type "tuple", (@none Nat), .seq #[] 0, #[]⟩) ::
    (nat_lit 398, ⟨.type "code", (@none Nat), .fields #[.str "atom" 705, .str "Wire.atom" 706, .str "/claim/cut.py" 707, .int 272 0, .int 1 0, .int 0 0, .int 0 0, .int 3 0, .ref 393, .bool .true, .int 181 0, .ref 394, .none, .ref 395, .ref 396, .ref 397, .int 709 0, .int 272 0, .str "/claim/cut.py" 710], #[]⟩) ::
    (nat_lit 399, ⟨.type "function", (@none Nat), .func ⟨"atom", "Wire.atom", ?a54x9, .stmts ?b54x9, ?c54x9, 3, [], .none, .none, .none, .str "postkeep.wire" 506, (@none Nat), .ref 398, .none, 0⟩, #[]⟩) ::
    (nat_lit 400, ⟨.type "tuple", (@none Nat), .seq #[] 0, #[]⟩) ::
    (nat_lit 402, ⟨.type "tuple", (@none Nat), .seq #[.str "self" 715] 0, #[]⟩) ::
    (nat_lit 403, ⟨.type "tuple", (@none Nat), .seq #[] 0, #[]⟩) ::
    (nat_lit 405, ⟨.type "code", (@none Nat), .fields #[.str "word" 712, .str "Wire.word" 713, .str "/claim/cut.py" 714, .int 275 0, .int 1 0, .int 0 0, .int 0 0, .int 3 0, .ref 400, .bool .true, .int 181 0, .ref 401, .none, .ref 402, .ref 403, .ref 404, .int 716 0, .int 275 0, .str "/claim/cut.py" 717], #[]⟩) ::
    (nat_lit 406, ⟨.type "function", (@none Nat), .func ⟨"word", "Wire.word", ?a54x10, .stmts ?b54x10, ?c54x10, 3, [], .none, .none, .none, .str "postkeep.wire" 506, (@none Nat), .ref 405, .none, 0⟩, #[]⟩) ::
    (nat_lit 407, ⟨.type "tuple", (@none Nat), .seq #[] 0, #[]⟩) ::
    (nat_lit 409, ⟨.type "tuple", (@none Nat), .seq #[.str "self" 722, .str "text" 723] 0, #[]⟩) ::
    (nat_lit 410, ⟨.type "tuple", (@none Nat), .seq #[] 0, #[]⟩) ::
    (nat_lit 412, ⟨.type "code", (@none Nat), .fields #[.str "skip_word" 719, .str "Wire.skip_word" 720, .str "/claim/cut.py" 721, .int 278 0, .int 2 0, .int 0 0, .int 0 0, .int 3 0, .ref 407, .bool .true, .int 181 0, .ref 408, .none, .ref 409, .ref 410, .ref 411, .int 724 0, .int 278 0, .str "/claim/cut.py" 725], #[]⟩) ::
    (nat_lit 413, ⟨.type "function", (@none Nat), .func ⟨"skip_word", "Wire.skip_word", ?a54x11, .stmts ?b54x11, ?c54x11, 3, [], .none, .none, .none, .str "postkeep.wire" 506, (@none Nat), .ref 412, .none, 0⟩, #[]⟩) ::
    (nat_lit 414, ⟨.type "tuple", (@none Nat), .seq #[] 0, #[]⟩) ::
    (nat_lit 416, ⟨.type "tuple", (@none Nat), .seq #[.str "self" 730] 0, #[]⟩) ::
    (nat_lit 417, ⟨.type "tuple", (@none Nat), .seq #[] 0, #[]⟩) ::
    (nat_lit 419, ⟨.type "code", (@none Nat), .fields #[.str "set_text" 727, .str "Wire.set_text" 728, .str "/claim/cut.py" 729, .int 281 0, .int 1 0, .int 0 0, .int 0 0, .int 3 0, .ref 414, .bool .true, .int 181 0, .ref 415, .none, .ref 416, .ref 417, .ref 418, .int 731 0, .int 281 0, .str "/claim/cut.py" 732], #[]⟩) ::
    (nat_lit 420, ⟨.type "function", (@none Nat), .func ⟨"set_text", "Wire.set_text", ?a54x12, .stmts ?b54x12, ?c54x12, 3, [], .none, .none, .none, .str "postkeep.wire" 506, (@none Nat), .ref 419, .none, 0⟩, #[]⟩) ::
    (nat_lit 421, ⟨.type "tuple", (@none Nat), .seq #[] 0, #[]⟩) ::
    (nat_lit 423, ⟨.type "tuple", (@none Nat), .seq #[.str "self" 737] 0, #[]⟩) ::
    (nat_lit 424, ⟨.type "tuple", (@none Nat), .seq #[] 0, #[]⟩) ::
    (nat_lit 426, ⟨.type "code", (@none Nat), .fields #[.str "flag" 734, .str "Wire.flag" 735, .str "/claim/cut.py" 736, .int 284 0, .int 1 0, .int 0 0, .int 0 0, .int 3 0, .ref 421, .bool .true, .int 181 0, .ref 422, .none, .ref 423, .ref 424, .ref 425, .int 738 0, .int 284 0, .str "/claim/cut.py" 739], #[]⟩) ::
    (nat_lit 427, ⟨.type "function", (@none Nat), .func ⟨"flag", "Wire.flag", ?a54x13, .stmts ?b54x13, ?c54x13, 3, [], .none, .none, .none, .str "postkeep.wire" 506, (@none Nat), .ref 426, .none, 0⟩, #[]⟩) ::
    (nat_lit 428, ⟨.type "tuple", (@none Nat), .seq #[] 0, #[]⟩) ::
    (nat_lit 430, ⟨.type "tuple", (@none Nat), .seq #[.str "self" 744, .str "first" 745, .str "octets" 746] 0, #[]⟩) ::
    (nat_lit 431, ⟨.type "tuple", (@none Nat), .seq #[] 0, #[]⟩) ::
    (nat_lit 433, ⟨.type "code", (@none Nat), .fields #[.str "number" 741, .str "Wire.number" 742, .str "/claim/cut.py" 743, .int 287 0, .int 1 0, .int 0 0, .int 0 0, .int 3 0, .ref 428, .bool .true, .int 181 0, .ref 429, .none, .ref 430, .ref 431, .ref 432, .int 747 0, .int 287 0, .str "/claim/cut.py" 748], #[]⟩) ::
    (nat_lit 434, ⟨.type "function", (@none Nat), .func ⟨"number", "Wire.number", ?a54x14, .stmts ?b54x14, ?c54x14, 3, [], .none, .none, .none, .str "postkeep.wire" 506, (@none Nat), .ref 433, .none, 0⟩, #[]⟩) ::
    (nat_lit 435, ⟨.type "tuple", (@none Nat), .seq #[] 0, #[]⟩) ::
    (nat_lit 437, ⟨.type "tuple", (@none Nat), .seq #[.str "self" 753, .str "found" 754] 0, #[]⟩) ::
    (nat_lit 438, ⟨.type "tuple", (@none Nat), .seq #[] 0, #[]⟩) ::
    (nat_lit 440, ⟨.type "code", (@none Nat), .fields #[.str "quoted" 750, .str "Wire.quoted" 751, .str "/claim/cut.py" 752, .int 294 0, .int 1 0, .int 0 0, .int 0 0, .int 3 0, .ref 435, .bool .true, .int 181 0, .ref 436, .none, .ref 437, .ref 438, .ref 439, .int 755 0, .int 294 0, .str "/claim/cut.py" 756], #[]⟩) ::
    (nat_lit 441, ⟨.type "function", (@none Nat), .func ⟨"quoted", "Wire.quoted", ?a54x15, .stmts ?b54x15, ?c54x15, 3, [], .none, .none, .none, .str "postkeep.wire" 506, (@none Nat), .ref 440, .none, 0⟩, #[]⟩) ::
    (nat_lit 442, ⟨.type "tuple", (@none Nat), .seq #[] 0, #[]⟩) ::
    (nat_lit 444, ⟨.type "tuple", (@none Nat), .seq #[.str "self" 761, .str "octets" 762, .str "end" 763, .str "found" 764] 0, #[]⟩) ::
    (nat_lit 445, ⟨.type "tuple", (@none Nat), .seq #[] 0, #[]⟩) ::
    (nat_lit 447, ⟨.type "code", (@none Nat), .fields #[.str "literal" 758, .str "Wire.literal" 759, .str "/claim/cut.py" 760, .int 309 0, .int 1 0, .int 0 0, .int 0 0, .int 3 0, .ref 442, .bool .true, .int 181 0, .ref 443, .none, .ref 444, .ref 445, .ref 446, .int 765 0, .int 309 0, .str "/claim/cut.py" 766], #[]⟩) ::
    (nat_lit 448, ⟨.type "function", (@none Nat), .func ⟨"literal", "Wire.literal", ?a54x16, .stmts ?b54x16, ?c54x16, 3, [], .none, .none, .none, .str "postkeep.wire" 506, (@none Nat), .ref 447, .none, 0⟩, #[]⟩) ::
    (nat_lit 449, ⟨.type "tuple", (@none Nat), .seq #[] 0, #[]⟩) ::
    (nat_lit 451, ⟨.type "tuple", (@none Nat), .seq #[.str "self" 771] 0, #[]⟩) ::
    (nat_lit 452, ⟨.type "tuple", (@none Nat), .seq #[] 0, #[]⟩) ::
    (nat_lit 454, ⟨.type "code", (@none Nat), .fields #[.str "string" 768, .str "Wire.string" 769, .str "/claim/cut.py" 770, .int 323 0, .int 1 0, .int 0 0, .int 0 0, .int 3 0, .ref 449, .bool .true, .int 181 0, .ref 450, .none, .ref 451, .ref 452, .ref 453, .int 772 0, .int 323 0, .str "/claim/cut.py" 773], #[]⟩) ::
    (nat_lit 455, ⟨.type "function", (@none Nat), .func ⟨"string", "Wire.string", ?a54x17, .stmts ?b54x17, ?c54x17, 3, [], .none, .none, .none, .str "postkeep.wire" 506, (@none Nat), .ref 454, .none, 0⟩, #[]⟩) ::
    (nat_lit 456, ⟨.type "tuple", (@none Nat), .seq #[] 0, #[]⟩) ::
    (nat_lit 458, ⟨.type "tuple", (@none Nat), .seq #[.str "self" 778, .str "fits" 779, .str "octets" 780] 0, #[]⟩) ::
    (nat_lit 459, ⟨.type "tuple", (@none Nat), .seq #[] 0, #[]⟩) ::
    (nat_lit 461, ⟨.type "code", (@none Nat), .fields #[.str "string_or" 775, .str "Wire.string_or" 776, .str "/claim/cut.py" 777, .int 326 0, .int 2 0, .int 0 0, .int 0 0, .int 3 0, .ref 456, .bool .true, .int 181 0, .ref 457, .none, .ref 458, .ref 459, .ref 460, .int 781 0, .int 326 0, .str "/claim/cut.py" 782], #[]⟩) ::
    (nat_lit 462, ⟨.type "function", (@none Nat), .func ⟨"string_or", "Wire.string_or", ?a54x18, .stmts ?b54x18, ?c54x18, 3, [], .none, .none, .none, .str "postkeep.wire" 506, (@none Nat), .ref 461, .none, 0⟩, #[]⟩) ::
    (nat_lit 463, ⟨.type "tuple", (@none Nat), .seq #[] 0, #[]⟩) ::
    (nat_lit 465, ⟨.type "tuple", (@none Nat), .seq #[.str "self" 787] 0, #[]⟩) ::
    (nat_lit 466, ⟨.type "tuple", (@none Nat), .seq #[] 0, #[]⟩) ::
    (nat_lit 468, ⟨.type "code", (@none Nat), .fields #[.str "astring" 784, .str "Wire.astring" 785, .str "/claim/cut.py" 786, .int 334 0, .int 1 0, .int 0 0, .int 0 0, .int 3 0, .ref 463, .bool .true, .int 181 0, .ref 464, .none, .ref 465, .ref 466, .ref 467, .int 788 0, .int 334 0, .str "/claim/cut.py" 789], #[]⟩) ::
    (nat_lit 469, ⟨.type "function", (@none Nat), .func ⟨"astring", "Wire.astring", ?a54x19, .stmts ?b54x19, ?c54x19, 3, [], .none, .none, .none, .str "postkeep.wire" 506, (@none Nat), .ref 468, .none, 0⟩, #[]⟩) ::
    (nat_lit 470, ⟨.type "tuple", (@none Nat), .seq #[] 0, #[]⟩) ::
    (nat_lit 472, ⟨.type "tuple", (@none Nat), .seq #[.str "self" 794] 0, #[]⟩) ::
    (nat_lit 473, ⟨.type "tuple", (@none Nat), .seq #[] 0, #[]⟩) ::
    (nat_lit 475, ⟨.type "code", (@none Nat), .fields #[.str "pattern" 791, .str "Wire.pattern" 792, .str "/claim/cut.py" 793, .int 337 0, .int 1 0, .int 0 0, .int 0 0, .int 3 0, .ref 470, .bool .true, .int 181 0, .ref 471, .none, .ref 472, .ref 473, .ref 474, .int 795 0, .int 337 0, .str "/claim/cut.py" 796], #[]⟩) ::
    (nat_lit 476, ⟨.type "function", (@none Nat), .func ⟨"pattern", "Wire.pattern", ?a54x20, .stmts ?b54x20, ?c54x20, 3, [], .none, .none, .none, .str "postkeep.wire" 506, (@none Nat), .ref 475, .none, 0⟩, #[]⟩) ::
    (nat_lit 477, ⟨.type "tuple", (@none Nat), .seq #[] 0, #[]⟩) ::
    (nat_lit 479, ⟨.type "tuple", (@none Nat), .seq #[.str "self" 801] 0, #[]⟩) ::
    (nat_lit 480, ⟨.type "tuple", (@none Nat), .seq #[] 0, #[]⟩) ::
    (nat_lit 482, ⟨.type "code", (@none Nat), .fields #[.str "nstring" 798, .str "Wire.nstring" 799, .str "/claim/cut.py" 800, .int 340 0, .int 1 0, .int 0 0, .int 0 0, .int 3 0, .ref 477, .bool .true, .int 181 0, .ref 478, .none, .ref 479, .ref 480, .ref 481, .int 802 0, .int 340 0, .str "/claim/cut.py" 803], #[]⟩) ::
    (nat_lit 483, ⟨.type "function", (@none Nat), .func ⟨"nstring", "Wire.nstring", ?a54x21, .stmts ?b54x21, ?c54x21, 3, [], .none, .none, .none, .str "postkeep.wire" 506, (@none Nat), .ref 482, .none, 0⟩, #[]⟩) ::
    (nat_lit 484, ⟨.type "tuple", (@none Nat), .seq #[] 0, #[]⟩) ::
    (nat_lit 486, ⟨.type "tuple", (@none Nat), .seq #[.str "self" 808, .str "read" 809, .str "found" 810] 0, #[]⟩) ::
    (nat_lit 487, ⟨.type "tuple", (@none Nat), .seq #[] 0, #[]⟩) ::
    (nat_lit 489, ⟨.type "code", (@none Nat), .fields #[.str "list_of" 805, .str "Wire.list_of" 806, .str "/claim/cut.py" 807, .int 343 0, .int 2 0, .int 0 0, .int 0 0, .int 3 0, .ref 484, .bool .true, .int 181 0, .ref 485, .none, .ref 486, .ref 487, .ref 488, .int 811 0, .int 343 0, .str "/claim/cut.py" 812], #[]⟩) ::
    (nat_lit 490, ⟨.type "function", (@none Nat), .func ⟨"list_of", "Wire.list_of", ?a54x22, .stmts ?b54x22, ?c54x22, 3, [], .none, .none, .none, .str "postkeep.wire" 506, (@none Nat), .ref 489, .none, 0⟩, #[]⟩) ::
    (nat_lit 491, ⟨.type "tuple", (@none Nat), .seq #[] 0, #[]⟩) ::
    (nat_lit 494, ⟨.type "code", (@none Nat), .fields #[.str "plain_value" 814, .str "Wire.plain_value" 815, .str "/claim/cut.py" 816, .int 354 0, .int 1 0, .int 0 0, .int 0 0, .int 3 0, .ref 491, .bool .true, .int 181 0, .ref 492, .none, .none, .none, .ref 493, .int 817 0, .int 354 0, .str "/claim/cut.py" 818], #[]⟩) ::
    (nat_lit 495, ⟨.type "function", (@none Nat), .func ⟨"plain_value", "Wire.plain_value", ?a54x23, .stmts ?b54x23, ?c54x23, 3, [], .none, .none, .none, .str "postkeep.wire" 506, (@none Nat), .ref 494, .none, 0⟩, #[]⟩) ::
    (nat_lit 496, ⟨.type "tuple", (@none Nat), .seq #[.int 0 820] 0, #[]⟩) ::
    (nat_lit 497, ⟨.type "tuple", (@none Nat), .seq #[] 0, #[]⟩) ::
    (nat_lit 499, ⟨.type "tuple", (@none Nat), .seq #[.str "self" 824, .str "depth" 825, .str "found" 826] 0, #[]⟩) ::
    (nat_lit 500, ⟨.type "tuple", (@none Nat), .seq #[] 0, #[]⟩) ::
    (nat_lit 502, ⟨.type "code", (@none Nat), .fields #[.str "value" 821, .str "Wire.value" 822, .str "/claim/cut.py" 823, .int 367 0, .int 2 0, .int 0 0, .int 0 0, .int 3 0, .ref 497, .bool .true, .int 181 0, .ref 498, .none, .ref 499, .ref 500, .ref 501, .int 827 0, .int 367 0, .str "/claim/cut.py" 828], #[]⟩) ::
    (nat_lit 503, ⟨.type "function", (@none Nat), .func ⟨"value", "Wire.value", ?a54x24, .stmts ?b54x24, ?c54x24, 3, [], .ref 496, .none, .none, .str "postkeep.wire" 506, (@none Nat), .ref 502, .none, 0⟩, #[]⟩) ::
    (nat_lit 504, ⟨.type "tuple", (@none Nat), .seq #[.str "at" 830, .str "data" 831] 0, #[]⟩) ::
    (nat_lit 505, ⟨.type "dict", (@none Nat), .dict #[⟨PyData.keyHash P "__module__", .str "__module__" 625, .str "postkeep.wire" 506⟩, ⟨PyData.keyHash P "__firstlineno__", .str "__firstlineno__" 629, .int 232 628⟩, ⟨PyData.keyHash P "__init__", .str "__init__" 639, .ref 336⟩, ⟨PyData.keyHash P "fault", .str "fault" 647, .ref 343⟩, ⟨PyData.keyHash P "peek", .str "peek" 654, .ref 350⟩, ⟨PyData.keyHash P "skip", .str "skip" 662, .ref 357⟩, ⟨PyData.keyHash P "need", .str "need" 671, .ref 364⟩, ⟨PyData.keyHash P "space", .str "space" 678, .ref 371⟩, ⟨PyData.keyHash P "done", .str "done" 685, .ref 378⟩, ⟨PyData.keyHash P "run", .str "run" 694, .ref 385⟩, ⟨PyData.keyHash P "word_of", .str "word_of" 704, .ref 392⟩, ⟨PyData.keyHash P "atom", .str "atom" 711, .ref 399⟩, ⟨PyData.keyHash P "word", .str "word" 718, .ref 406⟩, ⟨PyData.keyHash P "skip_word", .str "skip_word" 726, .ref 413⟩, ⟨PyData.keyHash P "set_text", .str "set_text" 733, .ref 420⟩, ⟨PyData.keyHash P "flag", .str "flag" 740, .ref 427⟩, ⟨PyData.keyHash P "number", .str "number" 749, .ref 434⟩, ⟨PyData.keyHash P "quoted", .str "quoted" 757, .ref 441⟩, ⟨PyData.keyHash P "literal", .str "literal" 767, .ref 448⟩, ⟨PyData.keyHash P "string", .str "string" 774, .ref 455⟩, ⟨PyData.keyHash P "string_or", .str "string_or" 783, .ref 462⟩, ⟨PyData.keyHash P "astring", .str "astring" 790, .ref 469⟩, ⟨PyData.keyHash P "pattern", .str "pattern" 797, .ref 476⟩, ⟨PyData.keyHash P "nstring", .str "nstring" 804, .ref 483⟩, ⟨PyData.keyHash P "list_of", .str "list_of" 813, .ref 490⟩, ⟨PyData.keyHash P "plain_value", .str "plain_value" 819, .ref 495⟩, ⟨PyData.keyHash P "value", .str "value" 829, .ref 503⟩, ⟨PyData.keyHash P "__static_attributes__", .str "__static_attributes__" 832, .ref 504⟩, ⟨PyData.keyHash P "__dict__", .str "__dict__" 834, .ref 507⟩, ⟨PyData.keyHash P "__weakref__", .str "__weakref__" 836, .ref 508⟩, ⟨PyData.keyHash P "__doc__", .str "__doc__" 837, .none⟩] 4, #[]⟩) ::
    (nat_lit 506, ⟨.type "type", (@none Nat), .cls ⟨"Wire", [.type "object"], [.ref 506, .type "object"], 505, "Wire", .true, [], [], .false, none, .false⟩, #[none, none, some (.str "Wire" 618), some (.str "Wire" 626), some (.builtin "object.__new__"), some (.bool .true)]⟩) ::
    (nat_lit 507, ⟨.type "getset_descriptor", (@none Nat), .fields #[.str "__dict__" 833, .ref 506, .builtin "function.__dict__", .builtin "function.__dict__#set"], #[]⟩) ::
    (nat_lit 508, ⟨.type "getset_descriptor", (@none Nat), .fields #[.str "__weakref__" 835, .ref 506, .builtin "ExceptionGroup.__weakref__", .none], #[]⟩) ::
    (nat_lit 511, ⟨.type "tuple", (@none Nat), .seq #[] 0, #[]⟩) ::
    (nat_lit 514, ⟨.type "code", (@none Nat), .fields #[.str "is_quotable" 840, .str "is_quotable" 841, .str "/claim/cut.py" 842, .int 381 0, .int 1 0, .int 0 0, .int 0 0, .int 3 0, .ref 511, .bool .true, .int 181 0, .ref 512, .none, .none, .none, .ref 513, .int 843 0, .int 381 0, .str "/claim/cut.py" 844], #[]⟩) ::
    (nat_lit 515, ⟨.type "function", (@none Nat), .func ⟨"is_quotable", "is_quotable", ?a55, .stmts ?b55, ?c55, 3, [], .none, .none, .none, .str "postkeep.wire" 506, (@none Nat), .ref 514, .none, 0⟩, #[]⟩) ::
    (nat_lit 516, ⟨.type "tuple", (@none Nat), .seq #[] 0, #[]⟩) ::
    (nat_lit 518, ⟨.type "tuple", (@none Nat), .seq #[.str "octets" 849, .str "found" 850, .str "code" 851] 0, #[]⟩) ::
    (nat_lit 519, ⟨.type "tuple", (@none Nat), .seq #[] 0, #[]⟩) ::
    (nat_lit 521, ⟨.type "code", (@none Nat), .fields #[.str "quoted_octets" 846, .str "quoted_octets" 847, .str "/claim/cut.py" 848, .int 383 0, .int 1 0, .int 0 0, .int 0 0, .int 3 0, .ref 516, .bool .true, .int 181 0, .ref 517, .none, .ref 518, .ref 519, .ref 520, .int 852 0, .int 383 0, .str "/claim/cut.py" 853], #[]⟩) ::
    (nat_lit 522, ⟨.type "function", (@none Nat), .func ⟨"quoted_octets", "quoted_octets", ?a56, .stmts ?b56, ?c56, 3, [], .none, .none, .none, .str "postkeep.wire" 506, (@none Nat), .ref 521, .none, 0⟩, #[]⟩) ::
    (nat_lit 523, ⟨.type "tuple", (@none Nat), .seq #[.bool .false] 0, #[]⟩) ::
    (nat_lit 524, ⟨.type "tuple", (@none Nat), .seq #[] 0, #[]⟩) ::
    (nat_lit 526, ⟨.type "tuple", (@none Nat), .seq #[.str "octets" 858, .str "is_plus" 859] 0, #[]⟩) ::
    (nat_lit 527, ⟨.type "tuple", (@none Nat), .seq #[] 0, #[]⟩) ::
    (nat_lit 529, ⟨.type "code", (@none Nat), .fields #[.str "literal_octets" 855, .str "literal_octets" 856, .str "/claim/cut.py" 857, .int 391 0, .int 2 0, .int 0 0, .int 0 0, .int 3 0, .ref 524, .bool .true, .int 181 0, .ref 525, .none, .ref 526, .ref 527, .ref 528, .int 860 0, .int 391 0, .str "/claim/cut.py" 861], #[]⟩) ::
    (nat_lit 530, ⟨.type "function", (@none Nat), .func ⟨"literal_octets", "literal_octets", ?a57, .stmts ?b57, ?c57, 3, [], .ref 523, .none, .none, .str "postkeep.wire" 506, (@none Nat), .ref 529, .none, 0⟩, #[]⟩) ::
    (nat_lit 531, ⟨.type "tuple", (@none Nat), .seq #[.bool .false] 0, #[]⟩) ::
    (nat_lit 532, ⟨.type "tuple", (@none Nat), .seq #[] 0, #[]⟩) ::
    (nat_lit 534, ⟨.type "tuple", (@none Nat), .seq #[.str "octets" 866, .str "is_plus" 867] 0, #[]⟩) ::
    (nat_lit 535, ⟨.type "tuple", (@none Nat), .seq #[] 0, #[]⟩) ::
    (nat_lit 537, ⟨.type "code", (@none Nat), .fields #[.str "string_octets" 863, .str "string_octets" 864, .str "/claim/cut.py" 865, .int 393 0, .int 2 0, .int 0 0, .int 0 0, .int 3 0, .ref 532, .bool .true, .int 181 0, .ref 533, .none, .ref 534, .ref 535, .ref 536, .int 868 0, .int 393 0, .str "/claim/cut.py" 869], #[]⟩) ::
    (nat_lit 538, ⟨.type "function", (@none Nat), .func ⟨"string_octets", "string_octets", ?a58, .stmts ?b58, ?c58, 3, [], .ref 531, .none, .none, .str "postkeep.wire" 506, (@none Nat), .ref 537, .none, 0⟩, #[]⟩) ::
    (nat_lit 539, ⟨.type "tuple", (@none Nat), .seq #[.bool .false] 0, #[]⟩) ::
    (nat_lit 540, ⟨.type "tuple", (@none Nat), .seq #[] 0, #[]⟩) ::
    (nat_lit 543, ⟨.type "code", (@none Nat), .fields #[.str "astring_octets" 871, .str "astring_octets" 872, .str "/claim/cut.py" 873, .int 397 0, .int 2 0, .int 0 0, .int 0 0, .int 3 0, .ref 540, .bool .true, .int 181 0, .ref 541, .none, .none, .none, .ref 542, .int 874 0, .int 397 0, .str "/claim/cut.py" 875], #[]⟩) ::
    (nat_lit 544, ⟨.type "function", (@none Nat), .func ⟨"astring_octets", "astring_octets", ?a59, .stmts ?b59, ?c59, 3, [], .ref 539, .none, .none, .str "postkeep.wire" 506, (@none Nat), .ref 543, .none, 0⟩, #[]⟩) ::
    (nat_lit 545, ⟨.type "tuple", (@none Nat), .seq #[] 0, #[]⟩) ::
    (nat_lit 547, ⟨.type "tuple", (@none Nat), .seq #[.str "name" 882] 0, #[]⟩) ::
    (nat_lit 548, ⟨.type "tuple", (@none Nat), .seq #[] 0, #[]⟩) ::
    (nat_lit 550, ⟨.type "code", (@none Nat), .fields #[.str "name_part" 879, .str "name_part" 880, .str "/claim/cut.py" 881, .int 403 0, .int 1 0, .int 0 0, .int 0 0, .int 3 0, .ref 545, .bool .true, .int 181 0, .ref 546, .none, .ref 547, .ref 548, .ref 549, .int 883 0, .int 403 0, .str "/claim/cut.py" 884], #[]⟩) ::
    (nat_lit 551, ⟨.type "function", (@none Nat), .func ⟨"name_part", "name_part", ?a61, .stmts ?b61, ?c61, 3, [], .none, .none, .none, .str "postkeep.cmdwrite" 877, (@none Nat), .ref 550, .none, 0⟩, #[]⟩) ::
    (nat_lit 552, ⟨.type "tuple", (@none Nat), .seq #[] 0, #[]⟩) ::
    (nat_lit 555, ⟨.type "code", (@none Nat), .fields #[.str "pattern_part" 886, .str "pattern_part" 887, .str "/claim/cut.py" 888, .int 405 0, .int 1 0, .int 0 0, .int 0 0, .int 3 0, .ref 552, .bool .true, .int 181 0, .ref 553, .none, .none, .none, .ref 554, .int 889 0, .int 405 0, .str "/claim/cut.py" 890], #[]⟩) ::
    (nat_lit 556, ⟨.type "function", (@none Nat), .func ⟨"pattern_part", "pattern_part", ?a62, .stmts ?b62, ?c62, 3, [], .none, .none, .none, .str "postkeep.cmdwrite" 877, (@none Nat), .ref 555, .none, 0⟩, #[]⟩) ::
    (nat_lit 557, ⟨.type "tuple", (@none Nat), .seq #[] 0, #[]⟩) ::
    (nat_lit 559, ⟨.type "tuple", (@none Nat), .seq #[.str "words" 895] 0, #[]⟩) ::
    (nat_lit 560, ⟨.type "tuple", (@none Nat), .seq #[] 0, #[]⟩) ::
    (nat_lit 562, ⟨.type "code", (@none Nat), .fields #[.str "words_part" 892, .str "words_part" 893, .str "/claim/cut.py" 894, .int 410 0, .int 1 0, .int 0 0, .int 0 0, .int 3 0, .ref 557, .bool .true, .int 181 0, .ref 558, .none, .ref 559, .ref 560, .ref 561, .int 896 0, .int 410 0, .str "/claim/cut.py" 897], #[]⟩) ::
    (nat_lit 563, ⟨.type "function", (@none Nat), .func ⟨"words_part", "words_part", ?a63, .stmts ?b63, ?c63, 3, [], .none, .none, .none, .str "postkeep.cmdwrite" 877, (@none Nat), .ref 562, .none, 0⟩, #[]⟩) ::
    (nat_lit 564, ⟨.type "tuple", (@none Nat), .seq #[] 0, #[]⟩) ::
    (nat_lit 566, ⟨.type "tuple", (@none Nat), .seq #[.str "args" 902] 0, #[]⟩) ::
    (nat_lit 567, ⟨.type "tuple", (@none Nat), .seq #[] 0, #[]⟩) ::
    (nat_lit 569, ⟨.type "code", (@none Nat), .fields #[.str "write_login" 899, .str "write_login" 900, .str "/claim/cut.py" 901, .int 412 0, .int 1 0, .int 0 0, .int 0 0, .int 3 0, .ref 564, .bool .true, .int 181 0, .ref 565, .none, .ref 566, .ref 567, .ref 568, .int 903 0, .int 412 0, .str "/claim/cut.py" 904], #[]⟩) ::
    (nat_lit 570, ⟨.type "function", (@none Nat), .func ⟨"write_login", "write_login", ?a64, .stmts ?b64, ?c64, 3, [], .none, .none, .none, .str "postkeep.cmdwrite" 877, (@none Nat), .ref 569, .none, 0⟩, #[]⟩) ::
    (nat_lit 571, ⟨.type "tuple", (@none Nat), .seq #[] 0, #[]⟩) ::
    (nat_lit 573, ⟨.type "tuple", (@none Nat), .seq #[.str "args" 909] 0, #[]⟩) ::
    (nat_lit 574, ⟨.type "tuple", (@none Nat), .seq #[] 0, #[]⟩) ::
    (nat_lit 576, ⟨.type "code", (@none Nat), .fields #[.str "write_enable" 906, .str "write_enable" 907, .str "/claim/cut.py" 908, .int 414 0, .int 1 0, .int 0 0, .int 0 0, .int 3 0, .ref 571, .bool .true, .int 181 0, .ref 572, .none, .ref 573, .ref 574, .ref 575, .int 910 0, .int 414 0, .str "/claim/cut.py" 911], #[]⟩) ::
    (nat_lit 577, ⟨.type "function", (@none Nat), .func ⟨"write_enable", "write_enable", ?a65, .stmts ?b65, ?c65, 3, [], .none, .none, .none, .str "postkeep.cmdwrite" 877, (@none Nat), .ref 576, .none, 0⟩, #[]⟩) ::
    (nat_lit 578, ⟨.type "tuple", (@none Nat), .seq #[] 0, #[]⟩) ::
    (nat_lit 580, ⟨.type "tuple", (@none Nat), .seq #[.str "args" 916] 0, #[]⟩) ::
    (nat_lit 581, ⟨.type "tuple", (@none Nat), .seq #[] 0, #[]⟩) ::
    (nat_lit 583, ⟨.type "code", (@none Nat), .fields #[.str "write_rename" 913, .str "write_rename" 914, .str "/claim/cut.py" 915, .int 416 0, .int 1 0, .int 0 0, .int 0 0, .int 3 0, .ref 578, .bool .true, .int 181 0, .ref 579, .none, .ref 580, .ref 581, .ref 582, .int 917 0, .int 416 0, .str "/claim/cut.py" 918], #[]⟩) ::
    (nat_lit 584, ⟨.type "function", (@none Nat), .func ⟨"write_rename", "write_rename", ?a66, .stmts ?b66, ?c66, 3, [], .none, .none, .none, .str "postkeep.cmdwrite" 877, (@none Nat), .ref 583, .none, 0⟩, #[]⟩) ::
    (nat_lit 585, ⟨.type "tuple", (@none Nat), .seq #[] 0, #[]⟩) ::
    (nat_lit 587, ⟨.type "tuple", (@none Nat), .seq #[.str "args" 923] 0, #[]⟩) ::
    (nat_lit 588, ⟨.type "tuple", (@none Nat), .seq #[] 0, #[]⟩) ::
    (nat_lit 590, ⟨.type "code", (@none Nat), .fields #[.str "write_list" 920, .str "write_list" 921, .str "/claim/cut.py" 922, .int 418 0, .int 1 0, .int 0 0, .int 0 0, .int 3 0, .ref 585, .bool .true, .int 181 0, .ref 586, .none, .ref 587, .ref 588, .ref 589, .int 924 0, .int 418 0, .str "/claim/cut.py" 925], #[]⟩) ::
    (nat_lit 591, ⟨.type "function", (@none Nat), .func ⟨"write_list", "write_list", ?a67, .stmts ?b67, ?c67, 3, [], .none, .none, .none, .str "postkeep.cmdwrite" 877, (@none Nat), .ref 590, .none, 0⟩, #[]⟩) ::
    (nat_lit 592, ⟨.type "tuple", (@none Nat), .seq #[] 0, #[]⟩) ::
    (nat_lit 594, ⟨.type "tuple", (@none Nat), .seq #[.str "args" 930] 0, #[]⟩) ::
    (nat_lit 595, ⟨.type "tuple", (@none Nat), .seq #[] 0, #[]⟩) ::
    (nat_lit 597, ⟨.type "code", (@none Nat), .fields #[.str "write_status" 927, .str "write_status" 928, .str "/claim/cut.py" 929, .int 420 0, .int 1 0, .int 0 0, .int 0 0, .int 3 0, .ref 592, .bool .true, .int 181 0, .ref 593, .none, .ref 594, .ref 595, .ref 596, .int 931 0, .int 420 0, .str "/claim/cut.py" 932], #[]⟩) ::
    (nat_lit 598, ⟨.type "function", (@none Nat), .func ⟨"write_status", "write_status", ?a68, .stmts ?b68, ?c68, 3, [], .none, .none, .none, .str "postkeep.cmdwrite" 877, (@none Nat), .ref 597, .none, 0⟩, #[]⟩) ::
    (nat_lit 599, ⟨.type "tuple", (@none Nat), .seq #[] 0, #[]⟩) ::
    (nat_lit 601, ⟨.type "tuple", (@none Nat), .seq #[.str "word" 941, .str "words" 942, .str "wire" 943] 0, #[]⟩) ::
    (nat_lit 602, ⟨.type "tuple", (@none Nat), .seq #[] 0, #[]⟩) ::
    (nat_lit 604, ⟨.type "code", (@none Nat), .fields #[.str "one_of" 938, .str "one_of" 939, .str "/claim/cut.py" 940, .int 424 0, .int 3 0, .int 0 0, .int 0 0, .int 3 0, .ref 599, .bool .true, .int 181 0, .ref 600, .none, .ref 601, .ref 602, .ref 603, .int 944 0, .int 424 0, .str "/claim/cut.py" 945], #[]⟩) ::
    (nat_lit 605, ⟨.type "function", (@none Nat), .func ⟨"one_of", "one_of", ?a71, .stmts ?b71, ?c71, 3, [], .none, .none, .none, .str "postkeep.cmdread" 934, (@none Nat), .ref 604, .none, 0⟩, #[]⟩) ::
    (nat_lit 606, ⟨.type "tuple", (@none Nat), .seq #[] 0, #[]⟩) ::
    (nat_lit 608, ⟨.type "tuple", (@none Nat), .seq #[.str "wire" 950, .str "first" 951, .str "fault" 952] 0, #[]⟩) ::
    (nat_lit 609, ⟨.type "tuple", (@none Nat), .seq #[] 0, #[]⟩) ::
    (nat_lit 611, ⟨.type "code", (@none Nat), .fields #[.str "name_here" 947, .str "name_here" 948, .str "/claim/cut.py" 949, .int 428 0, .int 1 0, .int 0 0, .int 0 0, .int 3 0, .ref 606, .bool .true, .int 181 0, .ref 607, .none, .ref 608, .ref 609, .ref 610, .int 953 0, .int 428 0, .str "/claim/cut.py" 954], #[]⟩) ::
    (nat_lit 612, ⟨.type "function", (@none Nat), .func ⟨"name_here", "name_here", ?a72, .stmts ?b72, ?c72, 3, [], .none, .none, .none, .str "postkeep.cmdread" 934, (@none Nat), .ref 611, .none, 0⟩, #[]⟩) ::
    (nat_lit 613, ⟨.type "tuple", (@none Nat), .seq #[] 0, #[]⟩) ::
    (nat_lit 615, ⟨.type "tuple", (@none Nat), .seq #[.str "wire" 959, .str "read" 960, .str "first" 961, .str "fault" 962] 0, #[]⟩) ::
    (nat_lit 616, ⟨.type "tuple", (@none Nat), .seq #[] 0, #[]⟩) ::
    (nat_lit 618, ⟨.type "code", (@none Nat), .fields #[.str "pattern_here" 956, .str "pattern_here" 957, .str "/claim/cut.py" 958, .int 434 0, .int 2 0, .int 0 0, .int 0 0, .int 3 0, .ref 613, .bool .true, .int 181 0, .ref 614, .none, .ref 615, .ref 616, .ref 617, .int 963 0, .int 434 0, .str "/claim/cut.py" 964], #[]⟩) ::
    (nat_lit 619, ⟨.type "function", (@none Nat), .func ⟨"pattern_here", "pattern_here", ?a73, .stmts ?b73, ?c73, 3, [], .none, .none, .none, .str "postkeep.cmdread" 934, (@none Nat), .ref 618, .none, 0⟩, #[]⟩) ::
    (nat_lit 620, ⟨.type "tuple", (@none Nat), .seq #[] 0, #[]⟩) ::
    (nat_lit 623, ⟨.type "code", (@none Nat), .fields #[.str "words_here" 966, .str "words_here" 967, .str "/claim/cut.py" 968, .int 440 0, .int 2 0, .int 0 0, .int 0 0, .int 3 0, .ref 620, .bool .true, .int 181 0, .ref 621, .none, .none, .none, .ref 622, .int 969 0, .int 440 0, .str "/claim/cut.py" 970], #[]⟩) ::
    (nat_lit 624, ⟨.type "function", (@none Nat), .func ⟨"words_here", "words_here", ?a74, .stmts ?b74, ?c74, 3, [], .none, .none, .none, .str "postkeep.cmdread" 934, (@none Nat), .ref 623, .none, 0⟩, #[]⟩) ::
    (nat_lit 625, ⟨.type "tuple", (@none Nat), .seq #[] 0, #[]⟩) ::
    (nat_lit 627, ⟨.type "tuple", (@none Nat), .seq #[.str "wire" 975, .str "user" 976] 0, #[]⟩) ::
    (nat_lit 628, ⟨.type "tuple", (@none Nat), .seq #[] 0, #[]⟩) ::
    (nat_lit 630, ⟨.type "code", (@none Nat), .fields #[.str "read_login" 972, .str "read_login" 973, .str "/claim/cut.py" 974, .int 442 0, .int 1 0, .int 0 0, .int 0 0, .int 3 0, .ref 625, .bool .true, .int 181 0, .ref 626, .none, .ref 627, .ref 628, .ref 629, .int 977 0, .int 442 0, .str "/claim/cut.py" 978], #[]⟩) ::
    (nat_lit 631, ⟨.type "function", (@none Nat), .func ⟨"read_login", "read_login", ?a75, .stmts ?b75, ?c75, 3, [], .none, .none, .none, .str "postkeep.cmdread" 934, (@none Nat), .ref 630, .none, 0⟩, #[]⟩) ::
    (nat_lit 632, ⟨.type "tuple", (@none Nat), .seq #[] 0, #[]⟩) ::
    (nat_lit 634, ⟨.type "tuple", (@none Nat), .seq #[.str "wire" 983, .str "found" 984] 0, #[]⟩) ::
    (nat_lit 635, ⟨.type "tuple", (@none Nat), .seq #[] 0, #[]⟩) ::
    (nat_lit 637, ⟨.type "code", (@none Nat), .fields #[.str "read_enable" 980, .str "read_enable" 981, .str "/claim/cut.py" 982, .int 447 0, .int 1 0, .int 0 0, .int 0 0, .int 3 0, .ref 632, .bool .true, .int 181 0, .ref 633, .none, .ref 634, .ref 635, .ref 636, .int 985 0, .int 447 0, .str "/claim/cut.py" 986], #[]⟩) ::
    (nat_lit 638, ⟨.type "function", (@none Nat), .func ⟨"read_enable", "read_enable", ?a76, .stmts ?b76, ?c76, 3, [], .none, .none, .none, .str "postkeep.cmdread" 934, (@none Nat), .ref 637, .none, 0⟩, #[]⟩) ::
    (nat_lit 639, ⟨.type "tuple", (@none Nat), .seq #[] 0, #[]⟩) ::
    (nat_lit 641, ⟨.type "tuple", (@none Nat), .seq #[.str "wire" 991, .str "old" 992] 0, #[]⟩) ::
    (nat_lit 642, ⟨.type "tuple", (@none Nat), .seq #[] 0, #[]⟩) ::
    (nat_lit 644, ⟨.type "code", (@none Nat), .fields #[.str "read_rename" 988, .str "read_rename" 989, .str "/claim/cut.py" 990, .int 453 0, .int 1 0, .int 0 0, .int 0 0, .int 3 0, .ref 639, .bool .true, .int 181 0, .ref 640, .none, .ref 641, .ref 642, .ref 643, .int 993 0, .int 453 0, .str "/claim/cut.py" 994], #[]⟩) ::
    (nat_lit 645, ⟨.type "function", (@none Nat), .func ⟨"read_rename", "read_rename", ?a77, .stmts ?b77, ?c77, 3, [], .none, .none, .none, .str "postkeep.cmdread" 934, (@none Nat), .ref 644, .none, 0⟩, #[]⟩) ::
    (nat_lit 646, ⟨.type "tuple", (@none Nat), .seq #[] 0, #[]⟩) ::
    (nat_lit 648, ⟨.type "tuple", (@none Nat), .seq #[.str "wire" 999, .str "reference" 1000] 0, #[]⟩) ::
    (nat_lit 649, ⟨.type "tuple", (@none Nat), .seq #[] 0, #[]⟩) ::
    (nat_lit 651, ⟨.type "code", (@none Nat), .fields #[.str "read_list" 996, .str "read_list" 997, .str "/claim/cut.py" 998, .int 458 0, .int 1 0, .int 0 0, .int 0 0, .int 3 0, .ref 646, .bool .true, .int 181 0, .ref 647, .none, .ref 648, .ref 649, .ref 650, .int 1001 0, .int 458 0, .str "/claim/cut.py" 1002], #[]⟩) ::
    (nat_lit 652, ⟨.type "function", (@none Nat), .func ⟨"read_list", "read_list", ?a78, .stmts ?b78, ?c78, 3, [], .none, .none, .none, .str "postkeep.cmdread" 934, (@none Nat), .ref 651, .none, 0⟩, #[]⟩) ::
    (nat_lit 653, ⟨.type "tuple", (@none Nat), .seq #[] 0, #[]⟩) ::
    (nat_lit 655, ⟨.type "tuple", (@none Nat), .seq #[.str "wire" 1007, .str "name" 1008, .str "words" 1009] 0, #[]⟩) ::
    (nat_lit 656, ⟨.type "tuple", (@none Nat), .seq #[] 0, #[]⟩) ::
    (nat_lit 658, ⟨.type "code", (@none Nat), .fields #[.str "read_status" 1004, .str "read_status" 1005, .str "/claim/cut.py" 1006, .int 463 0, .int 1 0, .int 0 0, .int 0 0, .int 3 0, .ref 653, .bool .true, .int 181 0, .ref 654, .none, .ref 655, .ref 656, .ref 657, .int 1010 0, .int 463 0, .str "/claim/cut.py" 1011], #[]⟩) ::
    (nat_lit 659, ⟨.type "function", (@none Nat), .func ⟨"read_status", "read_status", ?a79, .stmts ?b79, ?c79, 3, [], .none, .none, .none, .str "postkeep.cmdread" 934, (@none Nat), .ref 658, .none, 0⟩, #[]⟩) ::
    (nat_lit 660, ⟨.type "tuple", (@none Nat), .seq #[] 0, #[]⟩) ::
    (nat_lit 662, ⟨.type "tuple", (@none Nat), .seq #[.str "octets" 1018] 0, #[]⟩) ::
    (nat_lit 663, ⟨.type "tuple", (@none Nat), .seq #[] 0, #[]⟩) ::
    (nat_lit 665, ⟨.type "code", (@none Nat), .fields #[.str "_law_is_no_status" 1015, .str "_law_is_no_status" 1016, .str "/claim/cut.py" 1017, .int 472 0, .int 1 0, .int 0 0, .int 0 0, .int 3 0, .ref 660, .bool .true, .int 181 0, .ref 661, .none, .ref 662, .ref 663, .ref 664, .int 1019 0, .int 472 0, .str "/claim/cut.py" 1020], #[]⟩) ::
    (nat_lit 666, ⟨.type "function", (@none Nat), .func ⟨"_law_is_no_status", "_law_is_no_status", ?a81, .stmts ?b81, ?c81, 3, [], .none, .none, .none, .str "law_pq0950_01" 1013, (@none Nat), .ref 665, .none, 0⟩, #[]⟩) ::
    (nat_lit 667, ⟨.type "tuple", (@none Nat), .seq #[] 0, #[]⟩) ::
    (nat_lit 669, ⟨.type "tuple", (@none Nat), .seq #[.str "read" 1025, .str "octets" 1026, .str "args" 1027, .str "wire" 1028] 0, #[]⟩) ::
    (nat_lit 670, ⟨.type "tuple", (@none Nat), .seq #[] 0, #[]⟩) ::
    (nat_lit 672, ⟨.type "code", (@none Nat), .fields #[.str "_law_is_one" 1022, .str "_law_is_one" 1023, .str "/claim/cut.py" 1024, .int 478 0, .int 3 0, .int 0 0, .int 0 0, .int 3 0, .ref 667, .bool .true, .int 181 0, .ref 668, .none, .ref 669, .ref 670, .ref 671, .int 1029 0, .int 478 0, .str "/claim/cut.py" 1030], #[]⟩) ::
    (nat_lit 673, ⟨.type "function", (@none Nat), .func ⟨"_law_is_one", "_law_is_one", ?a82, .stmts ?b82, ?c82, 3, [], .none, .none, .none, .str "law_pq0950_01" 1013, (@none Nat), .ref 672, .none, 0⟩, #[]⟩) ::
    (nat_lit 674, ⟨.type "tuple", (@none Nat), .seq #[] 0, #[]⟩) ::
    (nat_lit 677, ⟨.type "code", (@none Nat), .fields #[.str "law" 1032, .str "law" 1033, .str "/claim/cut.py" 1034, .int 481 0, .int 1 0, .int 0 0, .int 0 0, .int 3 0, .ref 674, .bool .true, .int 181 0, .ref 675, .none, .none, .none, .ref 676, .int 1035 0, .int 481 0, .str "/claim/cut.py" 1036], #[]⟩) ::
    (nat_lit 678, ⟨.type "function", (@none Nat), .func ⟨"law", "law", ?a83, .stmts ?b83, ?c83, 3, [], .none, .none, .none, .str "law_pq0950_01" 1013, (@none Nat), .ref 677, .none, 0⟩, #[]⟩) :: []) ?h
  case h => exact rfl
def hd.as : List Addr := [2, 3, 15, 17, 18, 20, 21, 22, 29, 30, 32, 33, 35, 36, 37, 39, 40, 42, 43, 44, 45, 46, 47, 50, 57, 58, 59, 62, 69, 70, 71, 74, 81, 82, 83, 86, 93, 94, 95, 98, 101, 102, 103, 106, 107, 108, 111, 112, 113, 115] ++ [116, 118, 119, 120, 122, 123, 125, 126, 127, 129, 130, 132, 133, 134, 136, 137, 139, 140, 141, 144, 145, 146, 149, 150, 151, 154, 155, 156, 159, 160, 161, 163, 164, 166, 167, 168, 170, 171, 173, 174, 175, 177, 178, 180, 181, 182, 184, 185, 187, 188] ++ [189, 191, 192, 194, 195, 196, 198, 199, 201, 202, 203, 205, 206, 208, 209, 210, 212, 213, 215, 216, 217, 219, 220, 222, 223, 224, 226, 227, 229, 230, 231, 233, 234, 236, 237, 245, 247, 248, 250, 251, 252, 254, 255, 257, 258, 259, 260, 261, 262, 263] ++ [266, 268, 269, 271, 272, 273, 275, 276, 278, 279, 280, 282, 283, 285, 286, 287, 289, 290, 292, 293, 294, 296, 297, 299, 300, 301, 303, 304, 306, 307, 308, 310, 311, 313, 314, 315, 317, 318, 320, 321, 329, 330, 332, 333, 335, 336, 337, 339, 340, 342] ++ [343, 344, 346, 347, 349, 350, 351, 353, 354, 356, 357, 358, 360, 361, 363, 364, 365, 367, 368, 370, 371, 372, 374, 375, 377, 378, 379, 381, 382, 384, 385, 386, 388, 389, 391, 392, 393, 395, 396, 398, 399, 400, 402, 403, 405, 406, 407, 409, 410, 412] ++ [413, 414, 416, 417, 419, 420, 421, 423, 424, 426, 427, 428, 430, 431, 433, 434, 435, 437, 438, 440, 441, 442, 444, 445, 447, 448, 449, 451, 452, 454, 455, 456, 458, 459, 461, 462, 463, 465, 466, 468, 469, 470, 472, 473, 475, 476, 477, 479, 480, 482] ++ [483, 484, 486, 487, 489, 490, 491, 494, 495, 496, 497, 499, 500, 502, 503, 504, 505, 506, 507, 508, 511, 514, 515, 516, 518, 519, 521, 522, 523, 524, 526, 527, 529, 530, 531, 532, 534, 535, 537, 538, 539, 540, 543, 544, 545, 547, 548, 550, 551, 552] ++ [555, 556, 557, 559, 560, 562, 563, 564, 566, 567, 569, 570, 571, 573, 574, 576, 577, 578, 580, 581, 583, 584, 585, 587, 588, 590, 591, 592, 594, 595, 597, 598, 599, 601, 602, 604, 605, 606, 608, 609, 611, 612, 613, 615, 616, 618, 619, 620, 623, 624] ++ [625, 627, 628, 630, 631, 632, 634, 635, 637, 638, 639, 641, 642, 644, 645, 646, 648, 649, 651, 652, 653, 655, 656, 658, 659, 660, 662, 663, 665, 666, 667, 669, 670, 672, 673, 674, 677, 678]
noncomputable def hd.hook : Hook := kHook hd.heap_39 hd.as (fun _ => by kernel_rfl)
noncomputable def hd.theRun (w : World) (os : OsState) := segRunT treeTable PySem.Challenge.pw_pq0950_01 w 11 (some (Value.ref 6)) 0 8548 ⟨bootT w.params, 11, (boot_heap w.params).life, Array.mk [], boot_drawn, boot_toks, os⟩ (topStub PySem.Challenge.pw_pq0950_01)
theorem hd.look0 (w : World) (os : OsState) : (hd.theRun w os).map (fun r => (fun s : Shared => (seen ((recsOf hd.view_39).map (·.name)) (ownsOf hd.view_39) [] { s with gens := #[] }, s.heap.bltView, pinSeenD hd.view_39 (drecsOf hd.view_39) s, clsSeenW hd.view_39 (["PostError", "literal_octets", "string_octets", "astring_octets"] : List Str) s)) r.2.1.abs) = some (expectedOf hd.view_39, bltViewBooted, pinGoodD (drecsOf hd.view_39), clsGoodW hd.view_39 (["PostError", "literal_octets", "string_octets", "astring_octets"] : List Str)) := by
  unfold hd.theRun
  rw [Fast.te10110043849684766642, Fast.te14364793385576792824, Fast.te5160383126252970620, Fast.te3399658132070893891, Fast.te5991557255702980513, Fast.te16090120013241838585, Fast.te7369524293546568484]
  kernel_rfl
theorem hd.look1 (w : World) (os : OsState) : (hd.theRun w os).map (fun r => (fun s : Shared => ((s.heap.keysOk (looseW hd.view_39 (["PostError", "literal_octets", "string_octets", "astring_octets"] : List Str)) ((recsOf hd.view_39).map (·.name)) ((litsOf hd.view_39).map (·.1)) ((clssOf hd.view_39 (looseW hd.view_39 (["PostError", "literal_octets", "string_octets", "astring_octets"] : List Str))).map (·.name)) && s.heap.accountedOkI (importedModules PySem.Challenge.pw_pq0950_01.main.body) && s.heap.isNs mainGlobals && s.heap.isNs builtinsNs && tablesOk hd.view_39 s.heap && (xlAt hd.view_39 [] s && recOk (RowW.records PySem.Challenge.rw_pq0950_01.row.toRowW) s) && (s.gens.size == 0)), tabsOk hd.view_39 s)) r.2.1.abs) = some (true, true) := by
  unfold hd.theRun
  rw [Fast.te10110043849684766642, Fast.te14364793385576792824, Fast.te10880121769531294198, Fast.te821141287760084731, Fast.te7409074990110511671, Fast.te13664370479719496447, Fast.te14722251495701143533, Fast.te10994771534591457954, Fast.te5923862056798008813, Fast.te3399658132070893891, Fast.te479339242167458305]
  kernel_rfl
theorem hd.look2 (w : World) (os : OsState) : (hd.theRun w os).map (fun r => (fun s : Shared => (plainSeenE hd.view_39 (looseW hd.view_39 (["PostError", "literal_octets", "string_octets", "astring_octets"] : List Str)) s, plainSeenD hd.view_39 (["PostError", "literal_octets", "string_octets", "astring_octets"] : List Str) s, wideSeen hd.view_39 s)) r.2.1.abs) = some (plainGoodE hd.view_39 (looseW hd.view_39 (["PostError", "literal_octets", "string_octets", "astring_octets"] : List Str)), plainGoodD hd.view_39 (["PostError", "literal_octets", "string_octets", "astring_octets"] : List Str), wideGood hd.view_39) := by
  unfold hd.theRun
  rw [Fast.te10110043849684766642, Fast.te14364793385576792824, Fast.te2386780881361962483, Fast.te11698064438423848299, Fast.te7317090234206586261]
  kernel_rfl
theorem hd.look3 (w : World) (os : OsState) : (hd.theRun w os).map (fun r => (fun s : Shared => ((staticsOk (importedModules PySem.Challenge.pw_pq0950_01.main.body) (boot_heap w.params) s.heap && namesBound PySem.Challenge.pw_pq0950_01 s.heap && gensDone s && laidKept (boot_heap w.params) s.heap), hd.hook.obs s)) r.2.1.abs) = some (true, hd.hook.val w) := by
  unfold hd.theRun
  rw [Fast.te10110043849684766642, Fast.te14364793385576792824, Fast.te5923862056798008813]
  kernel_rfl
theorem hd.run (w : World) (os : OsState) : (hd.theRun w os).map (fun r => lookT PySem.Challenge.pw_pq0950_01 (openSeen hd.view_39 (["PostError", "literal_octets", "string_octets", "astring_octets"] : List Str) (importedModules PySem.Challenge.pw_pq0950_01.main.body) (fun s => xlAt hd.view_39 [] s && recOk (RowW.records PySem.Challenge.rw_pq0950_01.row.toRowW) s) true) hd.hook.obs (boot_heap w.params) r.2.1) = some (true, openGood hd.view_39 (["PostError", "literal_octets", "string_octets", "astring_octets"] : List Str), hd.hook.val w) := by
  have h0 := hd.look0 w os
  have h1 := hd.look1 w os
  have h2 := hd.look2 w os
  have h3 := hd.look3 w os
  obtain ⟨r, hr, e0⟩ := Option.map_eq_some_iff.mp h0
  rw [hr, Option.map_some] at h1 h2 h3
  rw [hr, Option.map_some]
  have e1 := Option.some.inj h1
  have e2 := Option.some.inj h2
  have e3 := Option.some.inj h3
  clear h0 h1 h2 h3 hr
  simp only [Prod.mk.injEq] at e0 e1 e2 e3
  obtain ⟨a0, a1, a4, a8⟩ := e0
  obtain ⟨a2, a3⟩ := e1
  obtain ⟨a5, a6, a7⟩ := e2
  obtain ⟨a9, a10⟩ := e3
  refine congrArg some ?_
  unfold lookT openSeen openGood
  rw [a0, a1, a3, a4, a5, a6, a7, a8, a9, a10]
  exact congrArg (fun x => (true, (_, _, x, true, _, _, _, _, _), _)) a2
theorem hd.size : ∀ P : Params, ((boot_heap P).isNs mainGlobals, (boot_heap P).objs.size, (boot_heap P).nsMap mainGlobals "__annotations__") = (true, 11, some (Value.ref 6)) := fun P => by kernel_rfl
theorem hd.opening : PySem.W.opening PySem.Challenge.pw_pq0950_01 = plainProg PySem.Challenge.pw_pq0950_01.main.scope.names := by kernel_rfl
theorem hd.fence : ∀ s, fenceModules? PySem.Challenge.pw_pq0950_01 s = some s := fun s => by kernel_rfl
theorem hd.left : LeftO PySem.Challenge.pw_pq0950_01 hd.view_39 (["PostError", "literal_octets", "string_octets", "astring_octets"] : List Str) (fun s => xlAt hd.view_39 [] s && recOk (RowW.records PySem.Challenge.rw_pq0950_01.row.toRowW) s) hd.hook.obs hd.hook.val 8548 := left_of_tree hd.opening (by decide) hd.fence hd.size hd.run
theorem hd.said : PySem.Challenge.rw_pq0950_01.wellSaid = true := by
  rw [Fast.te9446332074065402090]
  kernel_rfl
theorem hd.prom : PySem.Challenge.rw_pq0950_01.row.toRowW.promised := by w_witness2
theorem hd.top {d : DefRec} {kwd : List (Str × Expr)} (hdef : defOf hd.view_39 PySem.Challenge.rw_pq0950_01.row.name = some (d, kwd)) (hp : PySem.Challenge.rw_pq0950_01.row.prog.theDef PySem.Challenge.rw_pq0950_01.row.name = some (d.params, d.body, d.scope))
    (hk : kwWritten? d.params.kwonlyargs d.params.kw_defaults = some kwd)
    (call : WalkX hd.view_39 (["PostError", "literal_octets", "string_octets", "astring_octets"] : List Str) (XL hd.view_39 []) (kHook hd.heap_39 hd.as (fun _ => by kernel_rfl)).says PySem.Challenge.rw_pq0950_01.row.toRowW d kwd fun f vs => PySem.call f vs) : PySem.Challenge.rw_pq0950_01.Holds :=
  holds_law hd.said fun said => holds_openX (q := hd.view_39) (loose := (["PostError", "literal_octets", "string_octets", "astring_octets"] : List Str)) (Xt := (fun s => xlAt hd.view_39 [] s && recOk (RowW.records PySem.Challenge.rw_pq0950_01.row.toRowW) s)) (XP := XL hd.view_39 []) (Yf := hd.hook.obs) (Ya := hd.hook.val) (YP := hd.hook.says) (N := 8548)
    hd.left hd.hook.of hd.hook.keeps (fun s e => xl_of s (Bool.and_eq_true_iff.mp e).1) XL.keeps hdef hp hk (fun s e => recFacts_of (Bool.and_eq_true_iff.mp e).2) (by rfl) said (by decide +kernel) ⟨rfl, rfl, rfl, rfl, rfl, by decide +kernel⟩ hd.prom call
end
section
def Cl (w : World) (mean : ExcName → Option Value) (mg mb : Str → Option Value) (f : Addr) (k : Nat) (news : List (Addr × Obj)) (vs : List Value) (P : Value → List (Addr × Obj) → Prop) : Prop :=
  ∀ (dp un : Nat) (gd : Option (List Code)) (cn : Str) (cs : Scope) (a : Addr) (ccd : Value) (cl : List (Str × Addr)) (outer : List Env) (A₀ : Around) (base h₀ : Heap) (L : Addr) (m : Str → Option Value) (s : Shared) (Q E : Value → Shared → Prop),
    Below A₀ base outer h₀ → Fr h₀ L s.heap m → (Mine.hd.heap_39 w.params).In h₀ → News h₀ L s.heap news →
    Top Mine.hd.view_39 (looseW Mine.hd.view_39 [Str.ofString "PostError", Str.ofString "literal_octets", Str.ofString "string_octets", Str.ofString "astring_octets"]) mean mg mb h₀ →
    cs.kind = .function → dp + k < recursionLimit → un + 8 * k < cLine →
    (∀ v news' h' tk', P v news' → Fr h₀ L h' m → News h₀ L h' news' → Q v { s with heap := h', toks := tk' }) →
    wpAny (model PySem.Challenge.rw_pq0950_01.prog w) (ktrTop dp un gd cn cs L a ccd cl outer) (call (.ref f) vs) Q E s
theorem Cl.use {w : World} {mean : ExcName → Option Value} {mg mb : Str → Option Value} {f : Addr} {k : Nat} {news : List (Addr × Obj)} {vs : List Value} {P : Value → List (Addr × Obj) → Prop}
    {dp un : Nat} {gd : Option (List Code)} {cn : Str} {cs : Scope} {a : Addr} {ccd : Value} {cl : List (Str × Addr)} {outer : List Env} {A₀ : Around} {base h₀ : Heap} {L : Addr} {m : Str → Option Value} {s : Shared} {Q E : Value → Shared → Prop}
    (C : Cl w mean mg mb f k news vs P)
    (B : Below A₀ base outer h₀) (F : Fr h₀ L s.heap m) (X : (Mine.hd.heap_39 w.params).In h₀) (N : News h₀ L s.heap news)
    (T : Top Mine.hd.view_39 (looseW Mine.hd.view_39 [Str.ofString "PostError", Str.ofString "literal_octets", Str.ofString "string_octets", Str.ofString "astring_octets"]) mean mg mb h₀)
    (hk : cs.kind = .function) (hd : dp + k < recursionLimit) (hu : un + 8 * k < cLine)
    (ret : ∀ v news' h' tk', P v news' → Fr h₀ L h' m → News h₀ L h' news' → Q v { s with heap := h', toks := tk' }) :
    wpAny (model PySem.Challenge.rw_pq0950_01.prog w) (ktrTop dp un gd cn cs L a ccd cl outer) (call (.ref f) vs) Q E s :=
  C _ _ _ _ _ _ _ _ _ _ _ _ _ _ _ _ _ B F X N T hk hd hu ret
def IntR (r : Int) (news : List (Addr × Obj)) (v : Value) (news' : List (Addr × Obj)) : Prop := ∃ t, v = .int r t ∧ news' = news
def BoolR (r : Bool) (news : List (Addr × Obj)) (v : Value) (news' : List (Addr × Obj)) : Prop := v = .bool r ∧ news' = news
def StrR (r : Str) (news : List (Addr × Obj)) (v : Value) (news' : List (Addr × Obj)) : Prop := ∃ t, v = .str r t ∧ news' = news
def BytesR (r : Array UInt8) (news : List (Addr × Obj)) (v : Value) (news' : List (Addr × Obj)) : Prop := ∃ t, v = .bytes r t ∧ news' = news
theorem Cl.useI {w : World} {mean : ExcName → Option Value} {mg mb : Str → Option Value} {f : Addr} {k : Nat} {news : List (Addr × Obj)} {vs : List Value}
    {dp un : Nat} {gd : Option (List Code)} {cn : Str} {cs : Scope} {a : Addr} {ccd : Value} {cl : List (Str × Addr)} {outer : List Env} {A₀ : Around} {base h₀ : Heap} {L : Addr} {m : Str → Option Value} {s : Shared} {Q E : Value → Shared → Prop} {r : Int}
    (C : Cl w mean mg mb f k news vs (IntR r news))
    (B : Below A₀ base outer h₀) (F : Fr h₀ L s.heap m) (X : (Mine.hd.heap_39 w.params).In h₀) (N : News h₀ L s.heap news)
    (T : Top Mine.hd.view_39 (looseW Mine.hd.view_39 [Str.ofString "PostError", Str.ofString "literal_octets", Str.ofString "string_octets", Str.ofString "astring_octets"]) mean mg mb h₀)
    (hk : cs.kind = .function) (hd : dp + k < recursionLimit) (hu : un + 8 * k < cLine)
    (ret : ∀ t h' tk', Fr h₀ L h' m → News h₀ L h' news → Q (.int r t) { s with heap := h', toks := tk' }) : wpAny (model PySem.Challenge.rw_pq0950_01.prog w) (ktrTop dp un gd cn cs L a ccd cl outer) (call (.ref f) vs) Q E s :=
  C.use B F X N T hk hd hu fun _ _ h' tk' ⟨t, e1, e2⟩ F' N' => e1 ▸ ret t h' tk' F' (e2 ▸ N')
theorem Cl.useS {w : World} {mean : ExcName → Option Value} {mg mb : Str → Option Value} {f : Addr} {k : Nat} {news : List (Addr × Obj)} {vs : List Value}
    {dp un : Nat} {gd : Option (List Code)} {cn : Str} {cs : Scope} {a : Addr} {ccd : Value} {cl : List (Str × Addr)} {outer : List Env} {A₀ : Around} {base h₀ : Heap} {L : Addr} {m : Str → Option Value} {s : Shared} {Q E : Value → Shared → Prop} {r : Str}
    (C : Cl w mean mg mb f k news vs (StrR r news))
    (B : Below A₀ base outer h₀) (F : Fr h₀ L s.heap m) (X : (Mine.hd.heap_39 w.params).In h₀) (N : News h₀ L s.heap news)
    (T : Top Mine.hd.view_39 (looseW Mine.hd.view_39 [Str.ofString "PostError", Str.ofString "literal_octets", Str.ofString "string_octets", Str.ofString "astring_octets"]) mean mg mb h₀)
    (hk : cs.kind = .function) (hd : dp + k < recursionLimit) (hu : un + 8 * k < cLine)
    (ret : ∀ t h' tk', Fr h₀ L h' m → News h₀ L h' news → Q (.str r t) { s with heap := h', toks := tk' }) : wpAny (model PySem.Challenge.rw_pq0950_01.prog w) (ktrTop dp un gd cn cs L a ccd cl outer) (call (.ref f) vs) Q E s :=
  C.use B F X N T hk hd hu fun _ _ h' tk' ⟨t, e1, e2⟩ F' N' => e1 ▸ ret t h' tk' F' (e2 ▸ N')
theorem Cl.useY {w : World} {mean : ExcName → Option Value} {mg mb : Str → Option Value} {f : Addr} {k : Nat} {news : List (Addr × Obj)} {vs : List Value}
    {dp un : Nat} {gd : Option (List Code)} {cn : Str} {cs : Scope} {a : Addr} {ccd : Value} {cl : List (Str × Addr)} {outer : List Env} {A₀ : Around} {base h₀ : Heap} {L : Addr} {m : Str → Option Value} {s : Shared} {Q E : Value → Shared → Prop} {r : Array UInt8}
    (C : Cl w mean mg mb f k news vs (BytesR r news))
    (B : Below A₀ base outer h₀) (F : Fr h₀ L s.heap m) (X : (Mine.hd.heap_39 w.params).In h₀) (N : News h₀ L s.heap news)
    (T : Top Mine.hd.view_39 (looseW Mine.hd.view_39 [Str.ofString "PostError", Str.ofString "literal_octets", Str.ofString "string_octets", Str.ofString "astring_octets"]) mean mg mb h₀)
    (hk : cs.kind = .function) (hd : dp + k < recursionLimit) (hu : un + 8 * k < cLine)
    (ret : ∀ t h' tk', Fr h₀ L h' m → News h₀ L h' news → Q (.bytes r t) { s with heap := h', toks := tk' }) : wpAny (model PySem.Challenge.rw_pq0950_01.prog w) (ktrTop dp un gd cn cs L a ccd cl outer) (call (.ref f) vs) Q E s :=
  C.use B F X N T hk hd hu fun _ _ h' tk' ⟨t, e1, e2⟩ F' N' => e1 ▸ ret t h' tk' F' (e2 ▸ N')
theorem Cl.useB {w : World} {mean : ExcName → Option Value} {mg mb : Str → Option Value} {f : Addr} {k : Nat} {news : List (Addr × Obj)} {vs : List Value}
    {dp un : Nat} {gd : Option (List Code)} {cn : Str} {cs : Scope} {a : Addr} {ccd : Value} {cl : List (Str × Addr)} {outer : List Env} {A₀ : Around} {base h₀ : Heap} {L : Addr} {m : Str → Option Value} {s : Shared} {Q E : Value → Shared → Prop} {r : Bool}
    (C : Cl w mean mg mb f k news vs (BoolR r news))
    (B : Below A₀ base outer h₀) (F : Fr h₀ L s.heap m) (X : (Mine.hd.heap_39 w.params).In h₀) (N : News h₀ L s.heap news)
    (T : Top Mine.hd.view_39 (looseW Mine.hd.view_39 [Str.ofString "PostError", Str.ofString "literal_octets", Str.ofString "string_octets", Str.ofString "astring_octets"]) mean mg mb h₀)
    (hk : cs.kind = .function) (hd : dp + k < recursionLimit) (hu : un + 8 * k < cLine)
    (ret : ∀ h' tk', Fr h₀ L h' m → News h₀ L h' news → Q (.bool r) { s with heap := h', toks := tk' }) : wpAny (model PySem.Challenge.rw_pq0950_01.prog w) (ktrTop dp un gd cn cs L a ccd cl outer) (call (.ref f) vs) Q E s :=
  C.use B F X N T hk hd hu fun _ _ h' tk' ⟨e1, e2⟩ F' N' => e1 ▸ ret h' tk' F' (e2 ▸ N')
end
section
section
open PySem PySem.Builtin
theorem gives_contains (b : Array UInt8) (i : Int) (t u : Tok) (h0 : 0 ≤ i) (h1 : i < 256) : Gives («bytes.__contains__» ⟨[.bytes b t, .int i u], []⟩) (.val (.bool (b.contains i.toNat.toUInt8))) := by
  refine .of_wp fun M A E s Q hq => ?_
  show wpAny M A (Bytes.containsIn "bytes.__contains__" (.bytes b t) (.int i u) >>= fun r => _) _ E s
  refine wpAny_bind ?_
  unfold Bytes.containsIn
  refine wpAny_bind (wpAny_of_eq (rfl : (asIndex (.int i u)).attempt = pure (.ok i)) ?_)
  refine wpAny_bind (wpAny_of_eq KBy.buffer_eq ?_)
  show wpAny M A (if (decide (i < 0) || decide (i ≥ 256)) = true then _ else pure (b.contains i.toNat.toUInt8)) _ E s
  rw [if_neg (by simp; omega)]
  exact wpAny_pure (wpAny_pure ⟨_, rfl, hq⟩)
variable {prog : Program} {w : World} {A : Around} {E : Value → Shared → Prop} {s : Shared} {b : Array UInt8} {t u : Tok} {i : Int} {Q : Value → Shared → Prop}
theorem in_bytes (h0 : 0 ≤ i) (h1 : i < 256) (h : Q (.bool (b.contains i.toNat.toUInt8)) s) : wpAny (model prog w) A (compareOp .In (.int i u) (.bytes b t)) Q E s :=
  in_gives (typeIs_bytes s b t) FB.slot_bytes_contains FB.entry_bytes_contains (FB.args_bytes_contains_2 _ _) (gives_contains b i t u h0 h1) h
theorem notIn_bytes (h0 : 0 ≤ i) (h1 : i < 256) (h : Q (.bool (!b.contains i.toNat.toUInt8)) s) : wpAny (model prog w) A (compareOp .NotIn (.int i u) (.bytes b t)) Q E s :=
  notIn_gives (typeIs_bytes s b t) FB.slot_bytes_contains FB.entry_bytes_contains (FB.args_bytes_contains_2 _ _) (gives_contains b i t u h0 h1) h
end
theorem cut_list (l : List UInt8) (a b : Int) (h0 : 0 ≤ a) (h1 : a ≤ b) : (l.drop (clipAt l.length a)).take (clipAt l.length b - clipAt l.length a) = (l.drop a.toNat).take (b - a).toNat := by
  obtain ⟨m, rfl⟩ := Int.eq_ofNat_of_zero_le h0
  obtain ⟨n, rfl⟩ := Int.eq_ofNat_of_zero_le (Int.le_trans h0 h1)
  have hmn : m ≤ n := by omega
  show (l.drop (clipAt l.length (m : Nat))).take (clipAt l.length (n : Nat) - clipAt l.length (m : Nat)) = _
  rw [clipAt_nat, clipAt_nat]
  have e : ((n : Int) - (m : Int)).toNat = n - m := by omega
  simp only [Int.toNat_natCast, e]
  by_cases hm : m ≤ l.length
  · rw [Nat.min_eq_left hm]
    by_cases hn : n ≤ l.length
    · rw [Nat.min_eq_left hn]
    · rw [Nat.min_eq_right (by omega)]
      rw [List.take_of_length_le (by simp), List.take_of_length_le (by simp; omega)]
  · rw [Nat.min_eq_right (a := m) (by omega), List.drop_eq_nil_of_le (Nat.le_refl _), List.drop_eq_nil_of_le (by omega)]
    simp
section
variable {prog : Program} {w : World} {A : Around} {E : Value → Shared → Prop} {s : Shared} {value slice : PySem.Expr} {l : List UInt8} {t : Tok} {h₀ : Heap} {L : Addr} {m : PySem.Str → Option Value} {news : List (Addr × Obj)} {Q : Value → Shared → Prop}
theorem slice_B {a b : Int} {ta tb : Tok} (hF : Fr h₀ L s.heap m) (hN : News h₀ L s.heap news) (hz : l.length ≤ 16777216) (h0 : 0 ≤ a) (h1 : a ≤ b)
    (h : ∀ h' t' k, Fr h₀ L h' m → News h₀ L h' news → Q (.bytes ((l.drop a.toNat).take (b - a).toNat).toArray t') { s with heap := h', toks := k })
    (hs : subscripted slice false (.bytes l.toArray t) (.ref s.heap.objs.size) = operate [.ref s.heap.objs.size, .bytes l.toArray t] (getItem (.bytes l.toArray t) (.ref s.heap.objs.size)) := by with_unfolding_all rfl)
    (ht : ∀ r, letTemporaryGo value (.bytes l.toArray t) r = pure () := by intro _; with_unfolding_all rfl) :
    wpAny (model prog w) A (subscriptTail value slice (.bytes l.toArray t) (.ref s.heap.objs.size)) Q E { s with heap := s.heap.push { cls := .type "slice", data := .fields #[.int a ta, .int b tb, .none] } } := by
  refine KBc.slice_K (ks := l.map fun c => (c.toNat : Int)) hF hN (KBw.ints_list l) (.int a ta) (.int b tb) (by simpa using hz) (fun h' t' k F' N' _ => ?_) hs ht
  have e : KBy.picked l.toArray (some a) (some b) = ((l.drop a.toNat).take (b - a).toNat).toArray := by
    rw [KBc.picked_eq]
    simp only [Option.elim, List.size_toArray]
    rw [cut_list l a b h0 h1]
  rw [e]
  exact h h' t' k F' N'
end

def isPrintable (c : Int) : Bool := decide (33 ≤ c ∧ c ≤ 126)
def isAtom (c : Int) : Bool := isPrintable c && !(#[40, 41, 123, 37, 42, 34, 92, 93] : Array UInt8).contains c.toNat.toUInt8
def isAstring (c : Int) : Bool := isAtom c || c == 93
def isPattern (c : Int) : Bool := isAstring c || (#[37, 42] : Array UInt8).contains c.toNat.toUInt8
def isPlain (c : Int) : Bool := decide (32 ≤ c ∧ c ≤ 126)
def lowerC (c : Int) : Int := if 65 ≤ c ∧ c ≤ 90 then c + 32 else c

abbrev wd (w : World) (l : List UInt8) (td : Tok) (p : Int) (tp k1 k2 : Tok) : Obj :=
  dictOf [{ hash := PyData.keyHash w.params (Str.ofString "data"), key := Value.str (Str.ofString "data") k1, val := Value.bytes l.toArray td },
    { hash := PyData.keyHash w.params (Str.ofString "at"), key := Value.str (Str.ofString "at") k2, val := Value.int p tp }] 2
def WR (w : World) (l : List UInt8) (td k1 k2 : Tok) (x d : Addr) (rest : List (Addr × Obj)) (R : Value → Prop) (i : Nat) (v : Value) (news' : List (Addr × Obj)) : Prop :=
  R v ∧ ∃ tp, news' = (x, instObj 506 d) :: (d, wd w l td i tp k1 k2) :: rest
theorem WR.mk {w : World} {l : List UInt8} {td k1 k2 : Tok} {x d : Addr} {rest : List (Addr × Obj)} {R : Value → Prop} {i : Nat} {p : Int} {v : Value} {tp : Tok} (hR : R v) (hp : p = (i : Int)) : WR w l td k1 k2 x d rest R i v ((x, instObj 506 d) :: (d, wd w l td p tp k1 k2) :: rest) := by
  subst hp; exact ⟨hR, tp, rfl⟩
theorem WR.mono {w : World} {l : List UInt8} {td k1 k2 : Tok} {x d : Addr} {rest : List (Addr × Obj)} {R R' : Value → Prop} {i i' : Nat} {v : Value} {news' : List (Addr × Obj)} (h : WR w l td k1 k2 x d rest R i v news') (hR : R v → R' v) (hi : i = i') : WR w l td k1 k2 x d rest R' i' v news' := by
  subst hi; exact ⟨hR h.1, h.2⟩
theorem Cl.mono {w : World} {mean : ExcName → Option Value} {mg mb : Str → Option Value} {f : Addr} {k : Nat} {news : List (Addr × Obj)} {vs : List Value} {P P' : Value → List (Addr × Obj) → Prop}
    (C : Cl w mean mg mb f k news vs P) (h : ∀ v n, P v n → P' v n) : Cl w mean mg mb f k news vs P' :=
  fun dp un gd cn cs a ccd cl outer A₀ base h₀ L m s Q E B F X N T hk hd hu ret => C dp un gd cn cs a ccd cl outer A₀ base h₀ L m s Q E B F X N T hk hd hu fun v n h' tk' hP => ret v n h' tk' (h v n hP)
def hdB (r : List UInt8) : Int := match r with | [] => -1 | c :: _ => (c.toNat : Int)
theorem drop_lt {l r : List UInt8} {i : Nat} (h : l.drop i = r) : ((i : Int) < (l.length : Int)) ↔ r ≠ [] := by
  subst h
  constructor
  · intro h e; have := congrArg List.length e; simp at this; omega
  · intro h
    by_cases q : i < l.length
    · omega
    · exact absurd (List.drop_eq_nil_of_le (by omega)) h
theorem drop_get {l r : List UInt8} {c : UInt8} {i : Nat} (h : l.drop i = c :: r) : l.getD i 0 = c := by
  have : (l.drop i)[0]? = some c := by rw [h]; rfl
  rw [List.getElem?_drop] at this
  simp only [Nat.add_zero] at this
  rw [List.getD_eq_getElem?_getD, this]; rfl
theorem drop_more {l a r : List UInt8} {i : Nat} (h : l.drop i = a ++ r) : l.drop (i + a.length) = r := by
  rw [← List.drop_drop, h, List.drop_left]
theorem drop_one {l r : List UInt8} {c : UInt8} {i : Nat} (h : l.drop i = c :: r) : l.drop (i + 1) = r := by
  rw [← List.drop_drop, h]; rfl
theorem drop_len {l a r : List UInt8} {i : Nat} (h : l.drop i = a ++ r) (ha : a ≠ []) : i + a.length + r.length = l.length := by
  have := congrArg List.length h
  simp at this
  have : 0 < a.length := by cases a; exact absurd rfl ha; simp
  omega
theorem Cl.useWB {w : World} {mean : ExcName → Option Value} {mg mb : Str → Option Value} {f : Addr} {k : Nat} {vs : List Value}
    {dp un : Nat} {gd : Option (List Code)} {cn : Str} {cs : Scope} {a : Addr} {ccd : Value} {cl : List (Str × Addr)} {outer : List Env} {A₀ : Around} {base h₀ : Heap} {L : Addr} {m : Str → Option Value} {s : Shared} {Q E : Value → Shared → Prop} {x d : Addr} {rest : List (Addr × Obj)} {l : List UInt8} {td tp k1 k2 : Tok} {p : Int} {j : Nat} {r : Bool}
    (C : Cl w mean mg mb f k ((x, instObj 506 d) :: (d, wd w l td p tp k1 k2) :: rest) vs (WR w l td k1 k2 x d rest (fun v => v = .bool r) j))
    (B : Below A₀ base outer h₀) (F : Fr h₀ L s.heap m) (X : (Mine.hd.heap_39 w.params).In h₀) (N : News h₀ L s.heap ((x, instObj 506 d) :: (d, wd w l td p tp k1 k2) :: rest))
    (T : Top Mine.hd.view_39 (looseW Mine.hd.view_39 [Str.ofString "PostError", Str.ofString "literal_octets", Str.ofString "string_octets", Str.ofString "astring_octets"]) mean mg mb h₀)
    (hk : cs.kind = .function) (hd : dp + k < recursionLimit) (hu : un + 8 * k < cLine)
    (ret : ∀ tp' h' tk', Fr h₀ L h' m → News h₀ L h' ((x, instObj 506 d) :: (d, wd w l td j tp' k1 k2) :: rest) → Q (.bool r) { s with heap := h', toks := tk' }) : wpAny (model PySem.Challenge.rw_pq0950_01.prog w) (ktrTop dp un gd cn cs L a ccd cl outer) (call (.ref f) vs) Q E s :=
  C.use B F X N T hk hd hu fun _ _ h' tk' ⟨e1, tp', e2⟩ F' N' => e1 ▸ ret tp' h' tk' F' (e2 ▸ N')
theorem Cl.useWN {w : World} {mean : ExcName → Option Value} {mg mb : Str → Option Value} {f : Addr} {k : Nat} {vs : List Value}
    {dp un : Nat} {gd : Option (List Code)} {cn : Str} {cs : Scope} {a : Addr} {ccd : Value} {cl : List (Str × Addr)} {outer : List Env} {A₀ : Around} {base h₀ : Heap} {L : Addr} {m : Str → Option Value} {s : Shared} {Q E : Value → Shared → Prop} {x d : Addr} {rest : List (Addr × Obj)} {l : List UInt8} {td tp k1 k2 : Tok} {p : Int} {j : Nat} 
    (C : Cl w mean mg mb f k ((x, instObj 506 d) :: (d, wd w l td p tp k1 k2) :: rest) vs (WR w l td k1 k2 x d rest (fun v => v = .none) j))
    (B : Below A₀ base outer h₀) (F : Fr h₀ L s.heap m) (X : (Mine.hd.heap_39 w.params).In h₀) (N : News h₀ L s.heap ((x, instObj 506 d) :: (d, wd w l td p tp k1 k2) :: rest))
    (T : Top Mine.hd.view_39 (looseW Mine.hd.view_39 [Str.ofString "PostError", Str.ofString "literal_octets", Str.ofString "string_octets", Str.ofString "astring_octets"]) mean mg mb h₀)
    (hk : cs.kind = .function) (hd : dp + k < recursionLimit) (hu : un + 8 * k < cLine)
    (ret : ∀ tp' h' tk', Fr h₀ L h' m → News h₀ L h' ((x, instObj 506 d) :: (d, wd w l td j tp' k1 k2) :: rest) → Q (.none) { s with heap := h', toks := tk' }) : wpAny (model PySem.Challenge.rw_pq0950_01.prog w) (ktrTop dp un gd cn cs L a ccd cl outer) (call (.ref f) vs) Q E s :=
  C.use B F X N T hk hd hu fun _ _ h' tk' ⟨e1, tp', e2⟩ F' N' => e1 ▸ ret tp' h' tk' F' (e2 ▸ N')
theorem Cl.useWY {w : World} {mean : ExcName → Option Value} {mg mb : Str → Option Value} {f : Addr} {k : Nat} {vs : List Value}
    {dp un : Nat} {gd : Option (List Code)} {cn : Str} {cs : Scope} {a : Addr} {ccd : Value} {cl : List (Str × Addr)} {outer : List Env} {A₀ : Around} {base h₀ : Heap} {L : Addr} {m : Str → Option Value} {s : Shared} {Q E : Value → Shared → Prop} {x d : Addr} {rest : List (Addr × Obj)} {l : List UInt8} {td tp k1 k2 : Tok} {p : Int} {j : Nat} {r : List UInt8}
    (C : Cl w mean mg mb f k ((x, instObj 506 d) :: (d, wd w l td p tp k1 k2) :: rest) vs (WR w l td k1 k2 x d rest (fun v => ∃ t, v = .bytes r.toArray t) j))
    (B : Below A₀ base outer h₀) (F : Fr h₀ L s.heap m) (X : (Mine.hd.heap_39 w.params).In h₀) (N : News h₀ L s.heap ((x, instObj 506 d) :: (d, wd w l td p tp k1 k2) :: rest))
    (T : Top Mine.hd.view_39 (looseW Mine.hd.view_39 [Str.ofString "PostError", Str.ofString "literal_octets", Str.ofString "string_octets", Str.ofString "astring_octets"]) mean mg mb h₀)
    (hk : cs.kind = .function) (hd : dp + k < recursionLimit) (hu : un + 8 * k < cLine)
    (ret : ∀ t tp' h' tk', Fr h₀ L h' m → News h₀ L h' ((x, instObj 506 d) :: (d, wd w l td j tp' k1 k2) :: rest) → Q (.bytes r.toArray t) { s with heap := h', toks := tk' }) : wpAny (model PySem.Challenge.rw_pq0950_01.prog w) (ktrTop dp un gd cn cs L a ccd cl outer) (call (.ref f) vs) Q E s :=
  C.use B F X N T hk hd hu fun _ _ h' tk' ⟨⟨t, e1⟩, tp', e2⟩ F' N' => e1 ▸ ret t tp' h' tk' F' (e2 ▸ N')
theorem Cl.useWS {w : World} {mean : ExcName → Option Value} {mg mb : Str → Option Value} {f : Addr} {k : Nat} {vs : List Value}
    {dp un : Nat} {gd : Option (List Code)} {cn : Str} {cs : Scope} {a : Addr} {ccd : Value} {cl : List (Str × Addr)} {outer : List Env} {A₀ : Around} {base h₀ : Heap} {L : Addr} {m : Str → Option Value} {s : Shared} {Q E : Value → Shared → Prop} {x d : Addr} {rest : List (Addr × Obj)} {l : List UInt8} {td tp k1 k2 : Tok} {p : Int} {j : Nat} {r : Str}
    (C : Cl w mean mg mb f k ((x, instObj 506 d) :: (d, wd w l td p tp k1 k2) :: rest) vs (WR w l td k1 k2 x d rest (fun v => ∃ t, v = .str r t) j))
    (B : Below A₀ base outer h₀) (F : Fr h₀ L s.heap m) (X : (Mine.hd.heap_39 w.params).In h₀) (N : News h₀ L s.heap ((x, instObj 506 d) :: (d, wd w l td p tp k1 k2) :: rest))
    (T : Top Mine.hd.view_39 (looseW Mine.hd.view_39 [Str.ofString "PostError", Str.ofString "literal_octets", Str.ofString "string_octets", Str.ofString "astring_octets"]) mean mg mb h₀)
    (hk : cs.kind = .function) (hd : dp + k < recursionLimit) (hu : un + 8 * k < cLine)
    (ret : ∀ t tp' h' tk', Fr h₀ L h' m → News h₀ L h' ((x, instObj 506 d) :: (d, wd w l td j tp' k1 k2) :: rest) → Q (.str r t) { s with heap := h', toks := tk' }) : wpAny (model PySem.Challenge.rw_pq0950_01.prog w) (ktrTop dp un gd cn cs L a ccd cl outer) (call (.ref f) vs) Q E s :=
  C.use B F X N T hk hd hu fun _ _ h' tk' ⟨⟨t, e1⟩, tp', e2⟩ F' N' => e1 ▸ ret t tp' h' tk' F' (e2 ▸ N')
theorem News.rot1 {h₀ h : Heap} {L : Addr} {a x d : Addr × Obj} {r : List (Addr × Obj)} (N : News h₀ L h (a :: x :: d :: r)) : News h₀ L h (x :: d :: a :: r) := fun p hp => N p (by
  simp only [List.mem_cons] at hp ⊢
  rcases hp with h | h | h | h <;> simp [h])
theorem News.rot2 {h₀ h : Heap} {L : Addr} {a b x d : Addr × Obj} {r : List (Addr × Obj)} (N : News h₀ L h (a :: b :: x :: d :: r)) : News h₀ L h (x :: d :: a :: b :: r) := fun p hp => N p (by
  simp only [List.mem_cons] at hp ⊢
  rcases hp with h | h | h | h | h <;> simp [h])
theorem News.rot3 {h₀ h : Heap} {L : Addr} {a b c x d : Addr × Obj} {r : List (Addr × Obj)} (N : News h₀ L h (a :: b :: c :: x :: d :: r)) : News h₀ L h (x :: d :: a :: b :: c :: r) := fun p hp => N p (by
  simp only [List.mem_cons] at hp ⊢
  rcases hp with h | h | h | h | h | h <;> simp [h])
theorem While_K {prog : Program} {w : World} {A : Around} {E : Value → Shared → Prop} {Q : Flow → Shared → Prop} {s : Shared} {env : Env} {h₀ : Heap} {L : Addr} {test : Expr} {body : List Stmt} {pos : Pos} {m : Str → Option Value} {news : List (Addr × Obj)} (I : Nat → List (Addr × Obj) → Prop) (n₀ : Nat)
    (F : Fr h₀ L s.heap m) (N : News h₀ L s.heap news) (hI : I n₀ news)
    (turn : ∀ n news₁ h₁ tk₁, Fr h₀ L h₁ m → News h₀ L h₁ news₁ → I n news₁ →
      wpAny (model prog w) A (isTrue test env (eval test env)) (fun b s₂ =>
        if b = true then wpAny (model prog w) A (execs body env) (WhileStep2 h₀ L s (fun n m' news' => m' = m ∧ I n news') Q n) E s₂ else Q .next s₂) E { s with heap := h₁, toks := tk₁ })
    (hE : PassesOwn (model prog w) A env E) :
    wpAny (model prog w) A (exec (.While test body [] pos) env) Q E s :=
  While_inv2 (fun n m' news' => m' = m ∧ I n news') F N ⟨rfl, hI⟩ (fun n m₁ news₁ h₁ tk₁ F₁ N₁ hJ => turn n news₁ h₁ tk₁ (hJ.1 ▸ F₁) N₁ hJ.2) hE
theorem wl_eq {w : World} {l : List UInt8} {td tp k1 k2 : Tok} {x d : Addr} {rest : List (Addr × Obj)} {p q : Int} (h : p = q) : (x, instObj 506 d) :: (d, wd w l td p tp k1 k2) :: rest = (x, instObj 506 d) :: (d, wd w l td q tp k1 k2) :: rest := by rw [h]
end
section
section
open LCg
variable {prog : Program} {w : World} {A : Around} {E : Value → Shared → Prop} {s : Shared} {h₀ : Heap} {L : Addr} {m : Str → Option Value} {env : Env} {elt : Expr} {x : Str} {scope : Scope} {cl : List (Str × Addr)} {S : List (Addr × Obj) → Prop} {P : Nat → Value → Prop} {Fin : List Value → List (Addr × Obj) → Prop} {news : List (Addr × Obj)}
def ElEnd (h₀ : Heap) (L : Addr) (m : Str → Option Value) (s : Shared) (all : List (Addr × Obj)) (R : Value → Prop) (y : Value) (s₂ : Shared) : Prop :=
  ∃ h' tk', s₂ = { s with heap := h', toks := tk' } ∧ Fr h₀ L h' m ∧ News h₀ L h' all ∧ R y
theorem rest_all {n : Nat} (R : Nat → Value → Prop)
    (turn : ∀ i v I oI C oC D m₂ ys h tk (E' : Value → Shared → Prop), i < n → P i v → NsObj oC m₂ → m₂ x = some v → Fr h₀ L h m → News h₀ L h ((I, oI) :: (C, oC) :: (D, lst ys) :: news) → Off3 I C D news → ((@Ne Nat I C) ∧ (@Ne Nat I D) ∧ (@Ne Nat C D)) →
      wpAny (model prog w) A (eval elt (compEnvC scope cl C env)) (ElEnd h₀ L m { s with heap := h, toks := tk } ((I, oI) :: (C, oC) :: (D, lst ys) :: news) (R i)) E' { s with heap := h, toks := tk })
    (hS : S news) (fin : ∀ ys : List Value, ys.length = n → (∀ (i : Nat) (y : Value), ys[i]? = some y → R i y) → Fin ys news) : CompRest prog w A h₀ L m env elt x scope cl s S P Fin n 0 [] news := by
  have key : ∀ (j i : Nat) (ys : List Value), i + j = n → ys.length = i → (∀ i y, ys[i]? = some y → R i y) → CompRest prog w A h₀ L m env elt x scope cl s S P Fin j i ys news := by
    intro j
    induction j with
    | zero => intro i ys hi hl hR; exact CompRest.zero (fin ys (by omega) hR)
    | succ j ih =>
      intro i ys hi hl hR
      refine CompRest.succ ?_
      intro v I oI C oC D m₂ h tk E' hv hC hx F N off ne
      refine wpAny_mono (turn i v I oI C oC D m₂ ys h tk E' (by omega) hv hC hx F N off ne) (fun y s₂ hq => ?_) fun _ _ e => e
      obtain ⟨h', tk', e, F', N', hy⟩ := hq
      refine ⟨h', tk', news, e, F', N', off, hS, ih (i + 1) _ (by omega) (by simp [hl]) ?_⟩
      intro k z hk
      by_cases q : k < ys.length
      · rw [List.getElem?_append_left q] at hk; exact hR k z hk
      · rw [List.getElem?_append_right (by omega)] at hk
        have : k - ys.length = 0 := by
          rcases Nat.eq_zero_or_pos (k - ys.length) with h | h
          · exact h
          · rw [List.getElem?_eq_none (by simp; omega)] at hk; cases hk
        rw [this] at hk
        simp at hk
        subst hk
        have : k = i := by omega
        rw [this]; exact hy
  exact key n 0 [] (by omega) rfl (by simp)

def SrcY (prog : Program) (w : World) (A : Around) (h₀ : Heap) (L : Addr) (m : Str → Option Value) (env : Env) (elt : Expr) (x : Str) (scope : Scope) (cl : List (Str × Addr)) (Q : Value → Shared → Prop) (xv : Value) (s₁ : Shared) : Prop :=
  ∃ (b : Array UInt8) (t : Tok) (news : List (Addr × Obj)), xv = .bytes b t ∧ A.handled = none ∧ Fr h₀ L s₁.heap m ∧ News h₀ L s₁.heap news ∧ b.size ≤ sizeLine ∧
    ∀ s₂ : Shared, (∃ h, s₂ = { s₁ with heap := h }) → CompRest prog w A h₀ L m env elt x scope cl s₂ (fun _ => True) (fun i v => ∃ c u, b[i]? = some c ∧ v = .int (c.toNat : Int) u) (FinE h₀ L m s₂ Q) b.size 0 [] news
def SrcS (prog : Program) (w : World) (A : Around) (h₀ : Heap) (L : Addr) (m : Str → Option Value) (env : Env) (elt : Expr) (x : Str) (scope : Scope) (cl : List (Str × Addr)) (Q : Value → Shared → Prop) (xv : Value) (s₁ : Shared) : Prop :=
  ∃ (y : Str) (t : Tok) (news : List (Addr × Obj)), xv = .str y t ∧ A.handled = none ∧ Fr h₀ L s₁.heap m ∧ News h₀ L s₁.heap news ∧ y.cps.size ≤ sizeLine ∧
    ∀ s₂ : Shared, (∃ h, s₂ = { s₁ with heap := h }) → CompRest prog w A h₀ L m env elt x scope cl s₂ (fun _ => True) (SignAt y) (FinE h₀ L m s₂ Q) y.cps.size 0 [] news
variable {iter : Expr} {px pos : Pos} {Q : Value → Shared → Prop}
theorem ListComp_Y (_F₀ : Fr h₀ L s.heap m) (hclos : closureFor scope env = pure cl) (hcell : ∀ y ∈ scope.names, y.2 ≠ .cell) (hkind : scope.kind = .function)
    (hnames : ∀ y ∈ scope.names, y.2 = .local → scope.names.lookup y.1 = some .local) (hx : scope.names.lookup x = some .local)
    (h : wpAny (model prog w) A (eval iter env) (SrcY prog w A h₀ L m env elt x scope cl Q) E s)
    (hs : ∀ x, foldedSetIterable iter env x = pure x := by intro _; rfl) :
    wpAny (model prog w) A (eval (.ListComp elt [⟨.Name x px, iter, [], 0⟩] scope pos) env) Q E s := by
  rw [eval_ListComp]
  refine wpAny_comprehension_free (use := none) rfl hs hclos hkind hnames (wpAny_mono h (fun xv s₁ h₁ => ?_) fun _ _ e => e)
  obtain ⟨b, t, news, rfl, hh, F, N, hsz, R⟩ := h₁
  refine KBw.pyIter_bytes ?_
  have up : ∀ c o, s₁.heap.get? c = some o → (s₁.heap.push { cls := .type "bytes_iterator", data := .fields #[.bytes b t, .int 0 0] }).get? c = some o := fun c o e => Heap.get?_push_of_some _ e
  refine block_U (KBw.walks hh s₁.heap.objs.size b t) hsz (fun i h st => by obtain ⟨o, e, _⟩ := st; exact ⟨o, e⟩)
    (fun i h h' o nw st e e' _ _ _ => by obtain ⟨o', q, r⟩ := st; rw [e] at q; cases q; exact ⟨o, e', r⟩) hcell hkind hx ⟨_, Heap.get?_push_size _ rfl, rfl, rfl⟩ (fun c hc => ?_)
    (F.keeps up) (N.grown up) (Nat.ne_of_lt F.ns.lt) (next_is_new F) (fun p hp => Nat.ne_of_lt (Heap.lt_size (N p hp).1)) trivial (R _ ⟨_, rfl⟩) ?_
  · rw [List.mem_singleton.mp hc]
    show s₁.heap.objs.size < (s₁.heap.push _).objs.size
    rw [Heap.size_push]; exact Nat.lt_succ_self _
  · intro D C h tk m' ys news' F' N' o1 hn hC₀ hD₀ hCL hDL hCD offC fin
    refine ⟨m', hn, fun h'' hs'' => fin D h'' tk (F'.change hs'' hCL hC₀) (fun p hp => ?_) o1⟩
    refine ⟨hs''.extBut _ _ ?_ (N' p hp).1, (N' p hp).2⟩
    rcases List.mem_cons.mp hp with rfl | hp
    · exact Ne.symm hCD
    · exact offC p hp
theorem ListComp_S (_F₀ : Fr h₀ L s.heap m) (hclos : closureFor scope env = pure cl) (hcell : ∀ y ∈ scope.names, y.2 ≠ .cell) (hkind : scope.kind = .function)
    (hnames : ∀ y ∈ scope.names, y.2 = .local → scope.names.lookup y.1 = some .local) (hx : scope.names.lookup x = some .local)
    (h : wpAny (model prog w) A (eval iter env) (SrcS prog w A h₀ L m env elt x scope cl Q) E s)
    (hs : ∀ x, foldedSetIterable iter env x = pure x := by intro _; rfl) :
    wpAny (model prog w) A (eval (.ListComp elt [⟨.Name x px, iter, [], 0⟩] scope pos) env) Q E s := by
  rw [eval_ListComp]
  refine wpAny_comprehension_free (use := none) rfl hs hclos hkind hnames (wpAny_mono h (fun xv s₁ h₁ => ?_) fun _ _ e => e)
  obtain ⟨y, t, news, rfl, hh, F, N, hsz, R⟩ := h₁
  cases ha : y.cps.all (· < 128)
  · refine wpAny_pyIter_wide ha ?_
    have up : ∀ c o, s₁.heap.get? c = some o → (s₁.heap.push { cls := .type "str_iterator", data := .fields #[.str y t, .int 0 0] }).get? c = some o := fun c o e => Heap.get?_push_of_some _ e
    refine block_U (Walks.strWide hh s₁.heap.objs.size y t) hsz (fun i h st => by obtain ⟨o, e, _⟩ := st; exact ⟨o, e⟩)
      (fun i h h' o nw st e e' _ _ _ => by obtain ⟨o', q, r⟩ := st; rw [e] at q; cases q; exact ⟨o, e', r⟩) hcell hkind hx ⟨_, Heap.get?_push_size _ rfl, rfl, rfl⟩ (fun c hc => ?_)
      (F.keeps up) (N.grown up) (Nat.ne_of_lt F.ns.lt) (next_is_new F) (fun p hp => Nat.ne_of_lt (Heap.lt_size (N p hp).1)) trivial (R _ ⟨_, rfl⟩) ?_
    · rw [List.mem_singleton.mp hc]
      show s₁.heap.objs.size < (s₁.heap.push _).objs.size
      rw [Heap.size_push]; exact Nat.lt_succ_self _
    · intro D C h tk m' ys news' F' N' o1 hn hC₀ hD₀ hCL hDL hCD offC fin
      refine ⟨m', hn, fun h'' hs'' => fin D h'' tk (F'.change hs'' hCL hC₀) (fun p hp => ?_) o1⟩
      refine ⟨hs''.extBut _ _ ?_ (N' p hp).1, (N' p hp).2⟩
      rcases List.mem_cons.mp hp with rfl | hp
      · exact Ne.symm hCD
      · exact offC p hp
  · refine wpAny_pyIter_ascii ha ?_
    have up : ∀ c o, s₁.heap.get? c = some o → (s₁.heap.push { cls := .type "str_ascii_iterator", data := .fields #[.str y t, .int 0 0] }).get? c = some o := fun c o e => Heap.get?_push_of_some _ e
    refine block_U (Walks.strAscii hh s₁.heap.objs.size y t) hsz (fun i h st => by obtain ⟨o, e, _⟩ := st; exact ⟨o, e⟩)
      (fun i h h' o nw st e e' _ _ _ => by obtain ⟨o', q, r⟩ := st; rw [e] at q; cases q; exact ⟨o, e', r⟩) hcell hkind hx ⟨_, Heap.get?_push_size _ rfl, rfl, rfl⟩ (fun c hc => ?_)
      (F.keeps up) (N.grown up) (Nat.ne_of_lt F.ns.lt) (next_is_new F) (fun p hp => Nat.ne_of_lt (Heap.lt_size (N p hp).1)) trivial (R _ ⟨_, rfl⟩) ?_
    · rw [List.mem_singleton.mp hc]
      show s₁.heap.objs.size < (s₁.heap.push _).objs.size
      rw [Heap.size_push]; exact Nat.lt_succ_self _
    · intro D C h tk m' ys news' F' N' o1 hn hC₀ hD₀ hCL hDL hCD offC fin
      refine ⟨m', hn, fun h'' hs'' => fin D h'' tk (F'.change hs'' hCL hC₀) (fun p hp => ?_) o1⟩
      refine ⟨hs''.extBut _ _ ?_ (N' p hp).1, (N' p hp).2⟩
      rcases List.mem_cons.mp hp with rfl | hp
      · exact Ne.symm hCD
      · exact offC p hp
end
theorem ints_of : ∀ {ys : List Value} {ns : List Int}, ys.length = ns.length → (∀ (i : Nat) (y : Value), ys[i]? = some y → ∃ n t, ns[i]? = some n ∧ y = Value.int n t) → IntsAre ys ns
  | [], [], _, _ => .nil
  | y :: ys, n :: ns, hl, h => by
    obtain ⟨n', t, e1, e2⟩ := h 0 y rfl
    simp only [List.getElem?_cons_zero, Option.some.injEq] at e1
    subst e1 e2
    exact .cons _ t (ints_of (by simpa using hl) fun i z hz => h (i + 1) z (by simpa using hz))
  | [], _ :: _, hl, _ => by simp at hl
  | _ :: _, [], hl, _ => by simp at hl
theorem strs_of : ∀ {ys : List Value} {ns : List Str}, ys.length = ns.length → (∀ (i : Nat) (y : Value), ys[i]? = some y → ∃ n t, ns[i]? = some n ∧ y = Value.str n t) → StrsAre ys ns
  | [], [], _, _ => .nil
  | y :: ys, n :: ns, hl, h => by
    obtain ⟨n', t, e1, e2⟩ := h 0 y rfl
    simp only [List.getElem?_cons_zero, Option.some.injEq] at e1
    subst e1 e2
    exact .cons _ t (strs_of (by simpa using hl) fun i z hz => h (i + 1) z (by simpa using hz))
  | [], _ :: _, hl, _ => by simp at hl
  | _ :: _, [], hl, _ => by simp at hl
def lowerB (l : List UInt8) : List UInt8 := l.map fun c => (lowerC c.toNat).toNat.toUInt8
theorem lowerB_eq (l : List UInt8) : byteArr (l.map fun c => lowerC c.toNat) = (lowerB l).toArray := by simp [byteArr, lowerB, List.map_map, Function.comp_def]
theorem lowerC_in (c : UInt8) : 0 ≤ lowerC c.toNat ∧ lowerC c.toNat < 256 := by
  have := UInt8.toNat_lt c
  unfold lowerC; split <;> omega
theorem byte_in (c : UInt8) : 0 ≤ (c.toNat : Int) ∧ (c.toNat : Int) < 256 := by
  have := UInt8.toNat_lt c
  omega
abbrev mkS (cs : List Nat) : Str := ⟨cs.toArray⟩
def upC (c : Nat) : Nat := if 97 ≤ c ∧ c ≤ 122 then c - 32 else c
theorem join_map (f : Nat → Nat) (cs : List Nat) : Txt.join (Str.ofString "") (cs.map fun c => (⟨#[f c]⟩ : Str)) = mkS (cs.map f) := by
  show Builtin.Str.glued (Str.ofString "") (cs.map fun c => (⟨#[f c]⟩ : Str)) = _
  rw [StrLaws.glued_eq_join]
  have e : (cs.map fun c => (⟨#[f c]⟩ : Str)) = signs (mkS (cs.map f)) := by
    simp [signs, List.map_map, Function.comp_def]
  rw [e]
  exact join_nil_signs _
theorem sign_weight (f : Nat → Nat) (cs : List Nat) : ((cs.map fun c => (⟨#[f c]⟩ : Str)).map (·.length)).sum = cs.length := by
  induction cs with
  | nil => rfl
  | cons c cs ih =>
    simp only [List.map_cons, List.sum_cons, List.length_cons] at ih ⊢
    rw [ih]
    show 1 + cs.length = cs.length + 1
    omega
theorem lt_one {a c : Nat} : ((#[c] : Array Nat).toList < (#[a] : Array Nat).toList) ↔ c < a := by
  simp [List.cons_lt_cons_iff]
theorem iter_rangeN {prog : Program} {w : World} {A : Around} {E : Value → Shared → Prop} {s : Shared} {env : Env} {h₀ : Heap} {x : Str} {body : List Stmt} {Q : Flow → Shared → Prop} {r : Addr} {a b : Int} {t u v : Tok} {n : Nat} {m₀ : Str → Option Value} {news : List (Addr × Obj)} (J : Nat → (Str → Option Value) → List (Addr × Obj) → Prop)
    (hh : A.handled = none) (hr : IsRange s.heap r a b 1 t u v) (hsmall : Builtin.Range.small a b 1 = true) (hn : Builtin.Range.rangeSize a b 1 = (n : Int)) (F : Fr h₀ env.locals s.heap m₀) (N : News h₀ env.locals s.heap news) (hj : J 0 m₀ news)
    (turn : ∀ i t m₁ news₁ h tk own, i < n → OwnOff own (news.map (·.1)) → J i m₁ news₁ → Fr h₀ env.locals h (fun y => if y = x then some (.int (a + (i : Int)) t) else m₁ y) → News h₀ env.locals h (news₁ ++ own) →
      wpAny (model prog w) A (execs body env) (InvPostN h₀ env.locals (J (i + 1)) own (news.map (·.1)) { s with heap := h, toks := tk } Q) E { s with heap := h, toks := tk })
    (done : ∀ m₁ news₁ h tk, J n m₁ news₁ → Fr h₀ env.locals h m₁ → News h₀ env.locals h news₁ → Q .next { s with heap := h, toks := tk }) :
    wpAny (model prog w) A (pyIter (.ref r)) (fun it s₂ => LoopAtV prog w A h₀ env x body Q E it s₂) E s := by
  refine wpAny_pyIter_range hr hsmall ?_
  have W : Walks prog w A s.heap.objs.size [s.heap.objs.size] [s.heap.objs.size] n (fun i v => i < n ∧ ∃ t, v = .int (a + i * 1) t)
      (fun i h => IsRangeIter h s.heap.objs.size (a + (i : Nat) * 1) ((n : Int) - (i : Nat)) 1) := (Walks.range hh _ a 1 n).bound
  refine loop_invN J W ?_ ?_ ?_ ?_ (by show IsRangeIter _ _ _ _ _; rw [hn]; simpa using Heap.get?_push_size _ rfl) (F.push _) (fun p hp => ⟨Heap.get?_push_of_some _ (N p hp).1, (N p hp).2⟩) hj ?_ done
  · intro hm
    exact absurd F.ns.lt ((List.mem_singleton.mp hm) ▸ Nat.lt_irrefl _)
  · intro b hb
    rw [List.mem_singleton.mp hb]
    exact next_is_new F
  · intro p hp hI
    exact absurd (Heap.lt_size (N p hp).1) ((List.mem_singleton.mp hI) ▸ Nat.lt_irrefl _)
  · intro p hp hI
    exact absurd (Heap.lt_size (N p hp).1) ((List.mem_singleton.mp hI) ▸ Nat.lt_irrefl _)
  · rintro i v m₁ nx h tk own hi ⟨_, t, rfl⟩ _ hoff hJ F₁ N₁
    have e1 : a + (i : Int) * 1 = a + (i : Int) := by omega
    rw [e1] at F₁
    exact turn i t m₁ nx h tk own hi hoff hJ F₁ N₁
end
section
section
variable {w : World} {A : Around} {E : Value → Shared → Prop} {s : Shared} {h₀ : Heap} {L : Addr} {m : Str → Option Value} {rest news : List (Addr × Obj)}
abbrev exo (t : Addr) (dd : Option Addr) : Obj := { cls := .ref 95, dict := dd, data := .fields #[.ref t, .none, .none, .none, .bool false, .none] }
abbrev tpo (vs : List Value) : Obj := { cls := .type "tuple", data := .seq vs.toArray }
theorem news_push {o : Obj} (F : Fr h₀ L s.heap m) (N : News h₀ L s.heap news) : Fr h₀ L (s.heap.push o) m ∧ News h₀ L (s.heap.push o) news :=
  ⟨F.keeps fun _ _ e => Heap.get?_push_of_some _ e, N.grown fun _ _ e => Heap.get?_push_of_some _ e⟩
theorem osx {x : Addr} {ox : Obj} {od : Option Obj} {name : Str} {tk : Tok} {v : Value} {R : Result → Shared → Prop} (X : (Mine.hd.heap_39 w.params).In s.heap) (I : InstAt s.heap x ox 95 od)
    (ht : findIn (Mine.hd.heap_39 w.params) (.ref 95) name = some none)
    (h : wpAny (model PySem.Challenge.rw_pq0950_01.prog w) A.in1 (Builtin.ObjectAttr.storeInOwnDict (.ref x) (.ref 95) (.str name tk) name v false)
      (fun fin s' => match fin with | .done f => R (.ok f) s' | .again c' => c'.quiet = true ∧ codeAny (model PySem.Challenge.rw_pq0950_01.prog w) A c' R s') (fun e s' => R (.error e) s') s) :
    codeAny (model PySem.Challenge.rw_pq0950_01.prog w) A (.call (.builtin "object.__setattr__") ⟨[.ref x, .str name tk, v], []⟩) R s := by
  revert ht; k_fill; intro ht
  have SF := PySem.F.store_Exception
  have SO := PySem.F.store_object
  obtain ⟨cd, hc, hm1⟩ : ∃ cd, clsIn (Mine.hd.heap_39 w.params) 95 = some cd ∧ cd.mro = [.ref 95, .ref 46, .type "Exception", .type "BaseException", .type "object"] := ⟨_, by k_is, rfl⟩
  have hm : Looks (model PySem.Challenge.rw_pq0950_01.prog w) s.heap (mroOf (.ref 95)) cd.mro := (looks_clsIn X hc).andThen .now
  have sub : Looks (model PySem.Challenge.rw_pq0950_01.prog w) s.heap (isInstance (.ref x) (.type "object")) true := I.type.andThen (looks_mroIn X (by unfold mroIn; rw [hc, Option.bind_some, if_neg (by rw [hm1]; decide), hm1]; rfl))
  refine codeAny_call_builtin SO.slot.plain SO.entry (@check_slot (model PySem.Challenge.rw_pq0950_01.prog w) _ _ s "object.__setattr__" "object" "__setattr__" (.ref x) [.str name tk, v] [] _ SO.kind SO.split sub (SO.args (.ref x) (.str name tk) v) ?_)
  rw [osa_eq, refuse_eq]
  refine wpAny_bind (wpAny_bind (I.type.here (wpAny_bind (hm.here ?_))))
  rw [hm1, refuseLoop_ref, refuseLoop_ref, SF.passes]
  exact wpAny_pure (wpAny_bind (I.type.here (wpAny_bind ((looks_findIn X ht).here h))))
theorem setx {x : Addr} {ox : Obj} {od : Option Obj} {name : Str} {v : Value} {Q : Unit → Shared → Prop} (X : (Mine.hd.heap_39 w.params).In s.heap) (I : InstAt s.heap x ox 95 od)
    (ht : findIn (Mine.hd.heap_39 w.params) (.ref 95) name = some none)
    (h : wpAny (model PySem.Challenge.rw_pq0950_01.prog w) A.in1 (Builtin.ObjectAttr.storeInOwnDict (.ref x) (.ref 95) (.str name s.toks) name v false)
      (fun fin s' => match fin with | .done (.ret _) => Q () s' | .done _ => False | .again c' => False) E { s with toks := s.toks + 1 }) :
    wpAny (model PySem.Challenge.rw_pq0950_01.prog w) A (setAttr (.ref x) name v) Q E s := by
  revert ht; k_fill; intro ht
  refine set_plain X I (by k_is) (osx X I ht (wpAny_mono h (fun fin s' hf => ?_) fun _ _ e => e))
  rcases fin with (_ | _ | _ | _) | _ <;> first | exact hf | exact hf.elim
theorem nsSet_x {d : Addr} {od od' : Obj} {name : Str} {v : Value} {es es' : List DictEntry} {n n' : Nat} {nameV : Str} {tk : Tok} {Q : Fin → Shared → Prop} (D : s.heap.get? d = some od) (e0 : od = dictOf es n)
    (hl : aRefKeyMayBeTheName name es.toArray = false) (e : Obj.putName name (PyData.keyHash w.params name) (.str name s.toks) v od = od') (e1 : od' = dictOf es' n') (hz : es'.length ≤ 1000)
    (h : Q (.done (.ret .none)) { s with heap := s.heap.update d (Obj.putName name (PyData.keyHash w.params name) (.str name s.toks) v), toks := s.toks + 1 }) :
    wpAny (model PySem.Challenge.rw_pq0950_01.prog w) A (Builtin.ObjectAttr.storeInDict d (.str nameV tk) name v) Q E s := by
  subst e0
  unfold Builtin.ObjectAttr.storeInDict Builtin.ObjectAttr.newKeyGuard nsSet
  refine wpAny_bind (wpAny_pure (wpAny_bind (wpAny_bind (wpAny_bind (wpAny_askSetting (wpAny_pure (wpAny_bind (wpAny_mkText (wpAny_bind (wpAny_loadPart D ?_))))))))))
  dsimp only
  rw [hl]
  refine wpAny_updatePart D ?_
  have D' : (s.heap.update d (Obj.putName name (PyData.keyHash w.params name) (.str name s.toks) v)).get? d = some od' := by
    rw [Heap.get?_update_self _ D (by rw [e, e1]; rfl), e]
  refine wpAny_bind (wpAny_lookBehind D' (by rw [e1]; exact pastItsLine_dict (by rw [List.size_toArray, sizeLine_eq]; omega)) ?_)
  exact wpAny_pure h
end
section
variable {w : World} {A : Around} {E : Value → Shared → Prop} {s : Shared} {h₀ : Heap} {L : Addr} {m : Str → Option Value} {rest news : List (Addr × Obj)}
abbrev ent (w : World) (x : String) (v : Value) (k : Tok) : DictEntry := { hash := PyData.keyHash w.params (Str.ofString x), key := Value.str (Str.ofString x) k, val := v }
theorem setx_new {x t : Addr} {v : Value} {Q : Unit → Shared → Prop} (F : Fr h₀ L s.heap m) (X₀ : (Mine.hd.heap_39 w.params).In h₀) (N : News h₀ L s.heap ((x, exo t none) :: rest)) (hlt : ∀ p ∈ rest, p.1 < x)
    (h : ∀ h' d k tk, Fr h₀ L h' m → News h₀ L h' ((x, exo t (some d)) :: (d, dictOf [ent w "what" v k] 1) :: rest) → (@Ne Nat d x) → (∀ p ∈ rest, p.1 ≠ d) → Q () { s with heap := h', toks := tk }) :
    wpAny (model PySem.Challenge.rw_pq0950_01.prog w) A (setAttr (.ref x) (Str.ofString "what") v) Q E s := by
  have hne : ∀ p ∈ rest, p.1 ≠ x := fun p hp => Nat.ne_of_lt (hlt p hp)
  revert X₀; k_fill; intro X₀
  have X := X₀.keeps F.keep
  have hx := (N _ (.head _)).1
  have I : InstAt s.heap x (exo t none) 95 none := ⟨hx, rfl, rfl, trivial⟩
  refine setx X I (by k_is) ?_
  obtain ⟨cd, hc, hd1⟩ : ∃ cd, clsIn (Mine.hd.heap_39 w.params) 95 = some cd ∧ cd.hasDict = true := ⟨_, by k_is, rfl⟩
  unfold Builtin.ObjectAttr.storeInOwnDict
  refine wpAny_bind (wpAny_pure (wpAny_bind ?_))
  show wpAny _ _ (instanceDict x true) _ _ _
  unfold instanceDict
  refine wpAny_bind (wpAny_loadPart hx (wpAny_bind ?_))
  dsimp only
  refine looks_clsIn X hc _ _ _ _ (fun _ _ e => e) ?_
  rw [hd1]
  simp only [Bool.not_true, Bool.false_eq_true, if_false, typeHasDict, Bool.or_false]
  obtain ⟨F1, N1, lt1⟩ := ks_newsPush (s := s) (o := { cls := .type "dict", data := .dict #[] }) F N rfl (Heap.get?_push_size _ rfl) (fun _ _ e => Heap.get?_push_of_some _ e)
  have xd : s.heap.objs.size ≠ x := Nat.ne_of_gt (lt1 _ (.head _))
  have rd : ∀ p ∈ rest, p.1 ≠ s.heap.objs.size := fun p hp => Nat.ne_of_lt (lt1 _ (.tail _ hp))
  obtain ⟨F2, N2⟩ := news_upd (pre := [(s.heap.objs.size, { cls := .type "dict", data := .dict #[] })]) (post := rest) (f := fun o => { cls := o.cls, dict := some s.heap.objs.size, data := o.data, slots := o.slots }) F1 N1 (by simpa using xd) hne rfl rfl
  have N3 : News h₀ L _ ([(x, exo t (some s.heap.objs.size))] ++ (s.heap.objs.size, dictOf [] 0) :: rest) := fun p hp => N2 p (by
    simp only [List.cons_append, List.nil_append, List.mem_cons] at hp ⊢
    rcases hp with h | h | h
    · exact .inr (.inl h)
    · exact .inl h
    · exact .inr (.inr h))
  obtain ⟨F4, N4⟩ := news_upd (f := Obj.putName (Str.ofString "what") (PyData.keyHash w.params (Str.ofString "what")) (.str (Str.ofString "what") (s.toks + 1)) v) F2 N3 (by simpa using Ne.symm xd) rd (o' := dictOf [ent w "what" v (s.toks + 1)] 1) rfl rfl
  refine wpAny_bind (wpAny_alloc (wpAny_bind (wpAny_update (N1 _ (.tail _ (.head _))).1 (wpAny_pure ?_))))
  dsimp only
  exact nsSet_x (es := []) (n := 0) (es' := [ent w "what" v (s.toks + 1)]) (n' := 1) (N3 (s.heap.objs.size, dictOf [] 0) (by simp)).1 rfl rfl rfl rfl (Nat.le_of_ble_eq_true rfl) (h _ _ _ _ F4 N4 xd rd)
end
section
variable {w : World} {A : Around} {E : Value → Shared → Prop} {s : Shared} {h₀ : Heap} {L : Addr} {m : Str → Option Value} {rest news : List (Addr × Obj)}
theorem setx_old {x t d : Addr} {v v0 : Value} {k0 : Tok} {Q : Unit → Shared → Prop} (F : Fr h₀ L s.heap m) (X₀ : (Mine.hd.heap_39 w.params).In h₀) (N : News h₀ L s.heap ((x, exo t (some d)) :: (d, dictOf [ent w "what" v0 k0] 1) :: rest)) (xd : @Ne Nat d x) (rd : ∀ p ∈ rest, p.1 ≠ d)
    (h : ∀ h' D tk, Fr h₀ L h' m → News h₀ L h' ((x, exo t (some d)) :: (d, D) :: rest) → Q () { s with heap := h', toks := tk }) :
    wpAny (model PySem.Challenge.rw_pq0950_01.prog w) A (setAttr (.ref x) (Str.ofString "at") v) Q E s := by
  revert X₀; k_fill; intro X₀
  have X := X₀.keeps F.keep
  have hx := (N _ (.head _)).1
  have I : InstAt s.heap x (exo t (some d)) 95 (some (dictOf [ent w "what" v0 k0] 1)) := ⟨hx, rfl, rfl, (N _ (.tail _ (.head _))).1⟩
  refine setx X I (by k_is) ?_
  obtain ⟨cd, hc, hd1⟩ : ∃ cd, clsIn (Mine.hd.heap_39 w.params) 95 = some cd ∧ cd.hasDict = true := ⟨_, by k_is, rfl⟩
  unfold Builtin.ObjectAttr.storeInOwnDict
  refine wpAny_bind (wpAny_pure (wpAny_bind ?_))
  show wpAny _ _ (instanceDict x true) _ _ _
  unfold instanceDict
  refine wpAny_bind (wpAny_loadPart hx (wpAny_bind ?_))
  dsimp only
  refine looks_clsIn X hc _ _ _ _ (fun _ _ e => e) ?_
  rw [hd1]
  simp only [Bool.not_true, Bool.false_eq_true, if_false]
  refine wpAny_pure ?_
  obtain ⟨F4, N4⟩ := news_upd (pre := [(x, exo t (some d))]) (f := Obj.putName (Str.ofString "at") (PyData.keyHash w.params (Str.ofString "at")) (.str (Str.ofString "at") (s.toks + 1)) v) F N (by simpa using Ne.symm xd) rd (o' := dictOf [ent w "what" v0 k0, ent w "at" v (s.toks + 1)] 2) rfl rfl
  exact nsSet_x (es := [ent w "what" v0 k0]) (n := 1) (es' := [ent w "what" v0 k0, ent w "at" v (s.toks + 1)]) (n' := 2) (N _ (.tail _ (.head _))).1 rfl rfl rfl rfl (Nat.le_of_ble_eq_true rfl) (h _ _ _ F4 N4)
end
end
section
section
variable {w : World} {A : Around} {s : Shared} {h₀ : Heap} {L : Addr} {m : Str → Option Value} {news : List (Addr × Obj)}
abbrev bm95 : List Value := [.ref 46, .type "Exception", .type "BaseException", .type "object"]
abbrev WF (nm q : Str) (bs : List Value) (hdct : Bool) (sn : List Str) (sub : List Value) (ab : Bool) (col : Option Bool) (dd : Option Addr) (k0 k1 k2 k3 k5 : Option Value) : Obj := excClassObj nm q 95 94 bs bm95 hdct sn sub ab col dd k0 k1 k2 k3 k5 "Exception.__new__"
theorem wf_obj {h : Heap} (X : (Mine.hd.heap_39 w.params).In h) : ∃ nm q bs hdct sn sub ab col dd k0 k1 k2 k3 k5, h.get? 95 = some (WF nm q bs hdct sn sub ab col dd k0 k1 k2 k3 k5) := by
  suffices z : ∃ nm q bs hdct sn sub ab col dd k0 k1 k2 k3 k5, List.lookup 95 (Mine.hd.heap_39 w.params) = some (WF nm q bs hdct sn sub ab col dd k0 k1 k2 k3 k5) by
    obtain ⟨nm, q, bs, hdct, sn, sub, ab, col, dd, k0, k1, k2, k3, k5, e⟩ := z
    exact ⟨nm, q, bs, hdct, sn, sub, ab, col, dd, k0, k1, k2, k3, k5, X _ _ e⟩
  exact ⟨_, _, _, _, _, _, _, _, _, _, _, _, _, _, rfl⟩
variable {nm q : Str} {bs : List Value} {hdct : Bool} {sn : List Str} {sub : List Value} {ab : Bool} {col : Option Bool} {dd : Option Addr} {k0 k1 k2 k3 k5 : Option Value}
theorem wf_has (T : String) : (Value.ref 95 :: bm95).contains (.type T) = ([.type "Exception", .type "BaseException", .type "object"] : List Value).contains (.type T) := by
  rw [List.contains_cons, List.contains_cons]; rfl
theorem wf_check_new {M : Model} {E : Value → Shared → Prop} {h : Heap} {g : Array GenState} {d : Drawn} {t : Nat} {os : OsState} {rest : List Value} {Q : Unit → Shared → Prop} (hC : h.get? 95 = some (WF nm q bs hdct sn sub ab col dd k0 k1 k2 k3 k5))
    (hq : Q () ⟨h, g, d, t, os⟩) : wpAny M A (checkBuiltinCall "Exception.__new__" ⟨.ref 95 :: rest, []⟩) Q E ⟨h, g, d, t, os⟩ := by
  have F := PySem.F.excBase_Exception
  have hcont : (Value.ref 95 :: bm95).contains (.type "Exception") = true := (wf_has _).trans F.hasB
  have hstar := F.noStar
  simp only [checkBuiltinCall, F.newKind, F.newSplit, F.newRow]
  repeat (first | refine wpAny_loadPart_at hC ?_ | (refine wpAny_isSubtype_exc hC ?_; rw [hcont]) | refine wpAny_staticBase_exc hC ?_ | refine wpAny_madeBy_exc hC ?_ | simp only [bne_self_eq_false, Bool.false_eq_true, if_false] | wp_step)
  exact hq
theorem wf_new {prog : Program} {R : Result → Shared → Prop} {h : Heap} {g : Array GenState} {d : Drawn} {t : Nat} {os : OsState} {rest : List Value} (hC : h.get? 95 = some (WF nm q bs hdct sn sub ab col dd k0 k1 k2 k3 k5))
    (hq : R (.ok (.ret (.ref (h.objs.size + 1)))) ⟨(h.push (tpo rest)).push (exo h.objs.size none), g, d, t, os⟩) (hrest : rest.length ≤ sizeLine) :
    codeAny (model prog w) A (.builtin "Exception.__new__" ⟨.ref 95 :: rest, []⟩) R ⟨h, g, d, t, os⟩ := by
  have F := PySem.F.excBase_Exception
  have hends := F.ends
  have hcB : (Value.ref 95 :: bm95).contains (.type "Exception") = true := (wf_has _).trans F.hasB
  have hcA : (Value.ref 95 :: bm95).contains (.type "AttributeError") = false := (wf_has _).trans F.noAttr
  have hcN : (Value.ref 95 :: bm95).contains (.type "NameError") = false := (wf_has _).trans F.noName
  refine codeAny_builtinAt F.entry ?_
  unfold Builtin.«BaseException.__new__»
  refine PySem.wpAt_bind ?_
  show PySem.wpAt _ _ _ (stack >>= _) _ _ _
  refine PySem.wpAt_bind (PySem.wpAt_stack fun p below => PySem.wpAt_of_wpAny ?_)
  wp_walk
  refine PySem.wpAt_of_wpAny ?_
  rw [F.owner]
  repeat (first | with_reducible refine wpAny_madeHere_exc F.canon hC ?_ | with_reducible refine wpAny_loadPart_at hC ?_ | (with_reducible refine wpAny_isSubtype_exc hC ?_; first | rw [hcB] | rw [hcA] | rw [hcN]) | wp_step)
  show R _ _
  rw [Heap.size_push]
  exact hq
end
section
variable {w : World} {A : Around} {E : Value → Shared → Prop} {s : Shared} {h₀ : Heap} {L : Addr} {m : Str → Option Value} {news : List (Addr × Obj)}
theorem wf_call {pos : List Value} {Q : Value → Shared → Prop} (F : Fr h₀ L s.heap m) (X₀ : (Mine.hd.heap_39 w.params).In h₀) (N : News h₀ L s.heap news) (hpos : pos.length ≤ 1000)
    (hi : findIn (Mine.hd.heap_39 w.params) (.ref 95) "__init__" = some (some (.ref 36))) (hf : typeIn (Mine.hd.heap_39 w.params) (.ref 36) = some (.type "function"))
    (h : ∀ x t h', Fr h₀ L h' m → News h₀ L h' ((x, exo t none) :: news) → (∀ p ∈ news, p.1 < x) →
      codeAny (model PySem.Challenge.rw_pq0950_01.prog w) (A.under (.builtin "type.__call__" ⟨.ref 95 :: pos, []⟩)) (.call (.ref 36) ⟨.ref x :: pos, []⟩) (InitBack x fun r s' => match r with | .ok (.ret v) => Q v s' | .ok _ => False | .error e => E e s') { s with heap := h' }) :
    wpAny (model PySem.Challenge.rw_pq0950_01.prog w) A (call (.ref 95) pos) Q E s := by
  have X := X₀.keeps F.keep
  have hz : pos.length ≤ sizeLine := by rw [sizeLine_eq]; omega
  obtain ⟨F1, N1⟩ := news_push (o := tpo pos) F N
  obtain ⟨F2, N2, lt2⟩ := ks_newsPush (s := { s with heap := s.heap.push (tpo pos) }) (o := exo s.heap.objs.size none) F1 N1 rfl (Heap.get?_push_size _ rfl) (fun _ _ e => Heap.get?_push_of_some _ e)
  have h := h _ _ _ F2 N2 lt2
  have X1 := X₀.keeps F2.keep
  obtain ⟨hh, g, d, t, os⟩ := s
  dsimp only at h X1 X F2 N2 ⊢
  rw [Heap.size_push] at h N2
  obtain ⟨nm, q, bs, hdct, sn, sub, ab, col, dd, k0, k1, k2, k3, k5, hC⟩ := wf_obj X
  have f1 := tc_lookup
  have f2 := tc_bind (.ref 95)
  have hT : (⟨hh, g, d, t, os⟩ : Shared).TypeIs (.ref 95) "type" := ⟨_, hC, rfl⟩
  refine wpAny_call (codeAny_of_tree ?_)
  show wpAny _ _ (callAny (.ref 95) _) _ _ _
  repeat (any_goals (first | assumption | with_reducible refine wpAny_loadPart_at hC ?_ | wp_step))
  refine ⟨rfl, ?_⟩
  refine codeAny_call_builtin_at (Code.quiet_builtin _ (by decide +kernel)) entry_typeCall (wpAny_check_type_call_sub hC ?_)
  unfold Builtin.«type.__call__»
  repeat (first | with_reducible refine wpAny_loadPart_at hC ?_ | with_reducible refine wpAny_madeBy_exc hC ?_ | wp_step)
  refine codeAny_call_builtin_code (Code.quiet_builtin _ PySem.F.excBase_Exception.quiet) (wf_check_new hC ?_)
  refine wf_new hC ?_ hz
  show wpAny _ _ _ _ _ _
  obtain ⟨nm, q, bs, hdct, sn, sub, ab, col, dd, k0, k1, k2, k3, k5, hC₁⟩ := wf_obj X1
  have hget := (N2 _ (.head _)).1
  have hcC : (Value.ref 95 :: bm95).contains (.ref 95) = true := rfl
  have I : InstAt ((hh.push (tpo pos)).push (exo hh.objs.size none)) (hh.objs.size + 1) (exo hh.objs.size none) 95 none := ⟨hget, rfl, rfl, trivial⟩
  unfold isInstance
  repeat (first | with_reducible refine wpAny_loadPart_at hget ?_ | (with_reducible refine wpAny_isSubtype_exc hC₁ ?_; rw [hcC]) | wp_step)
  refine wpAny_isSubtype_exc hC₁ ?_
  rw [hcC]
  dsimp only [List.append, Bool.not_true]
  rw [if_neg (by decide)]
  refine wpAny_bind (wpAny_holding (special_fn X1 I hi hf (wpAny_call (codeAny_mono h fun r s' z => ?_))))
  rcases r with e | (v | _ | _ | _) <;> first | exact z | exact z.elim | skip
  obtain ⟨rfl, z⟩ := z
  exact wpAny_pure z
end
section
variable {w : World} {A : Around} {E : Value → Shared → Prop} {s : Shared} {h₀ : Heap} {L : Addr} {m : Str → Option Value} {rest : List (Addr × Obj)}
theorem wf_check_init {M : Model} {h : Heap} {g : Array GenState} {d : Drawn} {tk : Nat} {os : OsState} {e : Addr} {oe : Obj} {rest : List Value} {Q : Unit → Shared → Prop} {nm q : Str} {bs : List Value} {hdct : Bool} {sn : List Str} {sub : List Value} {ab : Bool} {col : Option Bool} {dd : Option Addr} {k0 k1 k2 k3 k5 : Option Value}
    (hC : h.get? 95 = some (WF nm q bs hdct sn sub ab col dd k0 k1 k2 k3 k5)) (he : h.get? e = some oe) (hcls : oe.cls = .ref 95) (hq : Q () ⟨h, g, d, tk, os⟩) :
    wpAny M A (checkBuiltinCall "Exception.__init__" ⟨.ref e :: rest, []⟩) Q E ⟨h, g, d, tk, os⟩ := by
  have F := PySem.F.excBase_Exception
  have hcB : (Value.ref 95 :: bm95).contains (.type "Exception") = true := (wf_has _).trans F.hasB
  have hshort := F.noStar
  simp only [checkBuiltinCall, F.initKind, F.initSplit, F.initRow]
  repeat (first | (with_reducible refine wpAny_loadPart_at he ?_; rw [hcls]) | with_reducible refine wpAny_loadPart_at hC ?_ | (with_reducible refine wpAny_isSubtype_exc hC ?_; rw [hcB]) | wp_step)
  refine wpAny_onRaise ?_
  rw [show ∀ (a b : String) (n : Nat), Bind.check ⟨.positional, "*", "Exception", .self, [⟨"args", .varPos, false⟩]⟩ a b n (List.map (fun x => x.fst) ({ pos := Value.ref e :: rest } : Args).kw) = pure () from
    fun a b n => check_star_args _ _ _ _ _ _]
  exact wpAny_pure hq
theorem wf_init {e t : Addr} {a : Value} {Q : Value → Shared → Prop} (F : Fr h₀ L s.heap m) (X₀ : (Mine.hd.heap_39 w.params).In h₀) (N : News h₀ L s.heap ((e, exo t none) :: rest)) (hlt : ∀ p ∈ rest, p.1 < e)
    (h : ∀ h' t', Fr h₀ L h' m → News h₀ L h' ((e, exo t' none) :: rest) → Q .none { s with heap := h' }) :
    wpAny (model PySem.Challenge.rw_pq0950_01.prog w) A (call (.builtin "Exception.__init__") [.ref e, a]) Q E s := by
  have hne : ∀ p ∈ rest, p.1 ≠ e := fun p hp => Nat.ne_of_lt (hlt p hp)
  have FE := PySem.F.excBase_Exception
  have X := X₀.keeps F.keep
  obtain ⟨nm, q, bs, hdct, sn, sub, ab, col, dd, k0, k1, k2, k3, k5, hC⟩ := wf_obj X
  have he := (N _ (.head _)).1
  obtain ⟨hh, g, d, tk, os⟩ := s
  refine wpAny_call (codeAny_call_builtin FE.init.plain FE.initEntry (wf_check_init hC he rfl ?_))
  obtain ⟨F1, N1⟩ := news_push (s := ⟨hh, g, d, tk, os⟩) (o := tpo [a]) F N
  obtain ⟨F2, N2⟩ := news_upd (pre := []) (post := rest) (f := Obj.mapFields (·.setIfInBounds 0 (.ref hh.objs.size))) F1 N1 (by simp) hne (o' := exo hh.objs.size none) rfl rfl
  have he1 := (N1 _ (.head _)).1
  unfold Builtin.«BaseException.__init__»
  dsimp only
  rw [if_neg (by simp)]
  unfold newTuple Builtin.BaseException.bexcPut
  refine wpAny_bind (wpAny_newObj_type (wpAny_bind (wpAny_bind (wpAny_field he1 rfl (x := .ref t) rfl (wpAny_bind (wpAny_setField he1 rfl (Nat.succ_pos 5) ?_))))) (by show [a].toArray.size ≤ sizeLine; rw [List.size_toArray, sizeLine_eq]; exact Nat.le_of_ble_eq_true rfl))
  exact wpAny_letGo (wpAny_pure (h _ _ F2 N2))
end
end
section
def RX (base G : Heap) (l : List Env) (e : Addr) (news : List (Addr × Obj)) (h : Heap) : Prop :=
  ∃ B a0, base.StaysIn B ∧ (∀ b o, G.get? b = some o → b ∉ l.filterMap (·.frame) → B.get? b = some o) ∧ (∀ q ∈ news, B.get? q.1 = some q.2 ∧ G.get? q.1 = none ∧ base.get? q.1 = none) ∧ Heap.FlyingW B l e (.ref 95) a0 h
section
variable {M : Model} {A : Around} {E : Value → Shared → Prop} {s' : Shared} {base g g₂ : Heap} {outer : List Env} {L a e t : Addr} {dd : Option Addr} {m : Str → Option Value} {name : Str} {scope : Scope} {cd : Value} {Q : Unit → Shared → Prop} {news keep : List (Addr × Obj)}
theorem leave_firstX (K : Below A base outer g) (F : Fr g L s'.heap m) (N : News g L s'.heap ((e, exo t dd) :: news)) (hne : ∀ p ∈ news, p.1 ≠ e) (hkp : ∀ q ∈ keep, q ∈ news)
    (hQ : ∀ h', RX base g outer e keep h' → g.UpToSlots h' → Q () { s' with heap := h' }) (hk : scope.kind = .function := by rfl) :
    wpAny M (A.deeper (envOf name scope L a cd)) (leaving (envOf name scope L a cd) (.ref e)) Q E s' := by
  have K' := K.push (name := name) (a := a) (cd := cd) F hk
  have hin : ∀ env ∈ (envOf name scope L a cd :: outer), ∀ b, env.frame = some b → b ∈ e :: (envOf name scope L a cd :: outer).filterMap (·.frame) := fun env he b hb => .tail _ (List.mem_filterMap.mpr ⟨env, he, hb⟩)
  have eg : g.get? e = none := (N _ (.head _)).2.2
  have eb : base.get? e = none := fresh_of_stays K.stays eg
  have he := (N _ (.head _)).1
  have inE : ∀ b, b ∈ e :: (envOf name scope L a cd :: outer).filterMap (·.frame) → b = e ∨ b = L ∨ b ∈ outer.filterMap (·.frame) := fun b hb => by
    rcases List.mem_cons.mp hb with h | h
    · exact .inl h
    · exact .inr (kts_mem h)
  have st : base.StaysIn (hideAll s'.heap (e :: (envOf name scope L a cd :: outer).filterMap (·.frame))) := fun b o q => hideAll_get _ (K'.stays b o q) fun hm => by
    rcases List.mem_cons.mp hm with h | h
    · rw [h, eb] at q; cases q
    · rw [(K'.frames.mem h).1] at q; cases q
  have sg : ∀ b o, g.get? b = some o → b ∉ outer.filterMap (·.frame) → (hideAll s'.heap (e :: (envOf name scope L a cd :: outer).filterMap (·.frame))).get? b = some o := fun b o q nm => hideAll_get _ (F.keep b o q) fun hm => by
    rcases inE _ hm with z | z | z
    · rw [z, eg] at q; cases q
    · rw [z, kts_self F] at q; cases q
    · exact nm z
  have hl : ∀ q ∈ keep, (hideAll s'.heap (e :: (envOf name scope L a cd :: outer).filterMap (·.frame))).get? q.1 = some q.2 ∧ g.get? q.1 = none ∧ base.get? q.1 = none := fun q hq' => by
    have hq := hkp q hq'
    have Nq := N q (.tail _ hq)
    refine ⟨hideAll_get _ Nq.1 fun hm => ?_, Nq.2.2, fresh_of_stays K.stays Nq.2.2⟩
    rcases inE _ hm with z | z | z
    · exact hne q hq z
    · exact Nq.2.1 z
    · obtain ⟨o, ho, _⟩ := (K.frames.mem z).2
      rw [Nq.2.2] at ho; cases ho
  refine wpAny_leaving_firstW (a0 := .ref t) K'.stack (funFrames_hide K'.frames hin) rfl he (fun b o q => of_hideAll _ q) (hideAll_none _ (.head _)) rfl rfl rfl fun h' hL => ?_
  obtain ⟨k1, ⟨_, _, k2⟩, k3, k4⟩ := hL
  exact hQ h' ⟨_, .ref t, st, sg, hl, k1, hideAll_none _ (.head _), k2, k3⟩ ((Heap.UpToSlots.of_keeps F.keep).trans k4)
theorem leave_onX (K : Below A base outer g) (F : Fr g L g₂ m) (R : RX base g₂ (envOf name scope L a cd :: outer) e news s'.heap) (hsm : g₂.UpToSlots s'.heap) (hkp : ∀ q ∈ keep, q ∈ news)
    (hQ : ∀ h', RX base g outer e keep h' → g.UpToSlots h' → Q () { s' with heap := h' }) :
    wpAny M (A.deeper (envOf name scope L a cd)) (leaving (envOf name scope L a cd) (.ref e)) Q E s' := by
  obtain ⟨B, a0, hB, hBG, hl, hfl⟩ := R
  exact wpAny_leaves_onW (Around.frames_deeper K.stack) rfl hfl fun h' x1 x2 =>
    hQ h' ⟨B, a0, hB, fun b o q nm => hBG b o (F.keep b o q) (fun hm => by
      rcases kts_mem hm with z | z
      · rw [z, kts_self F] at q; cases q
      · exact nm z), fun q hq => ⟨(hl q (hkp q hq)).1, kts_none F.keep (hl q (hkp q hq)).2.1, (hl q (hkp q hq)).2.2⟩, x1⟩ ((Heap.UpToSlots.of_keeps F.keep).trans (hsm.trans x2))
end
def ClX (w : World) (mean : ExcName → Option Value) (mg mb : Str → Option Value) (f : Addr) (k : Nat) (news : List (Addr × Obj)) (vs : List Value) (keep : List (Addr × Obj)) : Prop :=
  ∀ (dp un : Nat) (gd : Option (List Code)) (cn : Str) (cs : Scope) (a : Addr) (ccd : Value) (cl : List (Str × Addr)) (outer : List Env) (A₀ : Around) (base h₀ : Heap) (L : Addr) (m : Str → Option Value) (s : Shared) (Q E : Value → Shared → Prop),
    Below A₀ base outer h₀ → Fr h₀ L s.heap m → (Mine.hd.heap_39 w.params).In h₀ → News h₀ L s.heap news →
    Top Mine.hd.view_39 (looseW Mine.hd.view_39 [Str.ofString "PostError", Str.ofString "literal_octets", Str.ofString "string_octets", Str.ofString "astring_octets"]) mean mg mb h₀ →
    cs.kind = .function → dp + k < recursionLimit → un + 8 * k < cLine →
    (∀ e G h' tk', Fr h₀ L G m → RX base G (envX cn cs L a ccd cl :: outer) e keep h' → G.UpToSlots h' → E (.ref e) { s with heap := h', toks := tk' }) →
    wpAny (model PySem.Challenge.rw_pq0950_01.prog w) (ktrTop dp un gd cn cs L a ccd cl outer) (call (.ref f) vs) Q E s
theorem ClX.use {w : World} {mean : ExcName → Option Value} {mg mb : Str → Option Value} {f : Addr} {k : Nat} {news keep : List (Addr × Obj)} {vs : List Value}
    {dp un : Nat} {gd : Option (List Code)} {cn : Str} {cs : Scope} {a : Addr} {ccd : Value} {cl : List (Str × Addr)} {outer : List Env} {A₀ : Around} {base h₀ : Heap} {L : Addr} {m : Str → Option Value} {s : Shared} {Q E : Value → Shared → Prop}
    (C : ClX w mean mg mb f k news vs keep)
    (B : Below A₀ base outer h₀) (F : Fr h₀ L s.heap m) (X : (Mine.hd.heap_39 w.params).In h₀) (N : News h₀ L s.heap news)
    (T : Top Mine.hd.view_39 (looseW Mine.hd.view_39 [Str.ofString "PostError", Str.ofString "literal_octets", Str.ofString "string_octets", Str.ofString "astring_octets"]) mean mg mb h₀)
    (hk : cs.kind = .function) (hd : dp + k < recursionLimit) (hu : un + 8 * k < cLine)
    (exc : ∀ e G h' tk', Fr h₀ L G m → RX base G (envX cn cs L a ccd cl :: outer) e keep h' → G.UpToSlots h' → E (.ref e) { s with heap := h', toks := tk' }) :
    wpAny (model PySem.Challenge.rw_pq0950_01.prog w) (ktrTop dp un gd cn cs L a ccd cl outer) (call (.ref f) vs) Q E s :=
  C _ _ _ _ _ _ _ _ _ _ _ _ _ _ _ _ _ B F X N T hk hd hu exc
section
variable {w : World} {A : Around} {E : Value → Shared → Prop} {s : Shared} {env : Env}
def RaiseEnd (w : World) (E : Value → Shared → Prop) (v : Value) (s₁ : Shared) : Prop := ∃ e t dd, v = .ref e ∧ (Mine.hd.heap_39 w.params).In s₁.heap ∧ s₁.heap.get? e = some (exo t dd) ∧ E (.ref e) s₁
theorem raise_x {ex : Expr} {pos : Pos} {Q : Flow → Shared → Prop} (hh : A.handled = none)
    (h : wpAny (model PySem.Challenge.rw_pq0950_01.prog w) A (eval ex env) (RaiseEnd w E) E s) :
    wpAny (model PySem.Challenge.rw_pq0950_01.prog w) A (exec (.Raise (some ex) none pos) env) Q E s := by
  have hcB : (Value.ref 95 :: bm95).contains (.type "BaseException") = true := (wf_has _).trans PySem.F.excBase_Exception.hasBase
  rw [arm_exec_Raise]
  simp only [evalOpt, Option.map]
  refine wpAny_bind (wpAny_standAt ?_)
  unfold raiseStmt
  refine wpAny_bind (wpAny_bind (wpAny_mono h (fun v s₁ h₁ => wpAny_bind (wpAny_standAt (wpAny_pure ?_))) fun _ _ x => x))
  obtain ⟨e, t, dd, rfl, X, he, hE⟩ := h₁
  obtain ⟨hp, g, d, tk, os⟩ := s₁
  obtain ⟨nm, q, bs, hdct, sn, sub, ab, col, dd', k0, k1, k2, k3, k5, hC⟩ := wf_obj X
  repeat (first | with_reducible refine wpAny_loadPart_at he ?_ | with_reducible refine wpAny_loadPart_at hC ?_ | (with_reducible refine wpAny_isSubtype_exc hC ?_; rw [hcB]) | wp_step)
  exact wpAny_raiseNew_none hh hE
end
theorem News.drop2 {h₀ h : Heap} {L : Addr} {a b : Addr × Obj} {rest : List (Addr × Obj)} (N : News h₀ L h (a :: b :: rest)) : News h₀ L h (a :: rest) := fun p hp => by
  rcases List.mem_cons.mp hp with h | h
  · exact N p (h ▸ .head _)
  · exact N p (.tail _ (.tail _ h))
theorem News.drop1 {h₀ h : Heap} {L : Addr} {a : Addr × Obj} {rest : List (Addr × Obj)} (N : News h₀ L h (a :: rest)) : News h₀ L h rest := fun p hp => N p (.tail _ hp)
end
section
section
variable {prog : Program} {w : World} {A : Around} {s : Shared} {env : Env} {K : Frag}
theorem nExecs_cons {st : Stmt} {rest : List Stmt} {Q : Flow → Shared → Prop} (h : wpN (model prog w) A (exec st env) (fun f s' => match f with | .next => wpN (model prog w) A (execs rest env) Q s' | f => Q f s') s) :
    wpN (model prog w) A (execs (st :: rest) env) Q s := by
  rw [execs_cons]
  refine wpN_bind (wpN_mono h fun f s' h' => ?_)
  cases f <;> first | exact h' | exact wpN_pure h'
theorem nExecs_nil {Q : Flow → Shared → Prop} (h : Q .next s) : wpN (model prog w) A (execs [] env) Q s := wpN_of (wpAny_execs_nil h)
theorem nReturn {e : Expr} {pos : Pos} {Q : Flow → Shared → Prop} (h : wpN (model prog w) A (eval e env) (fun v => Q (.ret v)) s) : wpN (model prog w) A (exec (.Return (some e) pos) env) Q s := by
  rw [exec_Return_some]
  exact wpN_bind (wpN_standAt (wpN_bind (wpN_mono h fun v s' h' => wpN_pure h')))
theorem nAssign {x : Str} {pos' pos : Pos} {value : Expr} {Q : Flow → Shared → Prop} (h : wpN (model prog w) A (eval value env) (fun v s₁ => wpAny (model prog w) A (storeName env x v) (fun _ => Q .next) NoE s₁) s)
    (hs : swapsWith value (some (.Name x pos')) pos.line env = pure false := by with_unfolding_all rfl) : wpN (model prog w) A (exec (.Assign [.Name x pos'] value pos) env) Q s := by
  rw [exec_Assign_Name env x pos' value pos hs]
  refine wpN_bind (wpN_standAt (wpN_bind (wpN_mono h fun v s₁ h₁ => wpN_bind (wpN_standAt ?_))))
  exact wpN_of (wpAny_bind (wpAny_bindName (wpAny_mono h₁ (fun _ _ z => wpAny_pure z) fun _ _ z => z)))
theorem nExpr {e : Expr} {pos : Pos} {Q : Flow → Shared → Prop} (h : wpN (model prog w) A (eval e env) (fun _ => Q .next) s)
    (hi : interactive env = false := by rfl) (hs : swapsWith e none pos.line env = pure false := by with_unfolding_all rfl) : wpN (model prog w) A (exec (.Expr e pos) env) Q s := by
  rw [exec_Expr env e pos hi hs]
  exact wpN_bind (wpN_standAt (wpN_bind (wpN_mono h fun v s' h' => wpN_of (wpAny_dropValue h'))))
theorem nIf {test : Expr} {body orelse : List Stmt} {pos : Pos} {Q : Flow → Shared → Prop}
    (h : wpN (model prog w) A (isTrue test env (eval test env)) (fun b s₂ => if b = true then wpN (model prog w) A (execs body env) Q s₂ else wpN (model prog w) A (execs orelse env) Q s₂) s) : wpN (model prog w) A (exec (.If test body orelse pos) env) Q s := by
  rw [exec_If]
  refine wpN_bind (wpN_standAt (wpN_bind (wpN_mono h fun b s₂ h₂ => ?_)))
  cases b <;> exact h₂
theorem nBinOp {l r : Expr} {op : Operator} {pos : Pos} {Q : Value → Shared → Prop}
    (h : wpN (model prog w) A (eval l env) (fun a s₁ => wpN (model prog w) A (eval r env) (fun b s₂ => wpN (model prog w) A (binaryOp op a b) Q s₂) s₁) s) : wpN (model prog w) A (eval (.BinOp l op r pos) env) Q s := by
  rw [eval_BinOp]
  exact wpN_bind (wpN_mono h fun a s₁ h₁ => wpN_bind (wpN_holding (wpN_mono h₁ fun b s₂ h₂ => wpN_bind (wpN_standAt (wpN_operate h₂)))))
theorem nCompare {l r : Expr} {op : CmpOp} {pos : Pos} {Q : Value → Shared → Prop}
    (h : wpN (model prog w) A (eval l env) (fun a s₁ => wpN (model prog w) A (eval r env) (fun b s₂ => wpN (model prog w) A (compareOp op a b) Q s₂) s₁) s) (hm : behindInMarks op r = false := by with_unfolding_all rfl) :
    wpN (model prog w) A (eval (.Compare l [op] [r] pos) env) Q s := by
  rw [eval_Compare1, markedBehindIn_of_false hm]
  exact wpN_bind (wpN_mono h fun a s₁ h₁ => wpN_bind (wpN_holding (wpN_mono h₁ fun b s₂ h₂ => wpN_bind (wpN_standAt (wpN_operate h₂)))))
theorem nTrueCompare {l r : Expr} {op : CmpOp} {pos : Pos} {whole : Sem Value} {Q : Bool → Shared → Prop}
    (h : wpN (model prog w) A (eval l env) (fun a s₁ => wpN (model prog w) A (eval r env) (fun b s₂ => wpN (model prog w) A (compareOp op a b) (fun c s₃ => wpN (model prog w) A (truthy c) Q s₃) s₂) s₁) s) (hm : behindInMarks op r = false := by with_unfolding_all rfl) :
    wpN (model prog w) A (isTrue (.Compare l [op] [r] pos) env whole) Q s := by
  rw [isTrue_Compare1, markedBehindIn_of_false hm]
  exact wpN_bind (wpN_mono h fun a s₁ h₁ => wpN_bind (wpN_holding (wpN_mono h₁ fun b s₂ h₂ => wpN_bind (wpN_standAt (wpN_bind (wpN_operate (wpN_mono h₂ fun c s₃ h₃ => wpN_holding h₃)))))))
theorem nTrueValue {e : Expr} {whole : Sem Value} {Q : Bool → Shared → Prop} (h : wpN (model prog w) A whole (fun v s₁ => wpN (model prog w) A (truthy v) Q s₁) s)
    (he : isTrue e env whole = (do let v ← whole; standAt e.pos; holding [v] (truthy v)) := by rfl) : wpN (model prog w) A (isTrue e env whole) Q s := by
  rw [he]
  exact wpN_bind (wpN_mono h fun v s₁ h₁ => wpN_bind (wpN_standAt (wpN_holding h₁)))
theorem nTrueNot {x : Expr} {pos : Pos} {whole : Sem Value} {Q : Bool → Shared → Prop} (h : wpN (model prog w) A (isTrue x env (eval x env)) (fun b s₁ => Q (!b) s₁) s) : wpN (model prog w) A (isTrue (.UnaryOp .Not x pos) env whole) Q s := by
  rw [arm_isTrue_UnaryOp]
  exact wpN_bind (wpN_mono h fun b s₁ h₁ => wpN_pure h₁)
theorem nTrueOr {x y : Expr} {pos : Pos} {whole : Sem Value} {Q : Bool → Shared → Prop}
    (h : wpN (model prog w) A (isTrue x env (eval x env)) (fun b s₁ => if b = true then Q true s₁ else wpN (model prog w) A (isTrue y env (eval y env)) Q s₁) s) : wpN (model prog w) A (isTrue (.BoolOp .Or [x, y] pos) env whole) Q s := by
  rw [arm_isTrue_BoolOp]
  show wpN _ A (do match BoolOp.Or, ← isTrue x env (eval x env) with | .And, false => pure false | .Or, true => pure true | _, _ => allTrue .Or [y] env) Q s
  refine wpN_bind (wpN_mono h fun b s₁ h₁ => ?_)
  cases b
  · show wpN _ A (do match BoolOp.Or, ← isTrue y env (eval y env) with | .And, false => pure false | .Or, true => pure true | _, _ => allTrue .Or [] env) Q s₁
    refine wpN_bind (wpN_mono h₁ fun b s₂ h₂ => ?_)
    cases b <;> exact wpN_pure h₂
  · exact wpN_pure h₁
theorem nTrueOr3 {x y z : Expr} {pos : Pos} {whole : Sem Value} {Q : Bool → Shared → Prop}
    (h : wpN (model prog w) A (isTrue x env (eval x env)) (fun b s₁ => if b = true then Q true s₁ else wpN (model prog w) A (isTrue y env (eval y env)) (fun b s₂ => if b = true then Q true s₂ else wpN (model prog w) A (isTrue z env (eval z env)) Q s₂) s₁) s) : wpN (model prog w) A (isTrue (.BoolOp .Or [x, y, z] pos) env whole) Q s := by
  rw [arm_isTrue_BoolOp]
  show wpN _ A (do match BoolOp.Or, ← isTrue x env (eval x env) with | .And, false => pure false | .Or, true => pure true | _, _ => allTrue .Or [y, z] env) Q s
  refine wpN_bind (wpN_mono h fun b s₁ h₁ => ?_)
  cases b
  · show wpN _ A (do match BoolOp.Or, ← isTrue y env (eval y env) with | .And, false => pure false | .Or, true => pure true | _, _ => allTrue .Or [z] env) Q s₁
    refine wpN_bind (wpN_mono h₁ fun b s₂ h₂ => ?_)
    cases b
    · show wpN _ A (do match BoolOp.Or, ← isTrue z env (eval z env) with | .And, false => pure false | .Or, true => pure true | _, _ => allTrue .Or [] env) Q s₂
      refine wpN_bind (wpN_mono h₂ fun b s₃ h₃ => ?_)
      cases b <;> exact wpN_pure h₃
    · exact wpN_pure h₂
  · exact wpN_pure h₁
theorem nAnd {x y : Expr} {pos : Pos} {Q : Value → Shared → Prop}
    (h : wpN (model prog w) A (eval x env) (fun v s₁ => wpN (model prog w) A (truthy v) (fun b s₂ => if b = true then wpN (model prog w) A (eval y env) Q s₂ else Q v s₂) s₁) s) : wpN (model prog w) A (eval (.BoolOp .And [x, y] pos) env) Q s := by
  rw [arm_eval_BoolOp]
  show wpN _ A (do let v ← eval x env; standAt pos; let t ← holding [v] (truthy v); match BoolOp.And, t with | .And, false | .Or, true => pure v | _, _ => eval y env) Q s
  refine wpN_bind (wpN_mono h fun v s₁ h₁ => wpN_bind (wpN_standAt (wpN_bind (wpN_holding (wpN_mono h₁ fun b s₂ h₂ => ?_)))))
  cases b
  · exact wpN_pure h₂
  · exact h₂
theorem nIfExp {test body orelse : Expr} {pos : Pos} {Q : Value → Shared → Prop}
    (h : wpN (model prog w) A (isTrue test env (eval test env)) (fun b s₁ => if b = true then wpN (model prog w) A (eval body env) Q s₁ else wpN (model prog w) A (eval orelse env) Q s₁) s) : wpN (model prog w) A (eval (.IfExp test body orelse pos) env) Q s := by
  rw [arm_eval_IfExp]
  refine wpN_bind (wpN_mono h fun b s₁ h₁ => ?_)
  cases b <;> exact h₁
theorem nSpliced_nil {Q : List Value → Shared → Prop} (h : Q [] s) : wpN (model prog w) A (spliced []) Q s := wpN_pure h
theorem nSpliced_cons {x : Sem Value} {rest : List (Bool × Sem Value)} {Q : List Value → Shared → Prop}
    (h : wpN (model prog w) A x (fun v s₁ => wpN (model prog w) A (spliced rest) (fun vs s₂ => Q (v :: vs) s₂) s₁) s) : wpN (model prog w) A (spliced ((false, x) :: rest)) Q s := by
  rw [spliced]
  refine wpN_bind (wpN_mono h fun v s₁ h₁ => ?_)
  refine wpN_bind (wpN_pure (wpN_bind (wpN_holding (wpN_mono h₁ fun vs s₂ h₂ => wpN_pure h₂))))
theorem nTuple {elts : List Expr} {k : Nat} {pos : Pos} {Q : Value → Shared → Prop}
    (h : wpN (model prog w) A (spliced (backTo pos (starEach elts env))) (fun vs s₁ => vs.length ≤ sizeLine ∧ Q (.ref s₁.heap.objs.size) { s₁ with heap := s₁.heap.push { cls := .type "tuple", data := .seq vs.toArray } }) s) : wpN (model prog w) A (eval (.Tuple elts k pos) env) Q s := by
  rw [arm_eval_Tuple]
  exact wpN_bind (wpN_standAt (wpN_bind (wpN_mono h fun vs s₁ h₁ => wpN_of (wpAny_newObj_type h₁.2 (by show vs.toArray.size ≤ sizeLine; rw [List.size_toArray]; exact h₁.1)))))
theorem nCallName {x : Str} {np pos : Pos} {args : List Expr} {keywords : List Keyword} {Q : Value → Shared → Prop}
    (h : wpN (model prog w) A (eval (.Name x np) env) (fun f s₁ => wpN (model prog w) A (callWith pos f [] (backTo pos (starEach args env)) (backToKw pos (keywordEach keywords env))) Q s₁) s) : wpN (model prog w) A (eval (.Call (.Name x np) args keywords pos) env) Q s := by
  show wpN _ A (do callWith pos (← eval (.Name x np) env) [] (backTo pos (starEach args env)) (backToKw pos (keywordEach keywords env))) Q s
  exact wpN_bind h
theorem nMethod {o : Expr} {name : Str} {apos pos : Pos} {args : List Expr} {pl : Sem Bool} {Q : Value → Shared → Prop}
    (h : wpN (model prog w) A (eval o env) (fun ov s₁ => wpN (model prog w) A (getMethod ov name pl) (fun fx s₂ => wpN (model prog w) A (callWith pos fx.1 fx.2 (backTo pos (starEach args env)) []) Q s₂) s₁) s)
    (he : eval (.Call (.Attribute o name apos) args [] pos) env = (do
      let ov ← eval o env
      standAt apos.atName
      let (f, first) ← holding [ov] (getMethod ov name pl)
      callWith pos f first (backTo pos (starEach args env)) []) := by rfl) : wpN (model prog w) A (eval (.Call (.Attribute o name apos) args [] pos) env) Q s := by
  rw [he]
  refine wpN_bind (wpN_mono h fun ov s₁ h₁ => wpN_bind (wpN_standAt (wpN_bind (wpN_holding (wpN_mono h₁ fun fx s₂ h₂ => ?_)))))
  exact h₂
theorem wpN_keep {t : Sem Value} {l : List Value} {Q : Value → Shared → Prop} (h : wpN (model prog w) A t Q s) : wpN (model prog w) A (t.keep l) Q s := fun Γ p hΓ g => by rw [Sem.wp_keep]; exact h Γ p hΓ g
theorem nCallWith_of {P : Heap → Prop} {f : Value} {first : List Value} {pos : Pos} {args : List (Bool × Sem Value)} {Q : Value → Shared → Prop} (hplain : args.any (·.1) = false)
    (hk : ∀ h, P h → ∃ k, (k = Keeper.frame ∨ k = Keeper.machine ∨ k = Keeper.boundFrame) ∧ Looks (model prog w) h (keeperOf f) k)
    (h : wpN (model prog w) A (evalArgs f true args []) (fun a s₁ => P s₁.heap ∧ wpN (model prog w) A (call f (first ++ a.pos) a.kw) Q s₁) s) : wpN (model prog w) A (callWith pos f first args []) Q s := by
  unfold callWith
  refine wpN_bind (wpN_holding (wpN_mono h fun a s₁ h₁ => wpN_bind (wpN_standAt ?_)))
  obtain ⟨k, hk', L⟩ := hk _ h₁.1
  simp only [hplain, List.any_nil, Bool.or_false]
  have tail : ∀ {t : Sem Value}, wpN (model prog w) A t Q s₁ → wpN (model prog w) A (t >>= fun r => holding [r] point >>= fun _ => pure r) Q s₁ :=
    fun ht => wpN_bind (wpN_mono ht fun r s₂ hr => wpN_bind (wpN_holding (wpN_point (wpN_pure hr))))
  have marked (mk : Value) : wpN (model prog w) A (callMarked mk f (first ++ a.pos) a.kw) Q s₁ := by unfold callMarked; exact wpN_keep h₁.2
  refine wpN_bind (wpN_of (L.here ?_))
  rcases hk' with rfl | rfl | rfl <;> dsimp only <;> first | exact tail h₁.2 | (split <;> first | exact tail h₁.2 | exact tail (marked _))
theorem nEvalArgs {f : Value} {x : Sem Value} {rest : List (Bool × Sem Value)} {Q : Args → Shared → Prop}
    (h : wpN (model prog w) A (spliced ((false, x) :: rest)) (fun vs s' => Q ⟨vs, []⟩ s') s) : wpN (model prog w) A (evalArgs f true ((false, x) :: rest) []) Q s := by
  unfold evalArgs
  show wpN _ A (spliced ((false, x) :: rest) >>= _) Q s
  refine wpN_bind (wpN_mono h fun vs s' h' => ?_)
  refine wpN_holding ?_
  exact wpN_bind (wpN_pure (wpN_bind (wpN_pure (wpN_pure h'))))
theorem nEvalArgs0 {f : Value} {Q : Args → Shared → Prop} (h : Q ⟨[], []⟩ s) : wpN (model prog w) A (evalArgs f true [] []) Q s := wpN_of (evalArgs_nil3 h)
theorem nCallWith {h₀ : Heap} {f : Value} {first : List Value} {pos : Pos} {e : Expr} {rest : List Expr} {Q : Value → Shared → Prop} (_X : K.In h₀) (hk : keepIn K f = true)
    (h : wpN (model prog w) A (spliced (backTo pos (starEach (e :: rest) env))) (fun vs s₁ => K.In s₁.heap ∧ wpN (model prog w) A (call f (first ++ vs)) Q s₁) s)
    (he : starEach (e :: rest) env = (false, eval e env) :: starEach rest env := by rfl) (hplain : (backTo pos (starEach rest env)).any (·.1) = false := by rfl) :
    wpN (model prog w) A (callWith pos f first (backTo pos (starEach (e :: rest) env)) []) Q s := by
  rw [he] at h ⊢
  exact nCallWith_of (by show (false || (backTo pos (starEach rest env)).any (·.1)) = false; rw [hplain]; rfl) (keeps_K hk) (nEvalArgs h)
theorem nCallWith0 {f : Value} {first : List Value} {pos : Pos} {Q : Value → Shared → Prop} (X : K.In s.heap) (hk : keepIn K f = true) (h : wpN (model prog w) A (call f (first ++ [])) Q s) : wpN (model prog w) A (callWith pos f first (backTo pos (starEach [] env)) []) Q s :=
  nCallWith_of rfl (keeps_K hk) (nEvalArgs0 ⟨X, h⟩)
theorem nCallWithM0 {q g : Addr} {self : Value} {first : List Value} {pos : Pos} {Q : Value → Shared → Prop} (X : MethP K q g self s.heap) (hf : fnIn K g = true) (h : wpN (model prog w) A (call (.ref q) (first ++ [])) Q s) : wpN (model prog w) A (callWith pos (.ref q) first (backTo pos (starEach [] env)) []) Q s :=
  nCallWith_of rfl (keeps_M hf) (nEvalArgs0 ⟨X, h⟩)
theorem nTry {body orelse : List Stmt} {hs : List ExceptHandler} {pos : Pos} {Q : Flow → Shared → Prop}
    (h : wpN (model prog w) A (execs body env) (fun f s₁ => match f with | .next => wpN (model prog w) A (execs orelse env) Q s₁ | f => Q f s₁) s) : wpN (model prog w) A (exec (.Try body hs orelse [] pos) env) Q s := by
  rw [arm_exec_Try]
  refine wpN_bind (wpN_standAt ?_)
  unfold tryStmt
  simp only [List.isEmpty_nil, if_true]
  refine wpN_bind (wpN_attempt (wpN_mono h fun f s₁ h₁ => ?_))
  cases f
  · exact h₁
  all_goals exact wpN_pure h₁
theorem codeN_func {body : List Stmt} {R : Flow → Shared → Prop} (h : wpN (model prog w) (A.deeper env) (execs body env) (fun f s' => R (.ret (match f with | .ret v => v | _ => .none)) s') s) : codeN (model prog w) A (.func body env) R s := by
  refine codeN_of_tree ?_
  show wpN _ (A.deeper env) (do point; match ← (execs body env).onRaise (leaving env) with | .ret v => ret v | _ => ret .none) _ s
  refine wpN_bind (wpN_point (wpN_bind (wpN_onRaise (wpN_mono h fun f s' h' => ?_))))
  cases f <;> exact wpN_pure h'
end
end
section
def WEnd (I : Nat → Shared → Prop) (n : Nat) (s₃ : Shared) : Prop := ∃ m, m < n ∧ I m s₃
section
variable {prog : Program} {w : World} {A : Around} {s : Shared} {env : Env}
theorem codeN_while {test : Expr} {body : List Stmt} {R : Flow → Shared → Prop} (I : Nat → Shared → Prop)
    (turn : ∀ n s, I n s → wpN (model prog w) A (isTrue test env (eval test env)) (fun b s₂ =>
        if b = true then wpN (model prog w) A (execs body env) (fun f s₃ => match f with | .next | .cont => ∃ m, m < n ∧ I m s₃ | .brk => R .next s₃ | .ret v => R (.ret v) s₃) s₂ else R .next s₂) s)
    (n : Nat) (h : I n s) : codeN (model prog w) A (.whileLoop test body [] env) R s := by
  refine codeN_loop rfl rfl I (fun n s hI => ?_) n h
  show wpN _ A ((whileTurn test body [] env).onRaise (fun x => do noteFrame x env; theTreesLotGoes x)) _ s
  refine wpN_onRaise ?_
  simp only [whileTurn]
  refine wpN_bind (wpN_mono (turn n s hI) fun b s₂ h₂ => ?_)
  cases b with
  | false =>
    simp only [Bool.false_eq_true, if_false] at h₂ ⊢
    exact wpN_bind (wpN_of (wpAny_execs_nil (by exact (wpN_pure h₂ : wpN (model prog w) A (pure (Fin.done Flow.next)) (fun fin s' => match fin with | .done f => R f s' | .again c' => c' = _ ∧ ∃ m, m < n ∧ I m s') s₂))))
  | true =>
    simp only [if_true] at h₂ ⊢
    refine wpN_bind (wpN_mono h₂ fun f s₃ h₃ => ?_)
    cases f with
    | next => exact wpN_pure ⟨rfl, h₃⟩
    | cont => exact wpN_pure ⟨rfl, h₃⟩
    | brk => exact wpN_pure h₃
    | ret v => exact wpN_pure h₃
theorem wpN_runOwn {c : Code} {Q : Flow → Shared → Prop} (hc : codeN (model prog w) A c Q s) (hd : dec c = false) : wpN (model prog w) A (runOwn c env) Q s := wpN_onRaise (wpN_run hc hd)
theorem nWhile {test : Expr} {body : List Stmt} {pos : Pos} {Q : Flow → Shared → Prop} (I : Nat → Shared → Prop)
    (n : Nat) (h : I n s) (turn : ∀ n s, I n s → wpN (model prog w) A (isTrue test env (eval test env)) (fun b s₂ =>
        if b = true then wpN (model prog w) A (execs body env) (fun f s₃ => match f with | .next | .cont => WEnd I n s₃ | .brk => Q .next s₃ | .ret v => Q (.ret v) s₃) s₂ else Q .next s₂) s) :
    wpN (model prog w) A (exec (.While test body [] pos) env) Q s := by
  rw [exec_While]
  exact wpN_bind (wpN_standAt (wpN_runOwn (codeN_while I turn n h) rfl))
theorem codeN_for {target : Expr} {it : Value} {body : List Stmt} {R : Flow → Shared → Prop} (I : Nat → Shared → Prop)
    (turn : ∀ n s, I n s → wpN (model prog w) A (pyNext it) (fun r s₁ => match r with
      | none => R .next s₁
      | some v => wpN (model prog w) A (assign target env v) (fun _ s₂ => wpN (model prog w) A (execs body env) (fun f s₃ => match f with | .next | .cont => ∃ m, m < n ∧ I m s₃ | .brk => R .next s₃ | .ret v => R (.ret v) s₃) s₂) s₁) s)
    (n : Nat) (h : I n s) (ht : ∀ v, letOwnedTupleGo target it v = pure () := by intro _; rfl) : codeN (model prog w) A (.forLoop target it body [] env) R s := by
  induction n using Nat.strongRecOn generalizing s with
  | ind n ih =>
    refine codeN_of_tree ?_
    show wpN _ _ ((forTurn target it body [] env).onRaise (fun x => do noteFrame x env; theTreesLotGoes x)) _ _
    refine wpN_onRaise ?_
    simp only [forTurn]
    refine wpN_bind (wpN_standAt (wpN_bind (wpN_onRaise (wpN_mono (turn n s h) fun r s₁ h₁ => ?_))))
    cases r with
    | none => exact wpN_pure ⟨rfl, rfl, codeN_of (codeAny_block (wpAny_execs_nil h₁))⟩
    | some v =>
      refine wpN_bind (wpN_of (wpAny_of_eq (ht v) ?_))
      refine wpN_bind (wpN_mono h₁ fun _ s₂ h₂ => wpN_bind (wpN_mono h₂ fun f s₃ h₃ => ?_))
      cases f with
      | next => obtain ⟨m, hm, hI⟩ := h₃; exact wpN_pure ⟨rfl, rfl, ih m hm hI⟩
      | cont => obtain ⟨m, hm, hI⟩ := h₃; exact wpN_pure ⟨rfl, rfl, ih m hm hI⟩
      | brk => exact wpN_pure h₃
      | ret v => exact wpN_pure h₃
theorem nFor {target iter : Expr} {body : List Stmt} {pos : Pos} {Q : Flow → Shared → Prop}
    (h : wpN (model prog w) A (eval iter env) (fun xv s₁ => wpAny (model prog w) A (pyIter xv) (fun it s₂ => codeN (model prog w) A (.forLoop target it body [] env) Q s₂) NoE s₁) s)
    (hs : ∀ x, foldedSetIterable iter env x = pure x := by intro _; rfl) : wpN (model prog w) A (exec (.For target iter body [] pos) env) Q s := by
  rw [arm_exec_For]
  refine wpN_bind (wpN_standAt (wpN_bind (wpN_mono h fun xv s₁ h₁ => ?_)))
  rw [hs]
  refine wpN_bind (wpN_pure (wpN_bind (wpN_standAt (wpN_bind (wpN_holding (wpN_mono (wpN_of h₁) fun it s₂ h₂ => wpN_runOwn h₂ rfl))))))
end
section
variable {prog : Program} {w : World} {A A₀ : Around} {s : Shared} {base h₀ : Heap} {outer : List Env} {L : Addr} {m : Str → Option Value} {news : List (Addr × Obj)} {K : Frag} {p : Program} {loose : List Str} {mean : ExcName → Option Value} {mg mb : Str → Option Value}
def LeaveN (h₀ : Heap) (L : Addr) (m : Str → Option Value) (g : Heap) (R : Flow → Shared → Prop) (v : Value) (s' : Shared) : Prop :=
  ∃ L' m' news', Fr g L' s'.heap m' ∧ News g L' s'.heap news' ∧ (Fr h₀ L s'.heap m → News h₀ L s'.heap news' → R (.ret v) s')
theorem code_defN {env : Env} {R : Flow → Shared → Prop} {name qual : Str} {params : Arguments} {body : List Stmt} {scope : Scope} {dV kV doc pm cdv ct oc : Value} {an od : Option Addr} {osl : Array (Option Value)} {f : Addr} {args : Args} {binds : List (Str × Value)}
    (B : Below A₀ base outer h₀) (F : Fr h₀ L s.heap m) (X₀ : K.In h₀) (N : News h₀ L s.heap news) (T : Top p loose mean mg mb h₀) (hA : A.frames = some (env :: outer)) (hf : env.frame = some L) (hke : env.scope.kind = .function)
    (ho : K.lookup f = some ⟨oc, od, .func (fnOf name qual params body scope dV kV doc pm an cdv ct), osl⟩) (hcd : codeIn K cdv qual = true) (hroom : A.depth < recursionLimit)
    (hbind : BindsTo s (fnOf name qual params body scope dV kV doc pm an cdv ct) args binds) (hloc : ∀ y ∈ binds, scope.names.lookup y.1 = some .local)
    (h : ∀ g L' h₁, Fr h₀ L g m → Fr g L' h₁ (fun y => binds.reverse.lookup y) → News g L' h₁ news → Below A base (env :: outer) g → K.In g → Top p loose mean mg mb g →
      wpN (model prog w) (A.deeper (envOf qual scope L' f cdv)) (execs body (envOf qual scope L' f cdv))
        (fun fl s' => LeaveN h₀ L m g R (match fl with | .ret v => v | _ => .none) s') { s with heap := h₁, toks := s.toks + binds.length })
    (hco : scope.isCoroutine = false) (hgen : scope.isGenerator = false) (hk : scope.kind = .function)
    (hcell : ∀ x ∈ scope.names, x.2 ≠ .cell) : codeN (model prog w) A (.call (.ref f) args) R s := by
  have X := X₀.keeps F.keep
  obtain ⟨FG, BG, st, lv⟩ := groundX (R := OkR R) B F N hA hf hke
  have hcr := codeRec_of X hcd
  have ho' := X _ _ ho
  refine codeN_of_tree ?_
  show wpN _ A.in1 (callAny (.ref f) args) _ s
  simp only [callAny]
  refine wpN_bind (wpN_of (wpAny_load ho' ?_))
  obtain ⟨c, oC, vs, tq, hc, hoc, hdc, hq⟩ := hcr
  simp only [callFunction, hco, hgen, hc]
  subst hc
  refine wpN_bind (m := field (.ref c) 1) (wpN_of (wpAny_field hoc hdc hq ?_))
  refine wpN_bind (wpN_pure ?_)
  refine wpN_bind (wpN_of (hbind _ _ _ _ ?_))
  refine wpN_bind (wpN_of (wpAny_newFunctionEnv hcell hloc (fun h₁ hns hsb => ?_) hk))
  have hk₁ : ∀ b o, s.heap.get? b = some o → h₁.get? b = some o := fun b o e => hsb.extBut b o (Nat.ne_of_lt (Heap.lt_size e)) (Heap.get?_push_of_some _ e)
  have hlim : h₁.NoLimit := (T.nolimit.keeps F.keep).fresh _ hsb
  refine wpN_bind (wpN_of (wpAny_enterFrame hlim hroom ?_))
  refine wpN_pure ⟨rfl, rfl, codeN_func (wpN_mono (h _ s.heap.objs.size h₁ FG ⟨hns, fun b o e => hk₁ b o (of_hideAll _ e), Nat.le_of_eq (hideAll_size _ _)⟩
    (fun p hp => ⟨hk₁ _ _ (N p hp).1, Nat.ne_of_lt (Heap.lt_size (N p hp).1), hideAll_none _ (List.mem_map_of_mem hp)⟩) BG (X₀.keeps st) (T.keeps st)) fun fl s' hl => ?_)⟩
  obtain ⟨L', m', news', F', N', k⟩ := hl
  exact lv _ _ ⟨L', m', news', F', N', k⟩
end
end
section
theorem ba_mro : mroOf (.type "bytearray") = pure [.type "bytearray", .type "object"] := by rw [mroOf_type]; kernel_rfl
theorem ba_lookup_new : typeLookup (.type "bytearray") "__new__" = pure (some (.builtin "bytearray.__new__")) := by rw [typeLookup_type, builtinLookup_eq_fast]; kernel_rfl
theorem ba_slot_init : Slot "bytearray" "__init__" "bytearray.__init__" := .of (owner := "bytearray") (n := "__init__") (by rw [typeLookup_type, builtinLookup_eq_fast]; kernel_rfl) (by decide +kernel) (by decide +kernel) (by decide +kernel)
    (by first | exact .inl (by decide +kernel) | exact .inr (by decide +kernel)) (by rw [isSubtype_type]; kernel_rfl)
theorem ba_called : TypeCalled "bytearray" "bytearray.__new__" "bytearray.__init__" :=
  ⟨by decide +kernel, by decide +kernel, ⟨_, _, ba_mro⟩, madeBy_type ba_mro ba_lookup_new (by decide +kernel), by decide +kernel, by rw [isSubtype_type]; kernel_rfl, ba_slot_init⟩
theorem ba_typeCall0 : checkTypeCall "bytearray" ⟨[], []⟩ = pure () := by kernel_rfl
theorem ba_typeCall1 (a : Value) : checkTypeCall "bytearray" ⟨[a], []⟩ = pure () := by kernel_rfl
theorem ba_newCall0 : checkBuiltinCall "bytearray.__new__" ⟨[.type "bytearray"], []⟩ = pure () := by kernel_rfl
theorem ba_newCall1 (a : Value) : checkBuiltinCall "bytearray.__new__" ⟨[.type "bytearray", a], []⟩ = pure () := by kernel_rfl
theorem ba_entry_new : entryFor table "bytearray.__new__" = some Builtin.«list.__new__» := entryFor_alias (id' := "list.__new__") (by rw [fastTable_eq_tree]; kernel_rfl) (by first | rfl | decide +kernel) (by decide +kernel) (by rw [fastTable_eq_tree]; kernel_rfl)
theorem ba_entry_init : entryFor table "bytearray.__init__" = some Builtin.«bytearray.__init__» := entryFor_of_tree (by kernel_rfl)
theorem ba_entry_append : entryFor table "bytearray.append" = some Builtin.«bytearray.append» := entryFor_of_tree (by kernel_rfl)
theorem ba_plain_new : plainId "bytearray.__new__" = true := by decide +kernel
theorem ba_initArgs0 (o : Value) : argsOk "bytearray.__init__" ⟨[o], []⟩ := by unfold argsOk; kernel_rfl
theorem ba_initArgs1 (o a : Value) : argsOk "bytearray.__init__" ⟨[o, a], []⟩ := by unfold argsOk; kernel_rfl
theorem ba_appendArgs (o a : Value) : argsOk "bytearray.append" ⟨[o, a], []⟩ := by unfold argsOk; kernel_rfl
theorem ba_slot_append : Slot "bytearray" "append" "bytearray.append" := .of (owner := "bytearray") (n := "append") (by rw [typeLookup_type, builtinLookup_eq_fast]; kernel_rfl) (by decide +kernel) (by decide +kernel) (by decide +kernel)
    (by first | exact .inl (by decide +kernel) | exact .inr (by decide +kernel)) (by rw [isSubtype_type]; kernel_rfl)
theorem ba_type_append : typeOf (.builtin "bytearray.append") = pure (.type "method_descriptor") := by show builtinType _ = _; rw [builtinType_eq_fast]; kernel_rfl
theorem ba_attrs : PlainAttrs "bytearray" := ⟨⟨"bytearray.__getattribute__", by rw [typeLookup_type, builtinLookup_eq_fast]; kernel_rfl, by decide +kernel⟩, by rw [typeLookup_type, builtinLookup_eq_fast]; kernel_rfl⟩
theorem ba_release : typeLookup (.type "bytearray") "__release_buffer__" = pure (some (.builtin "bytearray.__release_buffer__")) := by rw [typeLookup_type, builtinLookup_eq_fast]; kernel_rfl
theorem ba_buffer : typeLookup (.type "bytearray") "__buffer__" = pure (some (.builtin "bytearray.__buffer__")) := by rw [typeLookup_type, builtinLookup_eq_fast]; kernel_rfl
theorem ba_self : isSubtype (.type "bytearray") (.type "bytearray") = pure true := by rw [isSubtype_type]; kernel_rfl
theorem ba_no_bytes : typeLookup (.type "bytearray") "__bytes__" = pure none := by rw [typeLookup_type, builtinLookup_eq_fast]; kernel_rfl
theorem ba_no_index : typeLookup (.type "bytearray") "__index__" = pure none := by rw [typeLookup_type, builtinLookup_eq_fast]; kernel_rfl
theorem ba_bind0 : Builtin.Bytes.bindOptional "bytearray.__init__" "bytearray" ["source", "encoding", "errors"] [] [] = pure [none, none, none] := by kernel_rfl
theorem ba_bind1 (v : Value) : Builtin.Bytes.bindOptional "bytearray.__init__" "bytearray" ["source", "encoding", "errors"] [v] [] = pure [some v, none, none] := by kernel_rfl
set_option maxRecDepth 1000000 in
theorem ba_owner : ("bytearray.__new__".splitOn ".__new__").headD "" = "bytearray" := by simp +decide [String.splitOn, String.splitOnAux]
theorem bytes_no_index : typeLookup (.type "bytes") "__index__" = pure none := by rw [typeLookup_type, builtinLookup_eq_fast]; kernel_rfl
abbrev bao (b : List UInt8) : Obj := { cls := .type "bytearray", data := .bytearray b.toArray }
section
variable {prog : Program} {w : World} {A : Around} {E : Value → Shared → Prop} {s : Shared}
theorem codeN_builtin {id : String} {args : Args} {b : Builtin} {R : Flow → Shared → Prop} (hb : entryFor table id = some b)
    (h : wpN (model prog w) (A.under (.builtin id args)) (b args) (fun fin s' => match fin with | .done f => R f s' | .again c' => c'.quiet = true ∧ dec c' = false ∧ codeN (model prog w) A c' R s') s) : codeN (model prog w) A (.builtin id args) R s := by
  refine codeN_of_tree ?_
  show wpN _ _ (match entryFor table id with | some b => b args | none => unsupported ((withoutEnding? id "#data").getD id)) _ s
  rw [hb]; exact h
theorem codeN_call_builtin {id : String} {args : Args} {b : Builtin} {R : Flow → Shared → Prop} (hq : plainId id = true) (hd : dec (.builtin id args) = false) (hb : entryFor table id = some b)
    (h : wpAny (model prog w) A.in1 (checkBuiltinCall id args) (fun _ s₁ => wpN (model prog w) A.in1 (b args) (fun fin s' => match fin with | .done f => R f s' | .again c' => c'.quiet = true ∧ dec c' = false ∧ codeN (model prog w) A c' R s') s₁) NoE s) :
    codeN (model prog w) A (.call (.builtin id) args) R s := by
  refine codeN_of_tree ?_
  show wpN _ A.in1 (do checkBuiltinCall id args; again (.builtin id args)) _ s
  refine wpN_bind (wpN_mono (wpN_of h) fun _ s₁ h₁ => wpN_pure ⟨plainId_quiet hq args, hd, codeN_builtin hb ?_⟩)
  rw [Around.under_plainId hq args]
  exact h₁
theorem ba_ownRelease {S : Addr} {b : List UInt8} {Q : Bool → Shared → Prop} (hS : s.heap.get? S = some (bao b)) (h : Q false s) : wpAny (model prog w) A (Builtin.Bytes.ownRelease (.ref S)) Q E s := by
  have hT : s.TypeIs (.ref S) "bytearray" := ⟨_, hS, rfl⟩
  unfold Builtin.Bytes.ownRelease Builtin.Bytes.slotIsOwn
  refine wpAny_bind (wpAny_bind (wpAny_specialOf hT ba_release ?_))
  dsimp only
  rw [if_neg (by decide +kernel)]
  refine wpAny_isInstance hT (b := true) (by rw [show ("bytearray.__release_buffer__".dropRight ("__release_buffer__".length + 1)) = "bytearray" from by decide +kernel]; exact ba_self) ?_
  exact wpAny_pure h
theorem ba_exported {S : Addr} {g : List Code} {Q : Bool → Shared → Prop} (hg : A.guards = some g) (hno : ∀ c ∈ g, False) (h : Q false s) : wpN (model prog w) A (Builtin.Bytes.exported (.ref S)) Q s := by
  unfold Builtin.Bytes.exported
  refine wpN_stackAny_false hg (fun c p hc hd => ?_) (fun c hc => (hno c hc).elim) h
  cases c with
  | builtin id args =>
    have hid : ∀ i ∈ guardIds, id ≠ i := fun i hi e => by
      subst e
      have : (Code.builtin id args).isGuard = true := List.contains_iff_mem.mpr hi
      rw [this] at hc; cases hc
    have n1 := hid "bytearray.__contains__" (by decide)
    have n2 := hid "bytearray.__mod__" (by decide)
    have n3 := hid "bytearray.__rmod__" (by decide)
    have n4 := hid "_struct.pack_into.held" (by decide)
    have n5 := hid "bytearray.find.held" (by decide)
    have hd' : Builtin.Bytes.decodersThatHold.contains id = false := hd
    split <;> simp_all
  | _ => rfl
end
section
variable {prog : Program} {w : World} {A : Around} {E : Value → Shared → Prop} {s : Shared} {h₀ : Heap} {L : Addr} {m : Str → Option Value} {rest : List (Addr × Obj)}
theorem ba_write {S : Addr} {b b' : List UInt8} {f : Array UInt8 → Array UInt8} {Q : Unit → Shared → Prop} (F : Fr h₀ L s.heap m) (N : News h₀ L s.heap ((S, bao b) :: rest)) (hne : ∀ p ∈ rest, p.1 ≠ S) (hf : f b.toArray = b'.toArray) (hz : b'.length ≤ 16777216)
    (h : ∀ h', Fr h₀ L h' m → News h₀ L h' ((S, bao b') :: rest) → Q () { s with heap := h' }) : wpAny (model prog w) A (Builtin.Bytes.write (.ref S) f) Q E s := by
  have hS := (N _ (.head _)).1
  have e : Obj.mapBytearray f (bao b) = bao b' := by
    show ({ cls := _, data := .bytearray (f b.toArray) } : Obj) = _
    rw [hf]
  obtain ⟨F', N'⟩ := news_upd (pre := []) (post := rest) (f := Obj.mapBytearray f) F N (by simp) hne e rfl
  show wpAny _ _ (updateBytearray S f) _ _ _
  unfold updateBytearray
  refine wpAny_bind (wpAny_load hS ?_)
  show wpAny _ _ (update S (Obj.mapBytearray f) >>= fun _ => lookBehind S) _ _ _
  refine wpAny_bind (wpAny_update hS ?_)
  refine wpAny_lookBehind (N' _ (.head _)).1 ?_ (h _ F' N')
  show (if b'.toArray.size > sizeLine then some "bytearray:memory" else none) = none
  rw [if_neg]
  rw [List.size_toArray, sizeLine_eq]; omega
theorem ba_checkResize {S : Addr} {b : List UInt8} {g : List Code} {Q : Unit → Shared → Prop} (hS : s.heap.get? S = some (bao b)) (hg : A.guards = some g) (hno : ∀ c ∈ g, False) (h : Q () s) : wpN (model prog w) A (Builtin.Bytes.checkResize (.ref S)) Q s := by
  unfold Builtin.Bytes.checkResize
  refine wpN_bind (wpN_bind (ba_exported hg hno ?_))
  refine wpN_of ?_
  refine wpAny_bind (wpAny_bind (wpAny_load hS ?_)) 
  refine wpAny_pure (wpAny_pure ?_)
  rw [if_neg (by decide)]
  exact wpN_pure h
theorem ba_append {S : Addr} {b : List UInt8} {c : Int} {t : Tok} {Q : Value → Shared → Prop} (F : Fr h₀ L s.heap m) (N : News h₀ L s.heap ((S, bao b) :: rest)) (hne : ∀ p ∈ rest, p.1 ≠ S) (hz : b.length < 16777216) (h0 : 0 ≤ c) (h1 : c < 256) (hg : A.guards = some [])
    (h : ∀ h', Fr h₀ L h' m → News h₀ L h' ((S, bao (b ++ [c.toNat.toUInt8])) :: rest) → Q .none { s with heap := h' }) : wpN (model prog w) A (call (.builtin "bytearray.append") [.ref S, .int c t]) Q s := by
  have hS := (N _ (.head _)).1
  refine wpN_call (codeN_call_builtin ba_slot_append.plain (by show Builtin.Bytes.decodersThatHold.contains "bytearray.append" = false; decide +kernel) ba_entry_append (ba_slot_append.check _ _ _ _ _ _ _ _ ⟨_, hS, rfl⟩ (ba_appendArgs _ _) ?_))
  unfold Builtin.«bytearray.append»
  refine wpN_bind (wpN_of (wpAny_of_eq (a := (.ref S, .int c t)) rfl ?_))
  dsimp only
  refine wpN_bind (wpN_of ?_)
  unfold Builtin.Bytes.byteValue
  refine wpAny_bind (wpAny_of_eq (rfl : asIndex (.int c t) = pure c) ?_)
  rw [if_neg (by simp; omega)]
  refine wpAny_pure ?_
  refine wpN_bind (ba_checkResize hS hg (by simp) ?_)
  refine wpN_bind (wpN_of (ba_write (b' := b ++ [c.toNat.toUInt8]) F N hne (by simp) (by simp; omega) fun h' F' N' => wpN_pure ?_))
  exact h h' F' N'
end
section
variable {prog : Program} {w : World} {A : Around} {E : Value → Shared → Prop} {s : Shared} {h₀ : Heap} {L : Addr} {m : Str → Option Value} {rest news : List (Addr × Obj)}
def iniArg : Option (List UInt8 × Tok) → List Value
  | none => []
  | some (b, t) => [.bytes b.toArray t]
def iniVal : Option (List UInt8 × Tok) → List UInt8
  | none => []
  | some (b, _) => b
theorem ba_typeCall (o : Option (List UInt8 × Tok)) : checkTypeCall "bytearray" ⟨iniArg o, []⟩ = pure () := by cases o; exact ba_typeCall0; exact ba_typeCall1 _
theorem ba_newCall (o : Option (List UInt8 × Tok)) : checkBuiltinCall "bytearray.__new__" ⟨.type "bytearray" :: iniArg o, []⟩ = pure () := by cases o; exact ba_newCall0; exact ba_newCall1 _
theorem ba_initArgs (x : Value) (o : Option (List UInt8 × Tok)) : argsOk "bytearray.__init__" ⟨x :: iniArg o, []⟩ := by cases o; exact ba_initArgs0 _; exact ba_initArgs1 _ _
theorem code_ba_new (o : Option (List UInt8 × Tok)) {Q₁ : Value → Shared → Prop} (h : Q₁ (.ref s.heap.objs.size) { s with heap := s.heap.push (bao []) }) :
    codeAny (model prog w) A (.call (.builtin "bytearray.__new__") ⟨.type "bytearray" :: iniArg o, []⟩) (wants Q₁ E) s := by
  refine codeAny_of_tree ?_
  show wpAny _ A.in1 (do checkBuiltinCall "bytearray.__new__" ⟨.type "bytearray" :: iniArg o, []⟩; again (.builtin "bytearray.__new__" ⟨.type "bytearray" :: iniArg o, []⟩)) _ _ s
  refine wpAny_bind (wpAny_of_eq (ba_newCall o) (wpAny_pure ⟨plainId_quiet ba_plain_new _, codeAny_builtin_stack ba_entry_new rfl fun p st => ?_⟩))
  rw [Around.under_plainId ba_plain_new _]
  have hsub := ba_self
  have hown := ba_owner
  obtain ⟨hp, g, d, tk, os⟩ := s
  simp only [hown]
  wp_walk
  exact h
theorem ba_init {S : Addr} {o : Option (List UInt8 × Tok)} {Q : Fin → Shared → Prop} (F : Fr h₀ L s.heap m) (N : News h₀ L s.heap ((S, bao []) :: rest)) (hne : ∀ p ∈ rest, p.1 ≠ S) (hz : (iniVal o).length ≤ 16777216) (hg : A.guards = some [])
    (h : ∀ h', Fr h₀ L h' m → News h₀ L h' ((S, bao (iniVal o)) :: rest) → Q (.done (.ret .none)) { s with heap := h' }) : wpN (model prog w) A (Builtin.«bytearray.__init__» ⟨.ref S :: iniArg o, []⟩) Q s := by
  have hS := (N _ (.head _)).1
  unfold Builtin.«bytearray.__init__»
  refine wpN_bind (wpN_of (ba_ownRelease hS ?_))
  rw [if_neg (by decide)]
  cases o with
  | none =>
    refine wpN_bind (wpN_of (wpAny_of_eq ba_bind0 ?_))
    refine wpN_bind (wpN_of (wpAny_of_eq (a := ()) rfl ?_))
    refine wpN_bind (wpN_of (wpAny_of_eq (a := ()) rfl ?_))
    refine wpN_bind (wpN_bind (ba_exported hg (by simp) ?_))
    refine wpN_of (wpAny_bind (wpAny_bind (wpAny_load hS (wpAny_pure (wpAny_pure ?_)))))
    rw [if_neg (by decide)]
    refine wpN_bind (wpN_of (ba_write (b' := []) F N hne rfl (by simp) fun h' F' N' => ?_))
    show wpN _ _ (pure () >>= fun _ => ret .none) _ _
    exact wpN_bind (wpN_pure (wpN_pure (h h' F' N')))
  | some o =>
    obtain ⟨b, t⟩ := o
    refine wpN_bind (wpN_of (wpAny_of_eq (ba_bind1 _) ?_))
    refine wpN_bind (wpN_of (wpAny_of_eq (a := ()) rfl ?_))
    refine wpN_bind (wpN_of (wpAny_of_eq (a := ()) rfl ?_))
    refine wpN_bind (wpN_bind (ba_exported hg (by simp) ?_))
    refine wpN_of (wpAny_bind (wpAny_bind (wpAny_load hS (wpAny_pure (wpAny_pure ?_)))))
    rw [if_neg (by decide)]
    refine wpN_bind (wpN_of (ba_write (b' := []) F N hne rfl (by simp) fun h' F' N' => ?_))
    refine wpN_of ?_
    dsimp only
    refine wpAny_bind (wpAny_of_eq (a := none) rfl ?_)
    rw [if_neg (by simp)]
    refine wpAny_bind (wpAny_of_eq (a := ()) rfl ?_)
    refine wpAny_bind (wpAny_specialOf (PySem.W.typeIs_bytes _ _ _) bytes_no_index ?_)
    rw [if_neg (by simp)]
    refine wpAny_bind (wpAny_of_eq KBy.buffer_eq ?_)
    dsimp only
    refine wpAny_bind (wpAny_rule (wpAny_bind (ba_write (b' := b) F' N' hne rfl hz fun h'' F'' N'' => ?_)))
    exact wpAny_pure (h h'' F'' N'')
end
section
variable {prog : Program} {w : World} {A : Around} {E : Value → Shared → Prop} {s : Shared} {h₀ : Heap} {L : Addr} {m : Str → Option Value} {rest news : List (Addr × Obj)}
theorem ba_make {o : Option (List UInt8 × Tok)} {Q : Value → Shared → Prop} (F : Fr h₀ L s.heap m) (N : News h₀ L s.heap news) (hz : (iniVal o).length ≤ 16777216) (hg : A.guards = some [])
    (h : ∀ S h', Fr h₀ L h' m → News h₀ L h' ((S, bao (iniVal o)) :: news) → (∀ p ∈ news, p.1 ≠ S) → Q (.ref S) { s with heap := h' }) : wpN (model prog w) A (call (.type "bytearray") (iniArg o)) Q s := by
  obtain ⟨F1, N1, lt1⟩ := ks_newsPush (s := s) (o := bao []) F N rfl (Heap.get?_push_size _ rfl) (fun _ _ e => Heap.get?_push_of_some _ e)
  have ne1 : ∀ p ∈ news, p.1 ≠ s.heap.objs.size := fun p hp => Nat.ne_of_lt (lt1 p hp)
  obtain ⟨c, tl, hmro⟩ := ba_called.mro
  refine wpN_call (codeN_of_tree ?_)
  show wpN _ _ (callAny (.type "bytearray") _) _ _
  refine wpN_pure ⟨Code.quiet_builtin _ (by decide +kernel), by show Builtin.Bytes.decodersThatHold.contains "type.__call__" = false; decide +kernel, codeN_builtin PySem.F.entry_type_call ?_⟩
  rw [Around.under_plain (weight_type_call_type "bytearray" (iniArg o) []) rfl]
  unfold Builtin.«type.__call__»
  dsimp only
  rw [if_neg (by rw [ba_called.notType]; decide), if_neg (by rw [ba_called.canCreate]; decide)]
  refine wpN_bind (wpN_of (wpAny_of_eq (ba_typeCall o) ?_))
  refine wpN_bind (wpN_of (wpAny_of_eq hmro ?_))
  rw [if_neg (by simp)]
  refine wpN_bind (wpN_of (wpAny_of_eq ba_called.made ?_))
  dsimp only
  refine wpN_bind (wpN_pure ?_)
  refine wpN_bind (wpN_holding (wpN_of (wpAny_call (codeAny_mono (code_ba_new o (Q₁ := fun v s₁ => v = .ref s.heap.objs.size ∧ s₁ = { s with heap := s.heap.push (bao []) }) (E := NoE) ⟨rfl, rfl⟩) fun r s' hr => ?_))))
  rcases r with e | (v | _ | _ | _) <;> first | exact hr | exact hr.elim | skip
  obtain ⟨rfl, rfl⟩ := hr
  have hT : ({ s with heap := s.heap.push (bao []) } : Shared).TypeIs (.ref s.heap.objs.size) "bytearray" := ⟨_, (N1 _ (.head _)).1, rfl⟩
  refine wpN_bind (wpN_of (wpAny_isInstance hT ba_self ?_))
  rw [if_neg (by decide)]
  refine wpN_bind (wpN_holding ?_)
  unfold callSpecial?
  refine wpN_bind (wpN_of (wpAny_specialOf hT ba_slot_init.lookup ?_))
  dsimp only
  refine wpN_holding ?_
  rw [ba_slot_init.bind]
  refine wpN_bind (wpN_pure (wpN_bind ?_))
  refine wpN_call (codeN_call_builtin ba_slot_init.plain (by show Builtin.Bytes.decodersThatHold.contains "bytearray.__init__" = false; decide +kernel) ba_entry_init (ba_slot_init.check _ _ _ _ _ _ _ _ hT (ba_initArgs _ o) ?_))
  refine ba_init F1 N1 ne1 hz hg fun h' F' N' => ?_
  refine wpN_pure ?_
  dsimp only
  rw [if_neg (by simp)]
  exact wpN_pure (h _ _ F' N' ne1)
theorem ba_slotOwn {S : Addr} {b : List UInt8} {Q : Bool → Shared → Prop} (hS : s.heap.get? S = some (bao b)) (h : Q true s) : wpAny (model prog w) A (Builtin.Bytes.slotIsOwn (.ref S) "__buffer__") Q E s := by
  have hT : s.TypeIs (.ref S) "bytearray" := ⟨_, hS, rfl⟩
  unfold Builtin.Bytes.slotIsOwn
  refine wpAny_bind (wpAny_specialOf hT ba_buffer ?_)
  dsimp only
  rw [if_neg (by decide +kernel)]
  exact wpAny_isInstance hT (b := true) (by rw [show ("bytearray.__buffer__".dropRight ("__buffer__".length + 1)) = "bytearray" from by decide +kernel]; exact ba_self) h
theorem ba_buf {S : Addr} {b : List UInt8} {id : String} {full : Bool} {Q : Option (Array UInt8) → Shared → Prop} (hS : s.heap.get? S = some (bao b)) (h : Q (some b.toArray) s) : wpAny (model prog w) A (Builtin.Bytes.buffer? id (.ref S) full) Q E s := by
  have hT : s.TypeIs (.ref S) "bytearray" := ⟨_, hS, rfl⟩
  unfold Builtin.Bytes.buffer?
  refine wpAny_bind (wpAny_specialOf hT ba_buffer ?_)
  dsimp only
  refine wpAny_bind (ba_slotOwn hS ?_)
  rw [if_neg (by decide)]
  refine wpAny_bind (wpAny_specialOf hT ba_buffer ?_)
  refine wpAny_bind (ba_ownRelease hS ?_)
  rw [if_neg (by decide)]
  unfold Builtin.Bytes.payload Builtin.Bytes.payload?
  refine wpAny_bind (wpAny_bind (wpAny_bind (wpAny_load hS ?_)))
  exact wpAny_pure (wpAny_pure (wpAny_pure h))
theorem bm_newCallB (a : Value) : checkBuiltinCall "bytes.__new__" ⟨[.type "bytes", a], []⟩ = pure () := by kernel_rfl
theorem ba_bytes {S : Addr} {b : List UInt8} {Q : Value → Shared → Prop} (hS : s.heap.get? S = some (bao b)) (hz : b.length ≤ 16777216)
    (h : ∀ t k, Q (.bytes b.toArray t) { s with toks := k }) : wpAny (model prog w) A (call (.type "bytes") [.ref S]) Q E s := by
  have hT : s.TypeIs (.ref S) "bytearray" := ⟨_, hS, rfl⟩
  refine callType_codes (Q₁ := fun obj s₁ => s₁.TypeIs obj "bytes" ∧ Q obj s₁) PySem.F.bm_called (PySem.F.bm_typeCall _) PySem.F.entry_object_init ?_ fun obj s₁ h₁ => ?_
  · refine codeAny_of_tree ?_
    show wpAny _ A.in1.in1 (do checkBuiltinCall "bytes.__new__" ⟨[.type "bytes", .ref S], []⟩; again (.builtin "bytes.__new__" ⟨[.type "bytes", .ref S], []⟩)) _ _ s
    refine wpAny_bind (wpAny_of_eq (PySem.F.bm_newCall _) (wpAny_pure ⟨plainId_quiet PySem.F.bm_plain _, codeAny_builtin PySem.F.bm_entry ?_⟩))
    rw [Around.under_plainId PySem.F.bm_plain _]
    unfold Builtin.«bytes.__new__»
    refine wpAny_bind (wpAny_of_eq (a := true) rfl ?_)
    rw [if_neg (by decide)]
    refine wpAny_bind (wpAny_of_eq PySem.F.bm_sub ?_)
    rw [if_neg (by decide)]
    refine wpAny_bind (wpAny_of_eq (PySem.F.bm_bind _) ?_)
    refine wpAny_bind (wpAny_of_eq (a := ()) rfl ?_)
    refine wpAny_bind (wpAny_of_eq (a := ()) rfl ?_)
    rw [if_neg (by decide)]
    refine wpAny_bind (wpAny_specialOf hT ba_no_bytes ?_)
    refine wpAny_bind (wpAny_bind ?_)
    show wpAny _ _ (load S >>= _) _ _ _
    refine wpAny_bind (wpAny_load hS (wpAny_pure (wpAny_pure ?_)))
    rw [if_neg (by decide)]
    refine wpAny_bind (wpAny_specialOf hT ba_no_index ?_)
    rw [if_pos (by decide)]
    first
      | show wpAny _ _ (Builtin.Bytes.buffer? "bytes.__new__" (.ref S) true >>= _) _ _ _
      | (refine wpAny_bind ?_; show wpAny _ _ (Builtin.Bytes.buffer? "bytes.__new__" (.ref S) true >>= _) _ _ _)
    refine wpAny_bind (ba_buf hS ?_)
    dsimp only
    refine wpAny_bind (wpAny_rule (wpAny_bind (wpAny_mkBytes ?_ (by rw [List.size_toArray, sizeLine_eq]; omega))))
    show wpAny _ _ (if (Value.type "bytes" == Value.type "bytes") = true then _ else _) _ _ _
    rw [if_pos (by decide)]
    first
      | exact wpAny_pure ⟨PySem.W.typeIs_bytes _ _ _, h _ _⟩
      | exact wpAny_bind (wpAny_pure (wpAny_pure ⟨PySem.W.typeIs_bytes _ _ _, h _ _⟩))
  · exact ⟨h₁.1, PySem.F.args_object_init_2 obj _, object_init_meets PySem.F.bm_called.init.lookup PySem.F.bm_called.made (by decide) prog w A.in1 _ s₁ ⟨h₁.1, rfl, h₁.2⟩⟩
end
section
variable {prog : Program} {w : World} {A : Around} {s : Shared} {env : Env}
theorem keeps_type {T : String} (h : Heap) (_ : True) : ∃ k, (k = Keeper.frame ∨ k = Keeper.machine ∨ k = Keeper.boundFrame) ∧ Looks (model prog w) h (keeperOf (.type T)) k := ⟨.machine, .inr (.inl rfl), Looks.of_pure rfl⟩
theorem keeps_builtin {i : String} (h : Heap) (_ : True) : ∃ k, (k = Keeper.frame ∨ k = Keeper.machine ∨ k = Keeper.boundFrame) ∧ Looks (model prog w) h (keeperOf (.builtin i)) k := ⟨.machine, .inr (.inl rfl), Looks.of_pure rfl⟩
theorem nCallWithT0 {T : String} {first : List Value} {pos : Pos} {Q : Value → Shared → Prop} (h : wpN (model prog w) A (call (.type T) (first ++ [])) Q s) : wpN (model prog w) A (callWith pos (.type T) first (backTo pos (starEach [] env)) []) Q s :=
  nCallWith_of rfl keeps_type (nEvalArgs0 ⟨trivial, h⟩)
theorem nCallWithT {T : String} {first : List Value} {pos : Pos} {e : Expr} {rest : List Expr} {Q : Value → Shared → Prop}
    (h : wpN (model prog w) A (spliced (backTo pos (starEach (e :: rest) env))) (fun vs s₁ => wpN (model prog w) A (call (.type T) (first ++ vs)) Q s₁) s)
    (he : starEach (e :: rest) env = (false, eval e env) :: starEach rest env := by rfl) (hplain : (backTo pos (starEach rest env)).any (·.1) = false := by rfl) :
    wpN (model prog w) A (callWith pos (.type T) first (backTo pos (starEach (e :: rest) env)) []) Q s := by
  rw [he] at h ⊢
  exact nCallWith_of (by show (false || (backTo pos (starEach rest env)).any (·.1)) = false; rw [hplain]; rfl) keeps_type (nEvalArgs (wpN_mono h fun _ _ z => ⟨trivial, z⟩))
theorem nCallWithB {i : String} {first : List Value} {pos : Pos} {e : Expr} {rest : List Expr} {Q : Value → Shared → Prop}
    (h : wpN (model prog w) A (spliced (backTo pos (starEach (e :: rest) env))) (fun vs s₁ => wpN (model prog w) A (call (.builtin i) (first ++ vs)) Q s₁) s)
    (he : starEach (e :: rest) env = (false, eval e env) :: starEach rest env := by rfl) (hplain : (backTo pos (starEach rest env)).any (·.1) = false := by rfl) :
    wpN (model prog w) A (callWith pos (.builtin i) first (backTo pos (starEach (e :: rest) env)) []) Q s := by
  rw [he] at h ⊢
  exact nCallWith_of (by show (false || (backTo pos (starEach rest env)).any (·.1)) = false; rw [hplain]; rfl) keeps_builtin (nEvalArgs (wpN_mono h fun _ _ z => ⟨trivial, z⟩))
end
def ClN (w : World) (mean : ExcName → Option Value) (mg mb : Str → Option Value) (f : Addr) (k : Nat) (news : List (Addr × Obj)) (vs : List Value) (P : Value → List (Addr × Obj) → Prop) : Prop :=
  ∀ (dp un : Nat) (cn : Str) (cs : Scope) (a : Addr) (ccd : Value) (cl : List (Str × Addr)) (outer : List Env) (A₀ : Around) (base h₀ : Heap) (L : Addr) (m : Str → Option Value) (s : Shared) (Q : Value → Shared → Prop),
    Below A₀ base outer h₀ → Fr h₀ L s.heap m → (Mine.hd.heap_39 w.params).In h₀ → News h₀ L s.heap news →
    Top Mine.hd.view_39 (looseW Mine.hd.view_39 [Str.ofString "PostError", Str.ofString "literal_octets", Str.ofString "string_octets", Str.ofString "astring_octets"]) mean mg mb h₀ →
    cs.kind = .function → dp + k < recursionLimit → un + 8 * k < cLine →
    (∀ v news' h' tk', P v news' → Fr h₀ L h' m → News h₀ L h' news' → Q v { s with heap := h', toks := tk' }) →
    wpN (model PySem.Challenge.rw_pq0950_01.prog w) (ktrTop dp un (some []) cn cs L a ccd cl outer) (call (.ref f) vs) Q s
theorem ClN.use {w : World} {mean : ExcName → Option Value} {mg mb : Str → Option Value} {f : Addr} {k : Nat} {news : List (Addr × Obj)} {vs : List Value} {P : Value → List (Addr × Obj) → Prop}
    {dp un : Nat} {cn : Str} {cs : Scope} {a : Addr} {ccd : Value} {cl : List (Str × Addr)} {outer : List Env} {A₀ : Around} {base h₀ : Heap} {L : Addr} {m : Str → Option Value} {s : Shared} {Q : Value → Shared → Prop}
    (C : ClN w mean mg mb f k news vs P)
    (B : Below A₀ base outer h₀) (F : Fr h₀ L s.heap m) (X : (Mine.hd.heap_39 w.params).In h₀) (N : News h₀ L s.heap news)
    (T : Top Mine.hd.view_39 (looseW Mine.hd.view_39 [Str.ofString "PostError", Str.ofString "literal_octets", Str.ofString "string_octets", Str.ofString "astring_octets"]) mean mg mb h₀)
    (hk : cs.kind = .function) (hd : dp + k < recursionLimit) (hu : un + 8 * k < cLine)
    (ret : ∀ v news' h' tk', P v news' → Fr h₀ L h' m → News h₀ L h' news' → Q v { s with heap := h', toks := tk' }) :
    wpN (model PySem.Challenge.rw_pq0950_01.prog w) (ktrTop dp un (some []) cn cs L a ccd cl outer) (call (.ref f) vs) Q s :=
  C _ _ _ _ _ _ _ _ _ _ _ _ _ _ _ B F X N T hk hd hu ret
theorem Cl.toN {w : World} {mean : ExcName → Option Value} {mg mb : Str → Option Value} {f : Addr} {k : Nat} {news : List (Addr × Obj)} {vs : List Value} {P : Value → List (Addr × Obj) → Prop} (C : Cl w mean mg mb f k news vs P) : ClN w mean mg mb f k news vs P :=
  fun _ _ _ _ _ _ _ _ _ _ _ _ _ _ _ B F X N T hk hd hu ret => wpN_of (C.use B F X N T hk hd hu ret)
section
variable {prog : Program} {w : World} {A : Around} {s : Shared} {h₀ : Heap} {env : Env} {x : Str} {px : Pos} {body : List Stmt} {R : Flow → Shared → Prop}
theorem forY {b : Array UInt8} {t : Tok} {m : Str → Option Value} {news : List (Addr × Obj)} (J : Nat → (Str → Option Value) → List (Addr × Obj) → Prop)
    (hh : A.handled = none) (hx : env.kindOf x = some .local) (hp : (env.scope.kind == .class || (env.scope.kind == .module && env.locals != env.globals)) = false)
    (F : Fr h₀ env.locals s.heap m) (N : News h₀ env.locals s.heap news) (hJ : J 0 m news)
    (turn : ∀ i c m₁ news₁ h tk t' I oI, b[i]? = some c → J i m₁ news₁ → Fr h₀ env.locals h (fun y => if y = x then some (.int (c.toNat : Int) t') else m₁ y) → News h₀ env.locals h (news₁ ++ [(I, oI)]) → (∀ p ∈ news₁, p.1 ≠ I) →
      wpN (model prog w) A (execs body env) (fun f s₃ => match f with
        | .next | .cont => ∃ h' tk' m' news', s₃ = { s with heap := h', toks := tk' } ∧ Fr h₀ env.locals h' m' ∧ News h₀ env.locals h' (news' ++ [(I, oI)]) ∧ news'.map (·.1) = news₁.map (·.1) ∧ J (i + 1) m' news'
        | .brk => R .next s₃ | .ret v => R (.ret v) s₃) { s with heap := h, toks := tk })
    (done : ∀ h' tk' m' news', Fr h₀ env.locals h' m' → News h₀ env.locals h' news' → J b.size m' news' → R .next { s with heap := h', toks := tk' }) :
    wpAny (model prog w) A (pyIter (.bytes b t)) (fun it s₂ => codeN (model prog w) A (.forLoop (.Name x px) it body [] env) R s₂) NoE s := by
  refine KBw.pyIter_bytes ?_
  have W := KBw.walks (prog := prog) (w := w) hh s.heap.objs.size b t
  obtain ⟨F1, N1⟩ := news_push (o := { cls := .type "bytes_iterator", data := .fields #[.bytes b t, .int 0 0] }) F N
  have hI0 : h₀.get? s.heap.objs.size = none := next_is_new F
  have hIL : env.locals ≠ s.heap.objs.size := Nat.ne_of_lt F.ns.lt
  refine codeN_for (fun n s' => ∃ h' tk m₁ news₁ i, s' = { s with heap := h', toks := tk } ∧ n = b.size - i ∧ i ≤ b.size ∧ KBw.IsBytesIter h' s.heap.objs.size b t i ∧ Fr h₀ env.locals h' m₁ ∧ News h₀ env.locals h' news₁ ∧ (∀ p ∈ news₁, p.1 ≠ s.heap.objs.size) ∧ J i m₁ news₁) ?_ (b.size - 0)
    ⟨_, s.toks, m, news, 0, rfl, rfl, Nat.zero_le _, ⟨_, Heap.get?_push_size _ rfl, rfl, rfl⟩, F1, N1, fun p hp => Nat.ne_of_lt (Heap.lt_size (N p hp).1), hJ⟩
  rintro n s' ⟨h', tk, m₁, news₁, i, rfl, rfl, hi, st, F', N', off, hJ'⟩
  by_cases hlt : i < b.size
  · refine wpN_of (W.item i _ _ _ hlt st fun v h₂ tk₂ hP st₂ keep => ?_)
    obtain ⟨c, u, hc, rfl⟩ := hP
    have F₂ : Fr h₀ env.locals h₂ m₁ := LCg.fr_but F' keep hIL hI0
    have N₂ : News h₀ env.locals h₂ news₁ := LCg.news_but N' keep off
    refine wpN_of (wpAny_assign_Name (wpAny_storeName_local hx F₂.ns (fun h₃ hn₃ hs₃ => ?_) hp))
    have hL₀ : h₀.get? env.locals = none := Heap.get?_none_of_le F₂.above
    have F₃ : Fr h₀ env.locals h₃ (fun y => if y = x then some (.int (c.toNat : Int) u) else m₁ y) := ⟨hn₃, fun b o e => hs₃.extBut b o (fun q => by rw [q, hL₀] at e; cases e) (F₂.keep b o e), F₂.above⟩
    obtain ⟨oI, heI⟩ : ∃ oI, h₂.get? s.heap.objs.size = some oI := by obtain ⟨o, e, _⟩ := st₂; exact ⟨o, e⟩
    have heI3 : h₃.get? s.heap.objs.size = some oI := hs₃.extBut _ _ (Ne.symm hIL) heI
    have N₃ : News h₀ env.locals h₃ (news₁ ++ [(s.heap.objs.size, oI)]) := fun p hp' => by
      rcases List.mem_append.mp hp' with q | q
      · exact ⟨hs₃.extBut _ _ (N₂ p q).2.1 (N₂ p q).1, (N₂ p q).2⟩
      · rw [List.mem_singleton.mp q]; exact ⟨heI3, Ne.symm hIL, hI0⟩
    refine wpN_mono (turn i c m₁ news₁ h₃ _ u s.heap.objs.size oI hc hJ' F₃ N₃ off) fun f s₃ hf => ?_
    have next : (∃ h' tk' m' news', s₃ = { s with heap := h', toks := tk' } ∧ Fr h₀ env.locals h' m' ∧ News h₀ env.locals h' (news' ++ [(s.heap.objs.size, oI)]) ∧ news'.map (·.1) = news₁.map (·.1) ∧ J (i + 1) m' news') →
        ∃ mm, mm < b.size - i ∧ ∃ h' tk m₁ news₁ i, s₃ = { s with heap := h', toks := tk } ∧ mm = b.size - i ∧ i ≤ b.size ∧ KBw.IsBytesIter h' s.heap.objs.size b t i ∧ Fr h₀ env.locals h' m₁ ∧ News h₀ env.locals h' news₁ ∧ (∀ p ∈ news₁, p.1 ≠ s.heap.objs.size) ∧ J i m₁ news₁ := by
      rintro ⟨h₄, tk₄, m₄, news₄, rfl, F₄, N₄, ha, hJ₄⟩
      refine ⟨b.size - (i + 1), by omega, h₄, tk₄, m₄, news₄, i + 1, rfl, rfl, hlt, ?_, F₄, fun p hp' => N₄ p (List.mem_append_left _ hp'), fun p hp' e => ?_, hJ₄⟩
      · obtain ⟨o, e, r⟩ := st₂
        rw [heI] at e; cases e
        exact ⟨oI, (N₄ (s.heap.objs.size, oI) (List.mem_append_right _ (.head _))).1, r⟩
      · have : p.1 ∈ news₁.map (·.1) := ha ▸ List.mem_map_of_mem hp'
        obtain ⟨q, hq, he⟩ := List.mem_map.mp this
        exact off q hq (he.trans e)
    cases f with
    | next => exact next hf
    | cont => exact next hf
    | brk => exact hf
    | ret v => exact hf
  · obtain rfl : i = b.size := Nat.le_antisymm hi (Nat.not_lt.mp hlt)
    refine wpN_of (W.done _ _ _ st fun h₂ tk₂ keep => ?_)
    exact done h₂ tk₂ m₁ news₁ (LCg.fr_but F' keep hIL hI0) (LCg.news_but N' keep off) hJ'
end
section
variable {prog : Program} {w : World} {A : Around} {s : Shared} {h₀ : Heap} {env : Env} {x : Str} {px : Pos} {body : List Stmt} {R : Flow → Shared → Prop}
def EndY (h₀ : Heap) (L : Addr) (x : Str) (m : Str → Option Value) (s : Shared) (I : Addr) (oI : Obj) (ad : List Addr) (J : List (Addr × Obj) → Prop) (s₃ : Shared) : Prop :=
  ∃ h' tk' v' news', s₃ = { s with heap := h', toks := tk' } ∧ Fr h₀ L h' (fun y => if y = x then v' else m y) ∧ News h₀ L h' (news' ++ [(I, oI)]) ∧ news'.map (·.1) = ad ∧ J news'
theorem forYc {b : Array UInt8} {t : Tok} {m : Str → Option Value} {news : List (Addr × Obj)} (J : Nat → List (Addr × Obj) → Prop)
    (hh : A.handled = none) (hx : env.kindOf x = some .local) (hp : (env.scope.kind == .class || (env.scope.kind == .module && env.locals != env.globals)) = false)
    (F : Fr h₀ env.locals s.heap m) (N : News h₀ env.locals s.heap news) (hJ : J 0 news)
    (turn : ∀ i c news₁ h tk t' I oI, b[i]? = some c → J i news₁ → Fr h₀ env.locals h (fun y => if y = x then some (.int (c.toNat : Int) t') else m y) → News h₀ env.locals h (news₁ ++ [(I, oI)]) → (∀ p ∈ news₁, p.1 ≠ I) →
      wpN (model prog w) A (execs body env) (fun f s₃ => match f with
        | .next | .cont => EndY h₀ env.locals x m s I oI (news₁.map (·.1)) (J (i + 1)) s₃
        | .brk => R .next s₃ | .ret v => R (.ret v) s₃) { s with heap := h, toks := tk })
    (done : ∀ h' tk' v' news', Fr h₀ env.locals h' (fun y => if y = x then v' else m y) → News h₀ env.locals h' news' → J b.size news' → R .next { s with heap := h', toks := tk' }) :
    wpAny (model prog w) A (pyIter (.bytes b t)) (fun it s₂ => codeN (model prog w) A (.forLoop (.Name x px) it body [] env) R s₂) NoE s := by
  have drop : ∀ (v v' : Option Value), (fun y => if y = x then v else (fun y => if y = x then v' else m y) y) = (fun y => if y = x then v else m y) := fun v v' => by
    funext y
    by_cases e : y = x <;> simp [e]
  refine forY (fun i m₁ ns => (∃ v', m₁ = fun y => if y = x then v' else m y) ∧ J i ns) hh hx hp F N ⟨⟨m x, by funext y; by_cases e : y = x <;> simp [e]⟩, hJ⟩ ?_ ?_
  · rintro i c m₁ news₁ h tk t' I oI hc ⟨⟨v', rfl⟩, hJ'⟩ F' N' off
    rw [drop] at F'
    refine wpN_mono (turn i c news₁ h tk t' I oI hc hJ' F' N' off) fun f s₃ hf => ?_
    cases f with
    | next => obtain ⟨h', tk', v', news', e, F', N', ha, hj⟩ := hf; exact ⟨h', tk', _, news', e, F', N', ha, ⟨v', rfl⟩, hj⟩
    | cont => obtain ⟨h', tk', v', news', e, F', N', ha, hj⟩ := hf; exact ⟨h', tk', _, news', e, F', N', ha, ⟨v', rfl⟩, hj⟩
    | brk => exact hf
    | ret v => exact hf
  · rintro h' tk' m' news' F' N' ⟨⟨v', rfl⟩, hj⟩
    exact done h' tk' v' news' F' N' hj
end
end
section
open Sem (wp)
open PySem.Calls
end
section
section
variable {prog : Program} {w : World} {A : Around} {E : Value → Shared → Prop} {s : Shared} {env : Env} {h₀ : Heap} {x : Str} {body : List Stmt} {Q : Flow → Shared → Prop}
def EndR (h₀ : Heap) (L : Addr) (x : Str) (m : Str → Option Value) (s : Shared) (ns : List (Addr × Obj)) (s₃ : Shared) : Prop :=
  ∃ h' tk' v', s₃ = { s with heap := h', toks := tk' } ∧ Fr h₀ L h' (fun y => if y = x then v' else m y) ∧ News h₀ L h' ns
theorem rangeC {r : Addr} {b : Int} {t u v : Tok} {n : Nat} {m₀ : Str → Option Value} {news : List (Addr × Obj)}
    (hh : A.handled = none) (hr : IsRange s.heap r 0 b 1 t u v) (hsmall : Builtin.Range.small 0 b 1 = true) (hn : Builtin.Range.rangeSize 0 b 1 = (n : Int)) (F : Fr h₀ env.locals s.heap m₀) (N : News h₀ env.locals s.heap news)
    (turn : ∀ (i : Nat) t h tk own, i < n → Fr h₀ env.locals h (fun y => if y = x then some (.int (i : Int) t) else m₀ y) → News h₀ env.locals h (news ++ own) →
      wpAny (model prog w) A (execs body env) (fun f s₃ => match f with | .next | .cont => EndR h₀ env.locals x m₀ s (news ++ own) s₃ | .brk => Q .next s₃ | .ret v => Q (.ret v) s₃) E { s with heap := h, toks := tk })
    (done : ∀ h tk v', Fr h₀ env.locals h (fun y => if y = x then v' else m₀ y) → News h₀ env.locals h news → Q .next { s with heap := h, toks := tk }) :
    wpAny (model prog w) A (pyIter (.ref r)) (fun it s₂ => LoopAtV prog w A h₀ env x body Q E it s₂) E s := by
  have drop : ∀ (v v' : Option Value), (fun y => if y = x then v else (fun y => if y = x then v' else m₀ y) y) = (fun y => if y = x then v else m₀ y) := fun v v' => by
    funext y
    by_cases e : y = x <;> simp [e]
  refine iter_rangeN (fun _ m₁ ns => (∃ v', m₁ = fun y => if y = x then v' else m₀ y) ∧ ns = news) hh hr hsmall hn F N ⟨⟨m₀ x, by funext y; by_cases e : y = x <;> simp [e]⟩, rfl⟩ ?_ ?_
  · rintro i t m₁ news₁ h tk own hi _ ⟨⟨v', rfl⟩, rfl⟩ F' N'
    rw [drop, Int.zero_add] at F'
    refine wpAny_mono (turn i t h tk own hi F' N') (fun f s₃ hf => ?_) fun _ _ z => z
    have key : EndR h₀ env.locals x m₀ s (news₁ ++ own) s₃ → InvEndN h₀ env.locals (fun m₁ ns => (∃ v', m₁ = fun y => if y = x then v' else m₀ y) ∧ ns = news₁) own (news₁.map (·.1)) { s with heap := h, toks := tk } s₃ := by
      rintro ⟨h', tk', v', rfl, F₂, N₂⟩
      exact ⟨h', tk', _, _, news₁, rfl, F₂, N₂, fun p hp => List.mem_append_left _ hp, fun p hp => List.mem_append_right _ hp, rfl, ⟨v', rfl⟩, rfl⟩
    cases f with
    | next => exact key hf
    | cont => exact key hf
    | brk => exact hf
    | ret v => exact hf
  · rintro m₁ news₁ h tk ⟨⟨v', rfl⟩, rfl⟩ F' N'
    exact done h tk v' F' N'
end
theorem range_len (n : Nat) : Builtin.Range.rangeSize 0 (n : Int) 1 = (n : Int) := by
  unfold Builtin.Range.rangeSize
  rw [if_pos (by decide)]
  by_cases h : 0 < (n : Int)
  · rw [if_pos h, Int.ediv_one]; omega
  · rw [if_neg h]; omega
theorem small_len {n : Nat} (h : n ≤ 65536) : Builtin.Range.small 0 (n : Int) 1 = true := by
  unfold Builtin.Range.small
  rw [range_len]
  simp [Builtin.Range.rangeFitsLong]
  omega
theorem join_mapB (cs : List UInt8) : Txt.join (Str.ofString "") (cs.map fun c => (⟨#[c.toNat]⟩ : Str)) = mkS (cs.map UInt8.toNat) := by
  have := join_map id (cs.map UInt8.toNat)
  simpa [List.map_map, Function.comp_def] using this
theorem sign_weightB (cs : List UInt8) : ((cs.map fun c => (⟨#[c.toNat]⟩ : Str)).map (·.length)).sum = cs.length := by
  have := sign_weight id (cs.map UInt8.toNat)
  simpa [List.map_map, Function.comp_def] using this
theorem boot_bytearray : bootBuiltins "bytearray" = some (.type "bytearray") := by decide +kernel
theorem text_at {cs : List Nat} {i : Nat} (hi : i < cs.length) : cs.toArray[i]? = some (cs.getD i 0) := by
  simp [List.getD_eq_getElem?_getD, hi]
section
variable {prog : Program} {w : World} {A : Around} {E : Value → Shared → Prop} {s : Shared} {cs : List Nat} {t u : Tok} {Q : Value → Shared → Prop}
theorem len_S (hz : cs.length ≤ 16777216) (h : ∀ t' k, Q (.int (cs.length : Int) t') { s with toks := k }) : wpAny (model prog w) A (call (.builtin "len") [.str (mkS cs) t]) Q E s := by
  have e : (mkS cs).length = cs.length := List.size_toArray
  refine PySem.P.len_str (by rw [e]; omega) ?_
  rw [e]
  exact h _ _
theorem item_S {value slice : Expr} {i : Int} (hz : cs.length ≤ 16777216) (h0 : 0 ≤ i) (h1 : i < (cs.length : Int)) (h : ∀ t' k, Q (.str ⟨#[cs.getD i.toNat 0]⟩ t') { s with toks := k })
    (hs : subscripted slice false (.str (mkS cs) t) (.int i u) = operate [.str (mkS cs) t, .int i u] (getItem (.str (mkS cs) t) (.int i u)) := by with_unfolding_all rfl) :
    wpAny (model prog w) A (subscriptTail value slice (.str (mkS cs) t) (.int i u)) Q E s := by
  obtain ⟨n, rfl⟩ := Int.eq_ofNat_of_zero_le h0
  have hn : n < cs.length := by omega
  refine tail_any (PySem.typeIs_str s (mkS cs) t) PySem.F.slot_str_getitem.lookup (PySem.P.getItem_str (c := cs.getD n 0) (by simp; omega) ?_ (h _ _)) hs
  have e : (mkS cs).length = cs.length := List.size_toArray
  have : seqIndex? (n : Int) (mkS cs).length = some n := by
    unfold seqIndex?
    rw [e]
    have h2 : ¬ ((n : Int) < 0) := by omega
    have h3 : (decide (0 ≤ (n : Int)) && decide ((n : Int) < (cs.length : Int))) = true := by simp; omega
    simp only [h2, if_false]
    rw [h3]
    rfl
  rw [this]
  simp [List.getD_eq_getElem?_getD, hn]
end
theorem textB_eq (cs : List Nat) : byteArr (cs.map fun (c : Nat) => (c : Int)) = (cs.map fun c => c.toUInt8).toArray := by
  simp [byteArr, List.map_map, Function.comp_def]
theorem isAtom_le {c : UInt8} (h : isAtom c.toNat = true) : c.toNat ≤ 127 := by
  simp only [isAtom, isPrintable, Bool.and_eq_true, decide_eq_true_eq] at h
  omega
theorem drop_le {l aw r : List UInt8} {i n : Nat} (h : l.drop i = aw ++ r) (hl : l.length ≤ n) : aw.length ≤ n := by
  have := congrArg List.length h
  simp at this
  omega
def sepW (ws : List (List UInt8)) : List UInt8 := ws.flatMap fun w => 32 :: w
def strW (w : List UInt8) : Str := mkS ((w.map UInt8.toNat).map upC)
theorem sepW_cons (w : List UInt8) (ws : List (List UInt8)) : sepW (w :: ws) = 32 :: w ++ sepW ws := rfl
theorem strs_snoc {vs : List Value} {ys : List Str} {y : Str} {t : Tok} (h : StrsAre vs ys) : StrsAre (vs ++ [.str y t]) (ys ++ [y]) := by
  induction h with
  | nil => exact .cons _ _ .nil
  | cons x u h ih => exact .cons x u ih
theorem sep_stop {ws : List (List UInt8)} {r : List UInt8} : ∀ c r', sepW ws ++ 41 :: r = c :: r' → isAtom c.toNat = false := by
  intro c r' h
  cases ws with
  | nil => simp only [sepW, List.flatMap_nil, List.nil_append, List.cons.injEq] at h; rw [← h.1]; decide +kernel
  | cons w ws => simp only [sepW_cons, List.cons_append, List.cons.injEq] at h; rw [← h.1]; decide +kernel
def ClC (w : World) (mean : ExcName → Option Value) (mg mb : Str → Option Value) (f : Addr) (k : Nat) (news : List (Addr × Obj)) (vs : List Value) (P : Value → List (Addr × Obj) → Prop) : Prop :=
  ∀ (dp un : Nat) (gd : Option (List Code)) (cn : Str) (cs : Scope) (a : Addr) (ccd : Value) (cl : List (Str × Addr)) (outer : List Env) (A₀ : Around) (base h₀ : Heap) (L : Addr) (m : Str → Option Value) (s : Shared) (R : Result → Shared → Prop),
    Below A₀ base outer h₀ → Fr h₀ L s.heap m → (Mine.hd.heap_39 w.params).In h₀ → News h₀ L s.heap news →
    Top Mine.hd.view_39 (looseW Mine.hd.view_39 [Str.ofString "PostError", Str.ofString "literal_octets", Str.ofString "string_octets", Str.ofString "astring_octets"]) mean mg mb h₀ →
    cs.kind = .function → dp + k < recursionLimit → un + 8 * k < cLine →
    (∀ v news' h' tk', P v news' → Fr h₀ L h' m → News h₀ L h' news' → R (.ok (.ret v)) { s with heap := h', toks := tk' }) →
    codeAny (model PySem.Challenge.rw_pq0950_01.prog w) (ktrTop dp un gd cn cs L a ccd cl outer) (.call (.ref f) ⟨vs, []⟩) R s
theorem ClC.toCl {w : World} {mean : ExcName → Option Value} {mg mb : Str → Option Value} {f : Addr} {k : Nat} {news : List (Addr × Obj)} {vs : List Value} {P : Value → List (Addr × Obj) → Prop} (C : ClC w mean mg mb f k news vs P) : Cl w mean mg mb f k news vs P :=
  fun dp un gd cn cs a ccd cl outer A₀ base h₀ L m s Q E B F X N T hk hd hu ret => wpAny_call (C dp un gd cn cs a ccd cl outer A₀ base h₀ L m s _ B F X N T hk hd hu fun v n h' tk' hP F' N' => ret v n h' tk' hP F' N')
def ClXC (w : World) (mean : ExcName → Option Value) (mg mb : Str → Option Value) (f : Addr) (k : Nat) (news : List (Addr × Obj)) (vs : List Value) (keep : List (Addr × Obj)) : Prop :=
  ∀ (dp un : Nat) (gd : Option (List Code)) (cn : Str) (cs : Scope) (a : Addr) (ccd : Value) (cl : List (Str × Addr)) (outer : List Env) (A₀ : Around) (base h₀ : Heap) (L : Addr) (m : Str → Option Value) (s : Shared) (R : Result → Shared → Prop),
    Below A₀ base outer h₀ → Fr h₀ L s.heap m → (Mine.hd.heap_39 w.params).In h₀ → News h₀ L s.heap news →
    Top Mine.hd.view_39 (looseW Mine.hd.view_39 [Str.ofString "PostError", Str.ofString "literal_octets", Str.ofString "string_octets", Str.ofString "astring_octets"]) mean mg mb h₀ →
    cs.kind = .function → dp + k < recursionLimit → un + 8 * k < cLine →
    (∀ e G h' tk', Fr h₀ L G m → RX base G (envX cn cs L a ccd cl :: outer) e keep h' → G.UpToSlots h' → R (.error (.ref e)) { s with heap := h', toks := tk' }) →
    codeAny (model PySem.Challenge.rw_pq0950_01.prog w) (ktrTop dp un gd cn cs L a ccd cl outer) (.call (.ref f) ⟨vs, []⟩) R s
theorem ClXC.toClX {w : World} {mean : ExcName → Option Value} {mg mb : Str → Option Value} {f : Addr} {k : Nat} {news keep : List (Addr × Obj)} {vs : List Value} (C : ClXC w mean mg mb f k news vs keep) : ClX w mean mg mb f k news vs keep :=
  fun dp un gd cn cs a ccd cl outer A₀ base h₀ L m s Q E B F X N T hk hd hu ret => wpAny_call (C dp un gd cn cs a ccd cl outer A₀ base h₀ L m s _ B F X N T hk hd hu fun e G h' tk' F' N' U => ret e G h' tk' F' N' U)
section
variable {w : World} {mean : ExcName → Option Value} {mg mb : Str → Option Value} {f : Addr} {k : Nat} {news : List (Addr × Obj)} {vs : List Value} {P : Value → List (Addr × Obj) → Prop}
    {dp un : Nat} {gd : Option (List Code)} {cn : Str} {cs : Scope} {a : Addr} {ccd : Value} {cl : List (Str × Addr)} {outer : List Env} {A₀ : Around} {base h₀ : Heap} {L : Addr} {m : Str → Option Value} {s : Shared} {Q E : Value → Shared → Prop} {x q : Addr} {keep : List (Addr × Obj)}
theorem ClC.useM (C : ClC w mean mg mb f k news (.ref x :: vs) P) (hq : (q, methodObj (.ref f) (.ref x)) ∈ news)
    (B : Below A₀ base outer h₀) (F : Fr h₀ L s.heap m) (X : (Mine.hd.heap_39 w.params).In h₀) (N : News h₀ L s.heap news)
    (T : Top Mine.hd.view_39 (looseW Mine.hd.view_39 [Str.ofString "PostError", Str.ofString "literal_octets", Str.ofString "string_octets", Str.ofString "astring_octets"]) mean mg mb h₀)
    (hk : cs.kind = .function) (hd : dp + k < recursionLimit) (hu : un + 8 * k < cLine)
    (ret : ∀ v news' h' tk', P v news' → Fr h₀ L h' m → News h₀ L h' news' → Q v { s with heap := h', toks := tk' }) :
    wpAny (model PySem.Challenge.rw_pq0950_01.prog w) (ktrTop dp un gd cn cs L a ccd cl outer) (call (.ref q) vs) Q E s :=
  call_meth N hq (C dp un gd cn cs a ccd cl outer A₀ base h₀ L m s _ B F X N T hk hd hu fun v n h' tk' hP F' N' => ret v n h' tk' hP F' N')
theorem ClXC.useM (C : ClXC w mean mg mb f k news (.ref x :: vs) keep) (hq : (q, methodObj (.ref f) (.ref x)) ∈ news)
    (B : Below A₀ base outer h₀) (F : Fr h₀ L s.heap m) (X : (Mine.hd.heap_39 w.params).In h₀) (N : News h₀ L s.heap news)
    (T : Top Mine.hd.view_39 (looseW Mine.hd.view_39 [Str.ofString "PostError", Str.ofString "literal_octets", Str.ofString "string_octets", Str.ofString "astring_octets"]) mean mg mb h₀)
    (hk : cs.kind = .function) (hd : dp + k < recursionLimit) (hu : un + 8 * k < cLine)
    (exc : ∀ e G h' tk', Fr h₀ L G m → RX base G (envX cn cs L a ccd cl :: outer) e keep h' → G.UpToSlots h' → E (.ref e) { s with heap := h', toks := tk' }) :
    wpAny (model PySem.Challenge.rw_pq0950_01.prog w) (ktrTop dp un gd cn cs L a ccd cl outer) (call (.ref q) vs) Q E s :=
  call_meth N hq (C dp un gd cn cs a ccd cl outer A₀ base h₀ L m s _ B F X N T hk hd hu fun e G h' tk' F' N' U => exc e G h' tk' F' N' U)
theorem ClC.useMWS {d : Addr} {rest : List (Addr × Obj)} {l : List UInt8} {td tp k1 k2 : Tok} {p : Int} {j : Nat} {r : Str}
    (C : ClC w mean mg mb f k ((x, instObj 506 d) :: (d, wd w l td p tp k1 k2) :: rest) (.ref x :: vs) (WR w l td k1 k2 x d rest (fun v => ∃ t, v = .str r t) j)) (hq : (q, methodObj (.ref f) (.ref x)) ∈ (x, instObj 506 d) :: (d, wd w l td p tp k1 k2) :: rest)
    (B : Below A₀ base outer h₀) (F : Fr h₀ L s.heap m) (X : (Mine.hd.heap_39 w.params).In h₀) (N : News h₀ L s.heap ((x, instObj 506 d) :: (d, wd w l td p tp k1 k2) :: rest))
    (T : Top Mine.hd.view_39 (looseW Mine.hd.view_39 [Str.ofString "PostError", Str.ofString "literal_octets", Str.ofString "string_octets", Str.ofString "astring_octets"]) mean mg mb h₀)
    (hk : cs.kind = .function) (hd : dp + k < recursionLimit) (hu : un + 8 * k < cLine)
    (ret : ∀ t tp' h' tk', Fr h₀ L h' m → News h₀ L h' ((x, instObj 506 d) :: (d, wd w l td j tp' k1 k2) :: rest) → Q (.str r t) { s with heap := h', toks := tk' }) :
    wpAny (model PySem.Challenge.rw_pq0950_01.prog w) (ktrTop dp un gd cn cs L a ccd cl outer) (call (.ref q) vs) Q E s :=
  C.useM hq B F X N T hk hd hu fun _ _ h' tk' ⟨⟨t, e1⟩, tp', e2⟩ F' N' => e1 ▸ ret t tp' h' tk' F' (e2 ▸ N')
end
theorem strs_len {vs : List Value} {ys : List Str} (h : StrsAre vs ys) : vs.length = ys.length := by
  induction h with
  | nil => rfl
  | cons x u h ih => simp [ih]
theorem drop_end {l r : List UInt8} {c : UInt8} {i : Nat} (h : l.drop i = c :: r) : l.length - r.length = i + 1 := by
  have := congrArg List.length h
  simp at this
  omega
theorem nm1 {h₀ h : Heap} {L : Addr} {a : Addr × Obj} {r : List (Addr × Obj)} (_ : News h₀ L h (a :: r)) : ∃ z : Addr, z = a.1 := ⟨_, rfl⟩
theorem nm2 {h₀ h : Heap} {L : Addr} {a b : Addr × Obj} {r : List (Addr × Obj)} (_ : News h₀ L h (a :: b :: r)) : ∃ z : Addr, z = b.1 := ⟨_, rfl⟩
theorem nm3 {h₀ h : Heap} {L : Addr} {a b c : Addr × Obj} {r : List (Addr × Obj)} (_ : News h₀ L h (a :: b :: c :: r)) : ∃ z : Addr, z = c.1 := ⟨_, rfl⟩
theorem News.unrot1 {h₀ h : Heap} {L : Addr} {a x d : Addr × Obj} {r : List (Addr × Obj)} (N : News h₀ L h (x :: d :: a :: r)) : News h₀ L h (a :: x :: d :: r) := fun p hp => N p (by
  simp only [List.mem_cons] at hp ⊢
  rcases hp with h | h | h | h <;> simp [h])
section
open LCg
variable {prog : Program} {w : World} {A : Around} {E : Value → Shared → Prop} {s : Shared} {h₀ : Heap} {L : Addr} {m : Str → Option Value} {env : Env} {elt : Expr} {x : Str} {scope : Scope} {cl : List (Str × Addr)} {iter : Expr} {px pos : Pos} {Q : Value → Shared → Prop}
def SrcL (prog : Program) (w : World) (A : Around) (h₀ : Heap) (L : Addr) (m : Str → Option Value) (env : Env) (elt : Expr) (x : Str) (scope : Scope) (cl : List (Str × Addr)) (Q : Value → Shared → Prop) (xv : Value) (s₁ : Shared) : Prop :=
  ∃ (a : Addr) (vs : List Value) (nn : Nat) (news : List (Addr × Obj)), xv = .ref a ∧ A.handled = none ∧ Fr h₀ L s₁.heap m ∧ News h₀ L s₁.heap news ∧ (a, listOf vs.toArray nn) ∈ news ∧ vs.length ≤ sizeLine ∧
    ∀ s₂ : Shared, (∃ h, s₂ = { s₁ with heap := h }) → CompRest prog w A h₀ L m env elt x scope cl s₂ (fun nw => (a, listOf vs.toArray nn) ∈ nw) (fun i v => vs[i]? = some v) (FinE h₀ L m s₂ Q) vs.length 0 [] news
theorem ListComp_L (_F₀ : Fr h₀ L s.heap m) (hclos : closureFor scope env = pure cl) (hcell : ∀ y ∈ scope.names, y.2 ≠ .cell) (hkind : scope.kind = .function)
    (hnames : ∀ y ∈ scope.names, y.2 = .local → scope.names.lookup y.1 = some .local) (hx : scope.names.lookup x = some .local)
    (h : wpAny (model prog w) A (eval iter env) (SrcL prog w A h₀ L m env elt x scope cl Q) E s)
    (hs : ∀ x, foldedSetIterable iter env x = pure x := by intro _; rfl) :
    wpAny (model prog w) A (eval (.ListComp elt [⟨.Name x px, iter, [], 0⟩] scope pos) env) Q E s := by
  rw [eval_ListComp]
  refine wpAny_comprehension_free (use := none) rfl hs hclos hkind hnames (wpAny_mono h (fun xv s₁ h₁ => ?_) fun _ _ e => e)
  obtain ⟨a, vs, nn, news, rfl, hh, F, N, ha, hsz, R⟩ := h₁
  have hls : s₁.heap.IsList a vs.toArray := News.isList N ha
  have hne : a ≠ s₁.heap.objs.size := Nat.ne_of_lt (Heap.lt_size (N _ ha).1)
  refine wpAny_pyIter_list hls ?_
  have W := Walks.list (prog := prog) (w := w) hh s₁.heap.objs.size a hne vs.toArray
  have hlen : vs.toArray.size = vs.length := List.size_toArray
  rw [hlen] at W
  have e2 : (fun (i : Nat) (v : Value) => vs.toArray[i]? = some v) = fun i v => vs[i]? = some v := by
    funext i v; simp
  rw [e2] at W
  have up : ∀ c o, s₁.heap.get? c = some o → (s₁.heap.push { cls := .type "list_iterator", data := .fields #[.ref a, .int 0 0] }).get? c = some o := fun c o e => Heap.get?_push_of_some _ e
  refine block_U (S := fun nw => (a, listOf vs.toArray nn) ∈ nw) W hsz (fun i h st => by obtain ⟨⟨o, e, _⟩, _⟩ := st; exact ⟨o, e⟩)
    (fun i h h' o nw st e e' _ N' hS => by obtain ⟨⟨o', q, r⟩, _⟩ := st; rw [e] at q; cases q; exact ⟨⟨o, e', r⟩, News.isList N' hS⟩) hcell hkind hx ⟨⟨_, Heap.get?_push_size _ rfl, rfl, rfl⟩, hls.at fun o e => Heap.get?_push_of_some _ e⟩ (fun c hc => ?_)
    (F.keeps up) (N.grown up) (Nat.ne_of_lt F.ns.lt) (next_is_new F) (fun p hp => Nat.ne_of_lt (Heap.lt_size (N p hp).1)) ha (R _ ⟨_, rfl⟩) ?_
  · show c < (s₁.heap.push _).objs.size
    rw [Heap.size_push]
    rcases List.mem_cons.mp hc with rfl | hc
    · exact Nat.lt_succ_self _
    · rw [List.mem_singleton.mp hc]
      exact Nat.lt_succ_of_lt (Heap.lt_size (N _ ha).1)
  · intro D C h tk m' ys news' F' N' o1 hn hC₀ hD₀ hCL hDL hCD offC fin
    refine ⟨m', hn, fun h'' hs'' => fin D h'' tk (F'.change hs'' hCL hC₀) (fun p hp => ?_) o1⟩
    refine ⟨hs''.extBut _ _ ?_ (N' p hp).1, (N' p hp).2⟩
    rcases List.mem_cons.mp hp with rfl | hp
    · exact Ne.symm hCD
    · exact offC p hp
end
abbrev SW : Str := Str.ofString "MESSAGES UIDNEXT UIDVALIDITY UNSEEN DELETED SIZE RECENT HIGHESTMODSEQ"
abbrev SWs : List Str := [Str.ofString "MESSAGES", Str.ofString "UIDNEXT", Str.ofString "UIDVALIDITY", Str.ofString "UNSEEN", Str.ofString "DELETED", Str.ofString "SIZE", Str.ofString "RECENT", Str.ofString "HIGHESTMODSEQ"]
abbrev SWc : List Str := [{ cps := #[77, 69, 83, 83, 65, 71, 69, 83] }, { cps := #[85, 73, 68, 78, 69, 88, 84] }, { cps := #[85, 73, 68, 86, 65, 76, 73, 68, 73, 84, 89] }, { cps := #[85, 78, 83, 69, 69, 78] }, { cps := #[68, 69, 76, 69, 84, 69, 68] }, { cps := #[83, 73, 90, 69] }, { cps := #[82, 69, 67, 69, 78, 84] }, { cps := #[72, 73, 71, 72, 69, 83, 84, 77, 79, 68, 83, 69, 81] }]
theorem SW_eq : SWs = SWc := by decide +kernel
theorem strs_at {vs : List Value} {ys : List Str} (h : StrsAre vs ys) {i : Nat} {v : Value} (hv : vs[i]? = some v) : ∃ y t, ys[i]? = some y ∧ v = .str y t := by
  induction h generalizing i with
  | nil => simp at hv
  | cons x u h ih =>
    cases i with
    | zero => simp at hv; exact ⟨x, u, rfl, hv.symm⟩
    | succ i => exact ih (by simpa using hv)
theorem News.pickW {h₀ h : Heap} {L : Addr} {t a ls x d q c1 c2 : Addr × Obj} {r : List (Addr × Obj)} (N : News h₀ L h (t :: a :: ls :: x :: d :: q :: c1 :: c2 :: r)) : News h₀ L h (t :: x :: d :: r) := fun p hp => N p (by
  simp only [List.mem_cons] at hp ⊢
  rcases hp with h | h | h | h <;> simp [h])
theorem two_set {a b : Str} (hab : a ≠ b) (m : Str → Option Value) (v u u' v' : Option Value) :
    (fun y => if y = a then v else if y = b then u else (if y = b then u' else if y = a then v' else m y)) = fun y => if y = b then u else if y = a then v else m y := by
  funext y
  by_cases h1 : y = a
  · subst h1; simp [hab]
  · by_cases h2 : y = b
    · simp [h2, Ne.symm hab]
    · simp [h1, h2]
theorem two_set0 {a b : Str} (hab : a ≠ b) (m : Str → Option Value) {v : Option Value} (h : m a = v) : m = fun y => if y = b then m b else if y = a then v else m y := by
  funext y
  by_cases h1 : y = b
  · simp [h1]
  · by_cases h2 : y = a
    · subst h2; simp [h, hab]
    · simp [h1, h2]
theorem plain_le {c : UInt8} (h : isPlain c.toNat = true) : 32 ≤ c.toNat ∧ c.toNat ≤ 126 := by
  simp only [isPlain, decide_eq_true_eq] at h
  omega
theorem nmF {h₀ h : Heap} {L : Addr} {m : Str → Option Value} (_ : Fr h₀ L h m) : ∃ M : Str → Option Value, M = m := ⟨_, rfl⟩
theorem u8_back (c : UInt8) : ((c.toNat : Int)).toNat.toUInt8 = c := by simp
theorem u8_eq {c : UInt8} {n : Nat} (hn : n < 256) : ((c.toNat : Int) = (n : Int)) ↔ c = n.toUInt8 := by
  constructor
  · intro h
    apply UInt8.toNat_inj.mp
    have : c.toNat = n := by omega
    rw [this]; simp; omega
  · intro h
    subst h
    simp; omega
def firstP (x : Str) : Str × Str := if Txt.find x (Str.ofString "/") < 0 then (x, Str.ofString "") else (Txt.slice x none (some (Txt.find x (Str.ofString "/"))), Txt.slice x (some (Txt.find x (Str.ofString "/"))) none)
theorem drop_toNat {l r : List UInt8} {pos k : Nat} (h : l.drop (pos + k) = r) : l.drop ((pos : Int) + (k : Int)).toNat = r := by
  rw [show ((pos : Int) + (k : Int)).toNat = pos + k by omega]; exact h
theorem drop_toNat0 {l r : List UInt8} {pos : Nat} (h : l.drop pos = r) : l.drop ((pos : Int)).toNat = r := h
theorem drop_toNat1 {l r : List UInt8} {pos : Nat} (h : l.drop (pos + 1) = r) : l.drop ((pos : Int) + 1).toNat = r := by
  rw [show ((pos : Int) + 1).toNat = pos + 1 by omega]; exact h
def qItem (c : UInt8) : List UInt8 := if c = 34 ∨ c = 92 then [92, c] else [c]
def quoteB (l : List UInt8) : List UInt8 := [34] ++ l.flatMap qItem ++ [34]
section
variable {prog : Program} {w : World} {A : Around} {E : Value → Shared → Prop} {s : Shared} {a b : Int} {t u : Tok} {Q : Value → Shared → Prop}
theorem cmpEq_t (h : a = b) (q : Q (.bool true) s) : wpAny (model prog w) A (compareOp .Eq (.int a t) (.int b u)) Q E s := PyProof.Rows.eq_int (by rw [beq_iff_eq.mpr h]; exact q)
theorem cmpEq_f (h : a ≠ b) (q : Q (.bool false) s) : wpAny (model prog w) A (compareOp .Eq (.int a t) (.int b u)) Q E s := PyProof.Rows.eq_int (by rw [beq_eq_false_iff_ne.mpr h]; exact q)
theorem cmpNe_t (h : a ≠ b) (q : Q (.bool true) s) : wpAny (model prog w) A (compareOp .NotEq (.int a t) (.int b u)) Q E s := PyProof.Rows.ne_int (by rw [show (a != b) = true from bne_iff_ne.mpr h]; exact q)
theorem cmpNe_f (h : a = b) (q : Q (.bool false) s) : wpAny (model prog w) A (compareOp .NotEq (.int a t) (.int b u)) Q E s := PyProof.Rows.ne_int (by rw [show (a != b) = false from by rw [h]; simp]; exact q)
theorem cmpLt_t (h : a < b) (q : Q (.bool true) s) : wpAny (model prog w) A (compareOp .Lt (.int a t) (.int b u)) Q E s := PyProof.Rows.lt_int (by rw [decide_eq_true h]; exact q)
theorem cmpLt_f (h : ¬ a < b) (q : Q (.bool false) s) : wpAny (model prog w) A (compareOp .Lt (.int a t) (.int b u)) Q E s := PyProof.Rows.lt_int (by rw [decide_eq_false h]; exact q)
theorem cmpGt_t (h : b < a) (q : Q (.bool true) s) : wpAny (model prog w) A (compareOp .Gt (.int a t) (.int b u)) Q E s := PyProof.Rows.gt_int (by rw [decide_eq_true h]; exact q)
theorem cmpGt_f (h : ¬ b < a) (q : Q (.bool false) s) : wpAny (model prog w) A (compareOp .Gt (.int a t) (.int b u)) Q E s := PyProof.Rows.gt_int (by rw [decide_eq_false h]; exact q)
end
theorem crlf_no {c : UInt8} (h1 : c.toNat ≠ 13) (h2 : c.toNat ≠ 10) : (#[13, 10] : Array UInt8).contains ((c.toNat : Int)).toNat.toUInt8 = false := by
  rw [u8_back]
  have a1 : ¬ c = 13 := fun e => h1 (by rw [e]; rfl)
  have a2 : ¬ c = 10 := fun e => h2 (by rw [e]; rfl)
  simp [a1, a2]
theorem ne3 {x d S : Addr} {o1 o2 o3 : Obj} {rest : List (Addr × Obj)} (h : ∀ p ∈ (x, o1) :: (d, o2) :: rest, p.1 ≠ S) : (∀ p ∈ (x, o1) :: (d, o3) :: rest, p.1 ≠ S) ∧ (@Ne Nat x S) ∧ (@Ne Nat d S) ∧ (∀ p ∈ rest, p.1 ≠ S) := by
  have h1 := h _ (.head _)
  have h2 := h _ (.tail _ (.head _))
  have h3 : ∀ p ∈ rest, p.1 ≠ S := fun p hp => h p (.tail _ (.tail _ hp))
  refine ⟨fun p hp => ?_, h1, h2, h3⟩
  rcases List.mem_cons.mp hp with rfl | hp
  · exact h1
  · rcases List.mem_cons.mp hp with rfl | hp
    · exact h2
    · exact h3 p hp
section
variable {prog : Program} {w : World} {A : Around} {E : Value → Shared → Prop} {s : Shared} {b : Array UInt8} {t u : Tok} {i : Int} {Q : Value → Shared → Prop} {h₀ : Heap} {L : Addr} {news : List (Addr × Obj)}
theorem in_bytes_f (h0 : 0 ≤ i) (h1 : i < 256) (hc : b.contains i.toNat.toUInt8 = false) (h : Q (.bool false) s) : wpAny (model prog w) A (compareOp .In (.int i u) (.bytes b t)) Q E s := in_bytes h0 h1 (by rw [hc]; exact h)
theorem ba_bytesN {S : Addr} {b : List UInt8} (N : News h₀ L s.heap news) (hm : (S, bao b) ∈ news) (hz : b.length ≤ 16777216)
    (h : ∀ t k, Q (.bytes b.toArray t) { s with toks := k }) : wpAny (model prog w) A (call (.type "bytes") [.ref S]) Q E s := ba_bytes (N _ hm).1 hz h
end
section
variable {prog : Program} {w : World} {A : Around} {E : Value → Shared → Prop} {s : Shared} {h₀ : Heap} {L : Addr} {news : List (Addr × Obj)}
theorem ba_getAppend {S : Addr} {b : List UInt8} {pl : Sem Bool} {Q : Value × List Value → Shared → Prop} (N : News h₀ L s.heap news) (hm : (S, bao b) ∈ news)
    (h : Q (.builtin "bytearray.append", [.ref S]) s) : wpAny (model prog w) A (getMethod (.ref S) (PySem.Str.ofString "append") pl) Q E s :=
  getMethod_builtin ⟨_, (N _ hm).1, rfl⟩ ba_attrs ba_slot_append ba_type_append (fun a e => by cases e; exact ⟨_, (N _ hm).1, rfl⟩) h
end
theorem neXd {x d S : Addr} {o1 o2 : Obj} {rest : List (Addr × Obj)} (hx : @Ne Nat x S) (hd : @Ne Nat d S) (hr : ∀ p ∈ rest, p.1 ≠ S) : ∀ p ∈ (x, o1) :: (d, o2) :: rest, p.1 ≠ S := fun p hp => by
  rcases List.mem_cons.mp hp with rfl | hp
  · exact hx
  · rcases List.mem_cons.mp hp with rfl | hp
    · exact hd
    · exact hr p hp
theorem News.toCast {w : World} {h₀ h : Heap} {L : Addr} {x d S : Addr} {o1 : Obj} {o3 : Obj} {l : List UInt8} {td tp k1 k2 : Tok} {pos j : Nat} {rest : List (Addr × Obj)} (N : News h₀ L h ((x, o1) :: (d, wd w l td ((pos : Int) + 1) tp k1 k2) :: (S, o3) :: rest)) (e : pos + 1 = j) :
    News h₀ L h ((x, o1) :: (d, wd w l td ((j : Nat) : Int) tp k1 k2) :: rest) := by
  subst e
  exact fun p hp => N p (by
    rcases List.mem_cons.mp hp with h | hp
    · exact h ▸ .head _
    · rcases List.mem_cons.mp hp with h | hp
      · exact h ▸ .tail _ (.head _)
      · exact .tail _ (.tail _ (.tail _ hp)))
section
variable {w : World} {h₀ h : Heap} {L : Addr} {x d S : Addr} {o1 o3 : Obj} {l : List UInt8} {td tp k1 k2 : Tok} {pos j : Nat} {rest : List (Addr × Obj)}
theorem News.cast2 (N : News h₀ L h ((S, o3) :: (x, o1) :: (d, wd w l td ((pos : Int) + 1 + 1) tp k1 k2) :: rest)) : News h₀ L h ((S, o3) :: (x, o1) :: (d, wd w l td ((pos + 2 : Nat) : Int) tp k1 k2) :: rest) := by
  rw [show ((pos + 2 : Nat) : Int) = (pos : Int) + 1 + 1 by omega]; exact N
theorem News.cast1 (N : News h₀ L h ((S, o3) :: (x, o1) :: (d, wd w l td ((pos : Int) + 1) tp k1 k2) :: rest)) : News h₀ L h ((S, o3) :: (x, o1) :: (d, wd w l td ((pos + 1 : Nat) : Int) tp k1 k2) :: rest) := by
  rw [show ((pos + 1 : Nat) : Int) = (pos : Int) + 1 by omega]; exact N
end
theorem method_callN {prog : Program} {w : World} {A : Around} {s : Shared} {q : Addr} {f : Addr} {self : Value} {pos : List Value} {kw : List (Str × Value)} {R : Flow → Shared → Prop} (ho : s.heap.get? q = some (methodObj (.ref f) self))
    (h : codeN (model prog w) A (.call (.ref f) ⟨self :: pos, kw⟩) R s) : codeN (model prog w) A (.call (.ref q) ⟨pos, kw⟩) R s := by
  obtain ⟨hh, g, dr, t, os⟩ := s
  refine codeN_of_tree ?_
  show wpN _ _ (callAny (.ref q) _) _ _
  refine wpN_of ?_
  dsimp only at ho
  refine nd_load ho ?_
  exact wpAny_pure ⟨rfl, rfl, h⟩
def ClNC (w : World) (mean : ExcName → Option Value) (mg mb : Str → Option Value) (f : Addr) (k : Nat) (news : List (Addr × Obj)) (vs : List Value) (P : Value → List (Addr × Obj) → Prop) : Prop :=
  ∀ (dp un : Nat) (cn : Str) (cs : Scope) (a : Addr) (ccd : Value) (cl : List (Str × Addr)) (outer : List Env) (A₀ : Around) (base h₀ : Heap) (L : Addr) (m : Str → Option Value) (s : Shared) (R : Flow → Shared → Prop),
    Below A₀ base outer h₀ → Fr h₀ L s.heap m → (Mine.hd.heap_39 w.params).In h₀ → News h₀ L s.heap news →
    Top Mine.hd.view_39 (looseW Mine.hd.view_39 [Str.ofString "PostError", Str.ofString "literal_octets", Str.ofString "string_octets", Str.ofString "astring_octets"]) mean mg mb h₀ →
    cs.kind = .function → dp + k < recursionLimit → un + 8 * k < cLine →
    (∀ v news' h' tk', P v news' → Fr h₀ L h' m → News h₀ L h' news' → R (.ret v) { s with heap := h', toks := tk' }) →
    codeN (model PySem.Challenge.rw_pq0950_01.prog w) (ktrTop dp un (some []) cn cs L a ccd cl outer) (.call (.ref f) ⟨vs, []⟩) R s
section
variable {w : World} {mean : ExcName → Option Value} {mg mb : Str → Option Value} {f : Addr} {k : Nat} {news : List (Addr × Obj)} {vs : List Value} {P : Value → List (Addr × Obj) → Prop}
    {dp un : Nat} {cn : Str} {cs : Scope} {a : Addr} {ccd : Value} {cl : List (Str × Addr)} {outer : List Env} {A₀ : Around} {base h₀ : Heap} {L : Addr} {m : Str → Option Value} {s : Shared} {Q : Value → Shared → Prop} {x q : Addr}
theorem ClC.toNC (C : ClC w mean mg mb f k news vs P) : ClNC w mean mg mb f k news vs P :=
  fun dp un cn cs a ccd cl outer A₀ base h₀ L m s R B F X N T hk hd hu ret => codeN_of (C dp un (some []) cn cs a ccd cl outer A₀ base h₀ L m s _ B F X N T hk hd hu fun v n h' tk' hP F' N' => ret v n h' tk' hP F' N')
theorem ClNC.toN (C : ClNC w mean mg mb f k news vs P) : ClN w mean mg mb f k news vs P :=
  fun dp un cn cs a ccd cl outer A₀ base h₀ L m s Q B F X N T hk hd hu ret => wpN_call (C dp un cn cs a ccd cl outer A₀ base h₀ L m s _ B F X N T hk hd hu fun v n h' tk' hP F' N' => ret v n h' tk' hP F' N')
theorem ClNC.useM (C : ClNC w mean mg mb f k news (.ref x :: vs) P) (hq : (q, methodObj (.ref f) (.ref x)) ∈ news)
    (B : Below A₀ base outer h₀) (F : Fr h₀ L s.heap m) (X : (Mine.hd.heap_39 w.params).In h₀) (N : News h₀ L s.heap news)
    (T : Top Mine.hd.view_39 (looseW Mine.hd.view_39 [Str.ofString "PostError", Str.ofString "literal_octets", Str.ofString "string_octets", Str.ofString "astring_octets"]) mean mg mb h₀)
    (hk : cs.kind = .function) (hd : dp + k < recursionLimit) (hu : un + 8 * k < cLine)
    (ret : ∀ v news' h' tk', P v news' → Fr h₀ L h' m → News h₀ L h' news' → Q v { s with heap := h', toks := tk' }) :
    wpN (model PySem.Challenge.rw_pq0950_01.prog w) (ktrTop dp un (some []) cn cs L a ccd cl outer) (call (.ref q) vs) Q s :=
  wpN_call (method_callN (N _ hq).1 (C dp un cn cs a ccd cl outer A₀ base h₀ L m s _ B F X N T hk hd hu fun v n h' tk' hP F' N' => ret v n h' tk' hP F' N'))
def WY (w : World) (l : List UInt8) (td k1 k2 : Tok) (x d : Addr) (rest : List (Addr × Obj)) (b : List UInt8) (j : Nat) (v : Value) (news' : List (Addr × Obj)) : Prop := ∃ t tp', v = .bytes b.toArray t ∧ news' = (x, instObj 506 d) :: (d, wd w l td (j : Int) tp' k1 k2) :: rest
end
theorem astring_head {aw r : List UInt8} (h0 : 0 < aw.length) (ha : ∀ c ∈ aw, isAstring c.toNat = true) : hdB (aw ++ r) ≠ 34 ∧ hdB (aw ++ r) ≠ 123 := by
  cases aw with
  | nil => simp at h0
  | cons c aw =>
    have h := ha c (.head _)
    show ((c.toNat : Int)) ≠ 34 ∧ ((c.toNat : Int)) ≠ 123
    constructor
    · intro e
      rw [(u8_eq (n := 34) (by decide)).mp e] at h
      exact absurd h (by decide +kernel)
    · intro e
      rw [(u8_eq (n := 123) (by decide)).mp e] at h
      exact absurd h (by decide +kernel)
theorem pattern_head {aw r : List UInt8} (h0 : 0 < aw.length) (ha : ∀ c ∈ aw, isPattern c.toNat = true) : hdB (aw ++ r) ≠ 34 ∧ hdB (aw ++ r) ≠ 123 := by
  cases aw with
  | nil => simp at h0
  | cons c aw =>
    have h := ha c (.head _)
    show ((c.toNat : Int)) ≠ 34 ∧ ((c.toNat : Int)) ≠ 123
    constructor
    · intro e
      rw [(u8_eq (n := 34) (by decide)).mp e] at h
      exact absurd h (by decide +kernel)
    · intro e
      rw [(u8_eq (n := 123) (by decide)).mp e] at h
      exact absurd h (by decide +kernel)
theorem bytes_has_bytes : typeLookup (.type "bytes") "__bytes__" = pure (some (.builtin "bytes.__bytes__")) := by rw [typeLookup_type, builtinLookup_eq_fast]; kernel_rfl
section
variable {prog : Program} {w : World} {A : Around} {E : Value → Shared → Prop} {s : Shared}
theorem bytes_bytes {b : Array UInt8} {t : Tok} {Q : Value → Shared → Prop} (h : Q (.bytes b t) s) : wpAny (model prog w) A (call (.type "bytes") [.bytes b t]) Q E s := by
  have hT : s.TypeIs (.bytes b t) "bytes" := PySem.W.typeIs_bytes _ _ _
  refine callType_codes (Q₁ := fun obj s₁ => s₁.TypeIs obj "bytes" ∧ Q obj s₁) PySem.F.bm_called (PySem.F.bm_typeCall _) PySem.F.entry_object_init ?_ fun obj s₁ h₁ => ?_
  · refine codeAny_of_tree ?_
    show wpAny _ A.in1.in1 (do checkBuiltinCall "bytes.__new__" ⟨[.type "bytes", .bytes b t], []⟩; again (.builtin "bytes.__new__" ⟨[.type "bytes", .bytes b t], []⟩)) _ _ s
    refine wpAny_bind (wpAny_of_eq (PySem.F.bm_newCall _) (wpAny_pure ⟨plainId_quiet PySem.F.bm_plain _, codeAny_builtin PySem.F.bm_entry ?_⟩))
    rw [Around.under_plainId PySem.F.bm_plain _]
    unfold Builtin.«bytes.__new__»
    refine wpAny_bind (wpAny_of_eq (a := true) rfl ?_)
    rw [if_neg (by decide)]
    refine wpAny_bind (wpAny_of_eq PySem.F.bm_sub ?_)
    rw [if_neg (by decide)]
    refine wpAny_bind (wpAny_of_eq (PySem.F.bm_bind _) ?_)
    refine wpAny_bind (wpAny_of_eq (a := ()) rfl ?_)
    refine wpAny_bind (wpAny_of_eq (a := ()) rfl ?_)
    rw [if_neg (by decide)]
    refine wpAny_bind (wpAny_specialOf hT bytes_has_bytes ?_)
    dsimp only
    refine wpAny_bind (wpAny_rule ?_)
    refine wpAny_bind (wpAny_of_eq (a := Value.type "bytes") rfl ?_)
    rw [if_pos (by decide)]
    show wpAny _ _ (if (Value.type "bytes" == Value.type "bytes") = true then _ else _) _ _ _
    rw [if_pos (by decide)]
    first
      | exact wpAny_pure ⟨hT, h⟩
      | exact wpAny_bind (wpAny_pure (wpAny_pure ⟨hT, h⟩))
  · exact ⟨h₁.1, PySem.F.args_object_init_2 obj _, object_init_meets PySem.F.bm_called.init.lookup PySem.F.bm_called.made (by decide) prog w A.in1 _ s₁ ⟨h₁.1, rfl, h₁.2⟩⟩
end
theorem Cl.useWYW {w : World} {mean : ExcName → Option Value} {mg mb : Str → Option Value} {f : Addr} {k : Nat} {vs : List Value}
    {dp un : Nat} {gd : Option (List Code)} {cn : Str} {cs : Scope} {a : Addr} {ccd : Value} {cl : List (Str × Addr)} {outer : List Env} {A₀ : Around} {base h₀ : Heap} {L : Addr} {m : Str → Option Value} {s : Shared} {Q E : Value → Shared → Prop} {x d : Addr} {rest : List (Addr × Obj)} {l : List UInt8} {td tp k1 k2 : Tok} {p : Int} {j : Nat} {r : List UInt8}
    (C : Cl w mean mg mb f k ((x, instObj 506 d) :: (d, wd w l td p tp k1 k2) :: rest) vs (WY w l td k1 k2 x d rest r j))
    (B : Below A₀ base outer h₀) (F : Fr h₀ L s.heap m) (X : (Mine.hd.heap_39 w.params).In h₀) (N : News h₀ L s.heap ((x, instObj 506 d) :: (d, wd w l td p tp k1 k2) :: rest))
    (T : Top Mine.hd.view_39 (looseW Mine.hd.view_39 [Str.ofString "PostError", Str.ofString "literal_octets", Str.ofString "string_octets", Str.ofString "astring_octets"]) mean mg mb h₀)
    (hk : cs.kind = .function) (hd : dp + k < recursionLimit) (hu : un + 8 * k < cLine)
    (ret : ∀ t tp' h' tk', Fr h₀ L h' m → News h₀ L h' ((x, instObj 506 d) :: (d, wd w l td j tp' k1 k2) :: rest) → Q (.bytes r.toArray t) { s with heap := h', toks := tk' }) : wpAny (model PySem.Challenge.rw_pq0950_01.prog w) (ktrTop dp un gd cn cs L a ccd cl outer) (call (.ref f) vs) Q E s :=
  C.use B F X N T hk hd hu fun _ _ h' tk' ⟨t, tp', e1, e2⟩ F' N' => e1 ▸ ret t tp' h' tk' F' (e2 ▸ N')
def NormP (cs0 : List Nat) (y : Str) : Prop := ∃ hs rs : List Nat, hs.length ≤ 65536 ∧ rs.length ≤ 65536 ∧ firstP (mkS cs0) = (mkS hs, mkS rs) ∧ (if mkS (hs.map upC) = Str.ofString "INBOX" then Str.ofString "INBOX" ++ mkS rs else mkS cs0) = y
def StrV (y : Str) (v : Value) : Prop := ∃ t, v = .str y t
theorem bools_of : ∀ {ys : List Value} {ns : List Bool}, ys.length = ns.length → (∀ (i : Nat) (y : Value), ys[i]? = some y → ∃ n, ns[i]? = some n ∧ y = Value.bool n) → PyProof.Rows.LSm.BoolsAre ys ns
  | [], [], _, _ => .nil
  | y :: ys, n :: ns, hl, h => by
    obtain ⟨n', e1, e2⟩ := h 0 y rfl
    simp only [List.getElem?_cons_zero, Option.some.injEq] at e1
    subst e1 e2
    exact .cons _ (bools_of (by simpa using hl) fun i z hz => h (i + 1) z (by simpa using hz))
  | [], _ :: _, hl, _ => by simp at hl
  | _ :: _, [], hl, _ => by simp at hl
abbrev nilB : List UInt8 := [110, 105, 108]
theorem all_map_true (l : List UInt8) : (l.map fun _ => true).all id = true := by simp
theorem all_map_eq (l : List UInt8) (f : UInt8 → Bool) : (l.map f).all id = l.all f := by simp [List.all_map, Function.comp_def]
def AsO (l o : List UInt8) : Prop := l.length ≤ 72 ∧ (∀ c ∈ l, isPlain c.toNat = true) ∧
  ((0 < l.length ∧ (∀ c ∈ l, isAstring c.toNat = true) ∧ lowerB l ≠ nilB ∧ o = l) ∨ (l.length = 0 ∧ o = quoteB l) ∨ (0 < l.length ∧ lowerB l ≠ nilB ∧ (l.all fun c => isAstring c.toNat) = false ∧ o = quoteB l))
def PatO (l o : List UInt8) : Prop := l.length ≤ 72 ∧ (∀ c ∈ l, isPlain c.toNat = true) ∧ 0 < l.length ∧ lowerB l ≠ nilB ∧ (((l.all fun c => isPattern c.toNat) = true ∧ o = l) ∨ ((l.all fun c => isPattern c.toNat) = false ∧ o = quoteB l))
def PlainS (cs : List Nat) : Prop := cs.length ≤ 1000 ∧ ∀ c ∈ cs, isPlain (c : Int) = true ∧ c ≠ 38
section
variable {prog : Program} {w : World} {A : Around} {E : Value → Shared → Prop} {s : Shared} {t u : Tok} {Q : Value → Shared → Prop}
theorem add_Y {a c : List UInt8} (hsz : a.length + c.length ≤ 16777216) (h : ∀ t' k, Q (.bytes (a ++ c).toArray t') { s with toks := k }) : wpAny (model prog w) A (binaryOp .Add (.bytes a.toArray t) (.bytes c.toArray u)) Q E s := by
  refine PySem.W.KBy.add_bytes (by simpa using hsz) ?_
  rw [List.append_toArray]
  exact h
end
theorem quote_len (l : List UInt8) : (quoteB l).length ≤ 2 * l.length + 2 := by
  have : (l.flatMap qItem).length ≤ 2 * l.length := by
    induction l with
    | nil => simp
    | cons c l ih =>
      rw [List.flatMap_cons, List.length_append, List.length_cons]
      have : (qItem c).length ≤ 2 := by unfold qItem; split <;> simp
      omega
  unfold quoteB
  simp only [List.length_append, List.length_cons, List.length_nil]
  omega
theorem AsO_len {l o : List UInt8} (h : AsO l o) : o.length ≤ 146 := by
  obtain ⟨h1, _, h | h | h⟩ := h
  · rw [h.2.2.2]; omega
  · rw [h.2]; have := quote_len l; omega
  · rw [h.2.2.2]; have := quote_len l; omega
theorem PatO_len {l o : List UInt8} (h : PatO l o) : o.length ≤ 146 := by
  obtain ⟨h1, _, _, _, h | h⟩ := h
  · rw [h.2]; omega
  · rw [h.2]; have := quote_len l; omega
def joinN : List (List Nat) → List Nat
  | [] => []
  | w :: ws => w ++ ws.flatMap fun v => 32 :: v
theorem glue_fold (ws : List (List Nat)) : ∀ acc : List Nat, (ws.map mkS).foldl (fun (acc : Array Nat) (p : Str) => acc ++ (Str.ofString " ").cps ++ p.cps) acc.toArray = (acc ++ ws.flatMap fun v => 32 :: v).toArray := by
  have hsp : (Str.ofString " ").cps = #[32] := by decide +kernel
  induction ws with
  | nil => intro acc; simp
  | cons w ws ih =>
    intro acc
    rw [List.map_cons, List.foldl_cons, hsp]
    have e : acc.toArray ++ #[32] ++ (mkS w).cps = (acc ++ 32 :: w).toArray := by simp
    rw [e]
    have := ih (acc ++ 32 :: w)
    rw [hsp] at this
    rw [this]
    simp
theorem join_words (cw : List (List Nat)) : Txt.join (Str.ofString " ") (cw.map mkS) = mkS (joinN cw) := by
  cases cw with
  | nil => rfl
  | cons w ws =>
    show Builtin.Str.glued _ _ = _
    unfold Builtin.Str.glued
    exact congrArg Str.mk (glue_fold ws w)
theorem mk_lens (cw : List (List Nat)) : ((cw.map mkS).map (·.length)) = cw.map List.length := by
  rw [List.map_map]
  apply List.map_congr_left
  intro w _
  exact List.size_toArray
theorem join_len (cw : List (List Nat)) : (joinN cw).length ≤ (cw.map List.length).sum + cw.length := by
  cases cw with
  | nil => simp [joinN]
  | cons w ws =>
    have : (ws.flatMap fun v => 32 :: v).length = (ws.map List.length).sum + ws.length := by
      induction ws with
      | nil => rfl
      | cons v ws ih => simp only [List.flatMap_cons, List.length_append, List.length_cons, List.map_cons, List.sum_cons, ih]; omega
    simp only [joinN, List.length_append, List.map_cons, List.sum_cons, List.length_cons, this]
    omega
theorem join_ascii {cw : List (List Nat)} (h : ∀ w ∈ cw, ∀ c ∈ w, c ≤ 127) : ∀ c ∈ joinN cw, c ≤ 127 := by
  cases cw with
  | nil => intro c hc; nomatch hc
  | cons w ws =>
    intro c hc
    rcases List.mem_append.mp hc with hc | hc
    · exact h w (.head _) c hc
    · obtain ⟨v, hv, hc⟩ := List.mem_flatMap.mp hc
      rcases List.mem_cons.mp hc with rfl | hc
      · decide
      · exact h v (.tail _ hv) c hc
def TokN (told : List UInt8) (y : Str) : Prop := 
  (0 < told.length ∧ (∀ c ∈ told, isAstring c.toNat = true) ∧ (∀ c ∈ told, isPlain c.toNat = true ∧ c ≠ 38) ∧ NormP (told.map UInt8.toNat) y) ∨
  (∃ b : List UInt8, told = quoteB b ∧ b.length ≤ 1000 ∧ (∀ c ∈ b, 1 ≤ c.toNat ∧ c.toNat ≤ 127 ∧ c.toNat ≠ 13 ∧ c.toNat ≠ 10) ∧ (∀ c ∈ b, isPlain c.toNat = true ∧ c ≠ 38) ∧ NormP (b.map UInt8.toNat) y)
theorem quote_split (b r : List UInt8) : quoteB b ++ r = 34 :: (b.flatMap qItem ++ 34 :: r) := by simp [quoteB]
theorem pos_end {l told r : List UInt8} {i : Nat} (h : l.drop i = told ++ r) (h0 : 0 < told.length) : l.length - r.length = i + told.length := by
  have := drop_len h (by intro e; rw [e] at h0; simp at h0)
  omega
theorem reads_strs {h : Heap} {vs : List Value} {ys : List Str} (hS : StrsAre vs ys) : ReadsAll h vs (ys.map PyData.str) [] := by
  induction hS with
  | nil => exact .nil
  | cons x u hS ih => exact ReadsAll.cons (as := []) (bs := []) (Reads.str x u) ih
theorem can_strs {ys : List Str} (h : ∀ y ∈ ys, PyData.strOk y = true) : PyData.canLayAll0 (ys.map PyData.str) = true := by
  induction ys with
  | nil => rfl
  | cons y ys ih => rw [List.map_cons]; simp [PyData.canLayAll0, PyData.canLay0, ih fun z hz => h z (.tail _ hz), h y (.head _)]
theorem sw_ok {y : Str} (h : (SWc.any (· == y)) = true) : PyData.strOk y = true := by
  obtain ⟨z, hz, e⟩ := List.any_eq_true.mp h
  obtain rfl : z = y := by simpa using e
  have all : (SWc.all fun z => PyData.strOk z) = true := by decide +kernel
  exact List.all_eq_true.mp all z hz
theorem depth_strs (ys : List Str) : PyData.depthAll (ys.map PyData.str) = 0 := by
  induction ys with
  | nil => rfl
  | cons y ys ih => rw [List.map_cons]; simp [PyData.depthAll, PyData.depth, ih]
theorem shaped_strs {ys : List Str} (h : ∀ y ∈ ys, PyData.strOk y = true) : PySem.SeqAt.shaped (.tuple (ys.map PyData.str)) = true := by
  simp [PySem.SeqAt.shaped, PyData.canLay0, PyData.depth, can_strs h, depth_strs]
section
variable {prog : Program} {w : World} {A : Around} {E : Value → Shared → Prop} {s : Shared} {h₀ : Heap} {L : Addr} {news : List (Addr × Obj)} {Q : Value → Shared → Prop}
theorem tup_eq_nil {t a : Addr} {vs : List Value} {y : Str} {ys : List Str} (N : News h₀ L s.heap news) (ht : (t, tpo vs) ∈ news) (ha : (a, tpo []) ∈ news) (hS : StrsAre vs (y :: ys)) (hok : ∀ z ∈ y :: ys, PyData.strOk z = true) (hu : A.units + 64 < cLine) (h : Q (.bool false) s) :
    wpAny (model prog w) A (compareOp .Eq (.ref t) (.ref a)) Q E s := by
  refine PyProof.Rows.eq_dataH (da := .tuple ((y :: ys).map PyData.str)) (db := .tuple (([] : List Str).map PyData.str)) (reads_tuple_at (N _ ht).1 rfl rfl (reads_strs hS)) (reads_tuple_at (N _ ha).1 rfl rfl (reads_strs .nil)) (shaped_strs hok) (shaped_strs (fun _ h => nomatch h)) hu ?_
  have e : PyData.eqv (.tuple ((y :: ys).map PyData.str)) (.tuple (([] : List Str).map PyData.str)) = false := by simp [PyData.eqv, PyData.eqvAll]
  rw [e]; exact h
theorem nTupleN {env : Env} {elts : List Expr} {k : Nat} {pos : Pos}
    (h : wpN (model prog w) A (spliced (backTo pos (starEach elts env))) (fun vs s₁ => vs.length ≤ sizeLine ∧ ∃ h₀ L m news, Fr h₀ L s₁.heap m ∧ News h₀ L s₁.heap news ∧ ∀ a h', Fr h₀ L h' m → News h₀ L h' ((a, tpo vs) :: news) → (∀ p ∈ news, p.1 < a) → Q (.ref a) { s₁ with heap := h' }) s) : wpN (model prog w) A (eval (.Tuple elts k pos) env) Q s := by
  refine nTuple (wpN_mono h fun vs s₁ h₁ => ⟨h₁.1, ?_⟩)
  obtain ⟨h₀, L, m, news, F, N, q⟩ := h₁.2
  obtain ⟨F2, N2, lt2⟩ := ks_newsPush (s := s₁) (o := tpo vs) F N rfl (Heap.get?_push_size _ rfl) (fun _ _ e => Heap.get?_push_of_some _ e)
  exact q _ _ F2 N2 lt2
end
theorem News.keep3 {h₀ h : Heap} {L : Addr} {a x d q q' : Addr × Obj} {r : List (Addr × Obj)} (N : News h₀ L h (a :: x :: d :: q :: q' :: r)) : News h₀ L h (a :: x :: d :: r) := fun p hp => N p (by
  simp only [List.mem_cons] at hp ⊢
  rcases hp with h | h | h | h <;> simp [h])
theorem sep_stop2 {ws : List (List UInt8)} {r : List UInt8} (hs : ∀ c r', r = c :: r' → isAtom c.toNat = false) : ∀ c r', sepW ws ++ r = c :: r' → isAtom c.toNat = false := by
  intro c r' h
  cases ws with
  | nil => exact hs c r' h
  | cons w ws => simp only [sepW_cons, List.cons_append, List.cons.injEq] at h; rw [← h.1]; decide +kernel
theorem News.drop5 {h₀ h : Heap} {L : Addr} {a b x d q : Addr × Obj} {r : List (Addr × Obj)} (N : News h₀ L h (a :: b :: x :: d :: q :: r)) : News h₀ L h (a :: b :: x :: d :: r) := fun p hp => N p (by
  simp only [List.mem_cons] at hp ⊢
  rcases hp with h | h | h | h | h <;> simp [h])
theorem nmN {h₀ h : Heap} {L : Addr} {news : List (Addr × Obj)} (_ : News h₀ L h news) : ∃ ns : List (Addr × Obj), ns = news := ⟨_, rfl⟩
theorem head_atom {w r : List UInt8} (h0 : 0 < w.length) (ha : ∀ c ∈ w, isAtom c.toNat = true) : (w ++ r).head? ≠ some 41 := by
  cases w with
  | nil => simp at h0
  | cons c w =>
    have := ha c (.head _)
    intro h
    simp only [List.cons_append, List.head?_cons, Option.some.injEq] at h
    rw [h] at this
    exact absurd this (by decide +kernel)
section
variable {M : Model} {A : Around} {E : Value → Shared → Prop} {s' : Shared} {base g g₂ : Heap} {outer : List Env} {L a e : Addr} {m : Str → Option Value} {name : Str} {scope : Scope} {cd : Value} {cells : List (Str × Addr)} {Q : Unit → Shared → Prop} {news keep : List (Addr × Obj)}
theorem kts_memC {b : Addr} (hm : b ∈ (envX name scope L a cd cells :: outer).filterMap (·.frame)) : b = L ∨ b ∈ outer.filterMap (·.frame) := by
  obtain ⟨env, he, hf⟩ := List.mem_filterMap.mp hm
  rcases List.mem_cons.mp he with rfl | he
  · exact .inl (Option.some.inj hf).symm
  · exact .inr (List.mem_filterMap.mpr ⟨env, he, hf⟩)
theorem leave_onXC (K : Below A base outer g) (F : Fr g L g₂ m) (R : RX base g₂ (envX name scope L a cd cells :: outer) e news s'.heap) (hsm : g₂.UpToSlots s'.heap) (hkp : ∀ q ∈ keep, q ∈ news)
    (hQ : ∀ h', RX base g outer e keep h' → g.UpToSlots h' → Q () { s' with heap := h' }) :
    wpAny M (A.deeper (envX name scope L a cd cells)) (leaving (envX name scope L a cd cells) (.ref e)) Q E s' := by
  obtain ⟨B, a0, hB, hBG, hl, hfl⟩ := R
  exact wpAny_leaves_onW (Around.frames_deeper K.stack) rfl hfl fun h' x1 x2 =>
    hQ h' ⟨B, a0, hB, fun b o q nm => hBG b o (F.keep b o q) (fun hm => by
      rcases kts_memC hm with z | z
      · rw [z, kts_self F] at q; cases q
      · exact nm z), fun q hq => ⟨(hl q (hkp q hq)).1, kts_none F.keep (hl q (hkp q hq)).2.1, (hl q (hkp q hq)).2.2⟩, x1⟩ ((Heap.UpToSlots.of_keeps F.keep).trans (hsm.trans x2))
end
def LX (l : List UInt8) (i : Nat) : Prop := (∃ r, l.drop i = r ∧ r.head? ≠ some 40) ∨
  (∃ w0 r, l.drop i = 40 :: (w0 ++ r) ∧ 0 < w0.length ∧ (∀ c ∈ w0, isAtom c.toNat = true) ∧ (∀ c r', r = c :: r' → isAtom c.toNat = false) ∧ r.head? ≠ some 41 ∧ r.head? ≠ some 32) ∨
  (∃ w0 r, l.drop i = 40 :: (w0 ++ (32 :: r)) ∧ 0 < w0.length ∧ (∀ c ∈ w0, isAtom c.toNat = true) ∧ (∀ c r', r = c :: r' → isAtom c.toNat = false))
theorem ClX.up {w : World} {mean : ExcName → Option Value} {mg mb : Str → Option Value} {f : Addr} {k k' : Nat} {news keep : List (Addr × Obj)} {vs : List Value} (C : ClX w mean mg mb f k news vs keep) (h : k ≤ k') : ClX w mean mg mb f k' news vs keep :=
  fun dp un gd cn cs a ccd cl outer A₀ base h₀ L m s Q E B F X N T hk hd hu ret => C dp un gd cn cs a ccd cl outer A₀ base h₀ L m s Q E B F X N T hk (by omega) (by omega) ret
def RSX (w : World) (mean : ExcName → Option Value) (mg mb : Str → Option Value) (l : List UInt8) : Prop :=
  ∀ (x d : Addr) (rest : List (Addr × Obj)), (@Ne Nat x d) → (∀ p ∈ rest, p.1 ≠ d) → ∀ (td tp k1 k2 : Tok), ClX w mean mg mb 659 15 ((x, instObj 506 d) :: (d, wd w l td (0 : Nat) tp k1 k2) :: rest) [.ref x] rest
end
section
section
open PySem.Calls
variable {prog : Program} {w : World} {A₀ : Around} {E : Value → Shared → Prop} {s' : Shared} {base g g₀ G : Heap} {outer : List Env} {L a e C : Addr} {m : Str → Option Value} {name : Str} {scope : Scope} {cd : Value}
  {b₀ : Stmt} {suite : List Stmt} {pos np : Pos} {rest : List ExceptHandler} {Q : Flow → Shared → Prop} {news : List (Addr × Obj)} {KF : Frag}
  {p : Program} {loose : List Str} {mean : ExcName → Option Value} {mg mb : Str → Option Value} {x : Str}
theorem caught_X (R : RX base G (envOf name scope L a cd :: outer) e news s'.heap) (F : Fr g L G m) (K : Below A₀ base outer g) (hsm : G.UpToSlots s'.heap) (XB : KF.In base) (TB : Top p loose mean mg mb base)
    (T0 : KtsTurn (outer.filterMap (·.frame)) g₀ g)
    (ex : nsIn KF mainGlobals x = some (some (.ref C))) (hq : exmOne KF (.ref 95) (.ref C) = some true)
    (k : ∀ h' g', KtsTurn (outer.filterMap (·.frame)) g₀ g' → Fr g' L h' m → News g' L h' news → Below A₀ base outer g' → KF.In g' → Top p loose mean mg mb g' →
      wpAny (model prog w) ((A₀.deeper (envOf name scope L a cd)).mark (some (.ref e))) (execs (b₀ :: suite) (envOf name scope L a cd)) Q E { s' with heap := h' })
    (hk : scope.kind = .function := by rfl) (hx : (envOf name scope L a cd).kindOf x = some .globalImplicit := by rfl) (hd : (x == ("__debug__" : Str)) = false := by decide)
    (hE : PassesOwnAt (model prog w) ((A₀.deeper (envOf name scope L a cd)).mark (some (.ref e))) (A₀.deeper (envOf name scope L a cd)) (envOf name scope L a cd) E := by passes_own) :
    wpAny (model prog w) (A₀.deeper (envOf name scope L a cd)) (noteFrame (.ref e) (envOf name scope L a cd))
      (fun _ s₂ => wpAny (model prog w) (A₀.deeper (envOf name scope L a cd)) (setFlight (.ref e) none) (fun _ s₃ =>
        wpAny (model prog w) (A₀.deeper (envOf name scope L a cd)) (handleBy (.ref e) (envOf name scope L a cd) (.ExceptHandler (some (.Name x np)) none (b₀ :: suite) pos :: rest)) Q E s₃) E s₂) E s' := by
  obtain ⟨B, a0, hB, hBG, hl, hfl⟩ := R
  have hL : B.get? L = none := by
    obtain ⟨_, ⟨L', _, hf, hn', _⟩, _⟩ := hfl.2.2.1
    obtain rfl : L = L' := Option.some.inj hf
    exact hn'
  refine wpAny_looks_onW (Around.frames_deeper K.stack) rfl hfl fun h₄ hheld₄ hsm₄ => ?_
  refine wpAny_landsW hheld₄ fun h₅ hheld hsm₅' => ?_
  have hsm₅ := hsm₄.trans hsm₅'
  obtain ⟨g₅, T₅, F₅, K₅⟩ := kts_ground K F hBG hheld.1 (hsm.trans hsm₅)
  have X₅ : KF.In g₅ := XB.keeps K₅.stays
  have P₅ : TopRead p loose mg mb g₅ := topRead_of (TB.keeps K₅.stays)
  obtain ⟨ob, hob, hobc⟩ := hheld.there
  have LT : Looks (model prog w) h₅ (typeOf (.ref e)) (.ref 95) := hobc ▸ ((Looks.ld hob).andThen .now)
  refine wpAny_handleBy_cons (codeAny_handlers_test (name_K F₅ X₅ P₅ ex ?_ hk hx hd)) (by intro q; cases q)
  refine (exm_one (X₅.keeps F₅.keep) LT hq).here (codeAny_handlers_suite ?_)
  refine lands_againW hheld fun h₆ hfl₆ hsm₆ => ?_
  obtain ⟨g₆, T₆, F₆, K₆⟩ := kts_ground K F hBG hfl₆.1 ((hsm.trans hsm₅).trans hsm₆)
  have Nl : News g₆ L h₆ news := fun q hq => ⟨hfl₆.1 _ _ (hl q hq).1, (fun z => by have := (hl q hq).1; rw [z, hL] at this; cases this), T₆.none_ _ (kts_none F.keep (hl q hq).2.1)⟩
  have X₆ : KF.In g₆ := XB.keeps K₆.stays
  have P₆ : Top p loose mean mg mb g₆ := TB.keeps K₆.stays
  exact wpAny_passesOwnAt hE (k h₆ g₆ (T0.trans T₆) F₆ Nl K₆ X₆ P₆)
end
section
open PySem.Calls
variable {prog : Program} {w : World} {A₀ A : Around} {s : Shared} {base h₀ : Heap} {L a : Addr} {m : Str → Option Value} {cn : Str} {cs : Scope} {ccd : Value} {cl : List (Str × Addr)} {news : List (Addr × Obj)} {K : Frag} {p : Program} {loose : List Str} {mean : ExcName → Option Value} {mg mb : Str → Option Value}
    {R : Result → Shared → Prop} {name qual : Str} {params : Arguments} {body : List Stmt} {scope : Scope} {dV kV doc pm cdv ct oc : Value} {an od : Option Addr} {osl : Array (Option Value)} {f : Addr} {args : Args} {binds : List (Str × Value)}
theorem code_defS0C (B : Below A₀ base [] h₀) (F : Fr h₀ L s.heap m) (X₀ : K.In h₀) (N : News h₀ L s.heap news) (T : Top p loose mean mg mb h₀) (hA : A.frames = some [envX cn cs L a ccd cl])
    (ho : K.lookup f = some ⟨oc, od, .func (fnOf name qual params body scope dV kV doc pm an cdv ct), osl⟩) (hcd : codeIn K cdv qual = true) (hroom : A.depth < recursionLimit)
    (hbind : BindsTo s (fnOf name qual params body scope dV kV doc pm an cdv ct) args binds) (hloc : ∀ y ∈ binds, scope.names.lookup y.1 = some .local)
    (h : ∀ g L' h₁, Fr h₀ L g m → Fr g L' h₁ (fun y => binds.reverse.lookup y) → News g L' h₁ news → Below A h₀ [envX cn cs L a ccd cl] g → K.In g → Top p loose mean mg mb g → (K.In h₀ ∧ Top p loose mean mg mb h₀) →
      wpAny (model prog w) (A.deeper (envOf qual scope L' f cdv)) (execs body (envOf qual scope L' f cdv))
        (fun fl s' => LeaveS0 ([envX cn cs L a ccd cl].filterMap (·.frame)) h₀ L m g R (match fl with | .ret v => v | _ => .none) s')
        (fun e s' => wpAny (model prog w) (A.deeper (envOf qual scope L' f cdv)) (leaving (envOf qual scope L' f cdv) e) (fun _ s'' => R (.error e) s'') (fun e' s'' => R (.error e') s'') s')
        { s with heap := h₁, toks := s.toks + binds.length })
    (hck : cs.kind = .function) (hco : scope.isCoroutine = false) (hgen : scope.isGenerator = false) (hk : scope.kind = .function)
    (hcell : ∀ x ∈ scope.names, x.2 ≠ .cell) : codeAny (model prog w) A (.call (.ref f) args) R s := by
  have X := X₀.keeps F.keep
  have B' : Below A₀ h₀ [] h₀ := ⟨B.stack, fun _ _ e => e, trivial⟩
  obtain ⟨FG, BG, st, _⟩ := groundX (R := R) B' F N hA rfl hck
  refine codeAny_call_def (fd := fnOf name qual params body scope dV kV doc pm an cdv ct) (body := body) (binds := binds) hroom (X _ _ ho) rfl (T.nolimit.keeps F.keep) (codeRec_of X hcd) rfl hbind hcell hloc (fun h₁ hns hk₁ => ?_) hco hgen hk
  obtain ⟨oL, es, ep, hLg, hLd, hLk, hLf⟩ := id FG.ns
  refine wpAny_mono (h _ s.heap.objs.size h₁ FG ⟨hns, fun b o e => hk₁ b o (of_hideAll _ e), Nat.le_of_eq (hideAll_size _ _)⟩
    (fun p hp => ⟨hk₁ _ _ (N p hp).1, Nat.ne_of_lt (Heap.lt_size (N p hp).1), hideAll_none _ (List.mem_map_of_mem hp)⟩) BG (X₀.keeps st) (T.keeps st) ⟨X₀, T⟩) (fun fl s' hl => ?_) fun _ _ y => y
  obtain ⟨g', L', m', news', T', F', N', k⟩ := hl
  have nL₀ : h₀.get? L = none := kts_self F
  obtain ⟨sl, hs⟩ := T'.up hLg
  refine k ⟨⟨_, es, ep, F'.keep _ _ hs, hLd, hLk, hLf⟩, fun b o e => F'.keep b o (T'.other b o (st b o e) (fun q => by
    rcases kts_memC q with z | z
    · rw [z, nL₀] at e
      cases e
    · simp at z)), F.above⟩ fun p hp => ⟨(N' p hp).1, fun q => ?_, ?_⟩
  · have := (N' p hp).2.2; rw [q, hs] at this; cases this
  · cases q : h₀.get? p.1 with
    | none => rfl
    | some o =>
      obtain ⟨sl', hs'⟩ := T'.up (st _ _ q)
      have := (N' p hp).2.2
      rw [hs'] at this
      cases this
end
def Cl0 (w : World) (mean : ExcName → Option Value) (mg mb : Str → Option Value) (f : Addr) (k : Nat) (news : List (Addr × Obj)) (vs : List Value) (P : Value → List (Addr × Obj) → Prop) : Prop :=
  ∀ (dp un : Nat) (gd : Option (List Code)) (cn : Str) (cs : Scope) (a : Addr) (ccd : Value) (cl : List (Str × Addr)) (A₀ : Around) (base h₀ : Heap) (L : Addr) (m : Str → Option Value) (s : Shared) (Q E : Value → Shared → Prop),
    Below A₀ base [] h₀ → Fr h₀ L s.heap m → (Mine.hd.heap_39 w.params).In h₀ → News h₀ L s.heap news →
    Top Mine.hd.view_39 (looseW Mine.hd.view_39 [Str.ofString "PostError", Str.ofString "literal_octets", Str.ofString "string_octets", Str.ofString "astring_octets"]) mean mg mb h₀ →
    cs.kind = .function → dp + k < recursionLimit → un + 8 * k < cLine →
    (∀ v news' h' tk', P v news' → Fr h₀ L h' m → News h₀ L h' news' → Q v { s with heap := h', toks := tk' }) →
    wpAny (model PySem.Challenge.rw_pq0950_01.prog w) (ktrTop dp un gd cn cs L a ccd cl []) (call (.ref f) vs) Q E s
end
section
section
variable {M : Model} {A : Around} {E : Value → Shared → Prop} {s s' : Shared}
theorem wpAny_setFlight_any {base : Heap} {l : List Env} {e : Addr} {cls a0 fl : Value} {fr : Option Addr} {Q : Unit → Shared → Prop}
    (hkb : base.StaysIn s.heap) (hl : s.heap.FunFrames base l) (ht : s.heap.TracedAtW base e cls a0 fl)
    (h : ∀ h' fl', base.StaysIn h' → h'.FunFrames base l → h'.TracedAtW base e cls a0 fl' → (∀ b o, s.heap.get? b = some o → (∀ vs, o.data ≠ .fields vs) → h'.get? b = some o) → Q () { s with heap := h' }) :
    wpAny M A (setFlight (.ref e) fr) Q E s := by
  obtain ⟨oe, vs, T, oT, ts, he, hcls, hd, h1, hnT, hTe, hT, hdT, h3⟩ := ht
  have sz : 3 < ts.size := (Array.getElem?_eq_some_iff.mp h3).1
  have oth : ∀ b, b ≠ T → (s.heap.update T (Obj.mapFields (·.setIfInBounds 3 (fr.elim Value.none fun f => rawInt f)))).get? b = s.heap.get? b :=
    fun b hb => Heap.get?_update_other _ _ (Ne.symm hb)
  have nR : ∀ b o, s.heap.get? b = some o → (∀ vs, o.data ≠ .fields vs) → b ≠ T := fun b o hb hnf q => by
    rw [q, hT] at hb; injection hb with hb; subst hb; exact hnf ts hdT
  unfold setFlight
  refine wpAny_bind (wpAny_field he hd h1 ?_)
  rw [if_pos (show (Value.ref T != Value.none) = true from by simp)]
  refine wpAny_setField hT hdT sz (h _ (fr.elim Value.none fun f => rawInt f) (fun b o hbo => (oth b fun q => by rw [q, hnT] at hbo; cases hbo).trans (hkb b o hbo))
    (hl.of_keeps fun b o hb hnf => ⟨o, (oth b (nR b o hb hnf)).trans hb, rfl⟩) ?_ fun b o hb hnf => (oth b (nR b o hb hnf)).trans hb)
  exact ⟨oe, vs, T, _, _, (oth e (Ne.symm hTe)).trans he, hcls, hd, h1, hnT, hTe, Heap.get?_update_self _ hT (Obj.isFreed_of_fields (Obj.data_mapFields hdT _)), Obj.data_mapFields hdT _, by simp [sz]⟩
theorem leaving_any {base : Heap} {env : Env} {outer : List Env} {L e : Addr} {cls a0 fl : Value} {Q : Unit → Shared → Prop}
    (hfr : A.frames = some (env :: outer)) (hl : s.heap.FunFrames base (env :: outer)) (hf : env.frame = some L) (ht : s.heap.TracedAtW base e cls a0 fl) (hkb : base.StaysIn s.heap) (hen : base.get? e = none)
    (h : ∀ h', Heap.FlyingW base outer e cls a0 h' → s.heap.UpToSlots h' → Q () { s with heap := h' }) : wpAny M A (leaving env (.ref e)) Q E s := by
  by_cases hq : fl = rawInt L
  · subst hq
    unfold leaving
    refine wpAny_bind (wpAny_noteFrame_againW hf ht ?_)
    exact wpAny_landsW (l := env :: outer) ⟨hkb, hen, hl, ht⟩ fun h' hfl hu => by
      obtain ⟨k1, k2, ⟨_, _, k3⟩, k4⟩ := hfl
      exact h h' ⟨k1, k2, k3, k4⟩ hu
  · obtain ⟨oe, vs, T, oT, ts, he, ⟨hcls, h0⟩, hd, h1, hnT, hTe, hT, hdT, h3⟩ := ht
    subst hcls
    unfold leaving noteFrame
    simp only [hf]
    refine wpAny_bind (wpAny_bind (wpAny_field he hd h1 ?_))
    rw [if_pos (show (Value.ref T != Value.none) = true from by simp)]
    refine wpAny_bind (wpAny_field hT hdT h3 ?_)
    rw [if_neg (show ¬ ((fl == rawInt L) = true) from by simpa using hq)]
    refine wpAny_bind (wpAny_setField hT hdT (Array.getElem?_eq_some_iff.mp h3).1 ?_)
    have oth : ∀ b, b ≠ T → (s.heap.update T (Obj.mapFields (·.setIfInBounds 3 Value.none))).get? b = s.heap.get? b := fun b hb => Heap.get?_update_other _ _ (Ne.symm hb)
    have nR : ∀ b o, s.heap.get? b = some o → (∀ vs, o.data ≠ .fields vs) → b ≠ T := fun b o hb hnf q => by
      rw [q, hT] at hb; injection hb with hb; subst hb; exact hnf ts hdT
    refine wpAny_newEntryW hfr (hl.of_keeps fun b o hb hnf => ⟨o, (oth b (nR b o hb hnf)).trans hb, rfl⟩) hf ((oth e (Ne.symm hTe)).trans he)
      (fun b o hbo => (oth b fun q => by rw [q, hnT] at hbo; cases hbo).trans (hkb b o hbo)) hen hd (Array.getElem?_eq_some_iff.mp h1).1 h0
      fun h' ⟨x1, ⟨_, _, x2⟩, x3, x4⟩ => h h' ⟨x1, hen, x2, x3⟩ fun b o hb hnf => x4 b o ((oth b (nR b o hb hnf)).trans hb) hnf
def HX (base G : Heap) (l : List Env) (e : Addr) (news : List (Addr × Obj)) (h : Heap) : Prop :=
  ∃ B a0 fl, base.StaysIn B ∧ (∀ b o, G.get? b = some o → b ∉ l.filterMap (·.frame) → B.get? b = some o) ∧ (∀ q ∈ news, B.get? q.1 = some q.2 ∧ G.get? q.1 = none ∧ base.get? q.1 = none) ∧
    B.StaysIn h ∧ B.get? e = none ∧ h.FunFrames B l ∧ h.TracedAtW B e (.ref 95) a0 fl
variable {base g g₂ : Heap} {outer : List Env} {L a e : Addr} {m : Str → Option Value} {name : Str} {scope : Scope} {cd : Value} {cells : List (Str × Addr)} {Q : Unit → Shared → Prop} {news keep : List (Addr × Obj)}
theorem leave_heldX (K : Below A base outer g) (F : Fr g L g₂ m) (R : HX base g₂ (envX name scope L a cd cells :: outer) e news s'.heap) (hsm : g₂.UpToSlots s'.heap) (hkp : ∀ q ∈ keep, q ∈ news)
    (hQ : ∀ h', RX base g outer e keep h' → g.UpToSlots h' → Q () { s' with heap := h' }) :
    wpAny M (A.deeper (envX name scope L a cd cells)) (leaving (envX name scope L a cd cells) (.ref e)) Q E s' := by
  obtain ⟨B, a0, fl, hB, hBG, hl, k1, k2, k3, k4⟩ := R
  exact leaving_any (Around.frames_deeper K.stack) k3 rfl k4 k1 k2 fun h' x1 x2 =>
    hQ h' ⟨B, a0, hB, fun b o q nm => hBG b o (F.keep b o q) (fun hm => by
      rcases kts_memC hm with z | z
      · rw [z, kts_self F] at q; cases q
      · exact nm z), fun q hq => ⟨(hl q (hkp q hq)).1, kts_none F.keep (hl q (hkp q hq)).2.1, (hl q (hkp q hq)).2.2⟩, x1⟩ ((Heap.UpToSlots.of_keeps F.keep).trans (hsm.trans x2))
theorem noteFrame_same {v : Value} {e₁ e₂ : Env} (h : e₁.frame = e₂.frame) : noteFrame v e₁ = noteFrame v e₂ := by
  unfold noteFrame PySem.frameOf
  rw [h]
theorem funFrames_swap {h h' B B' : Heap} (hh : ∀ b, B.get? b = none → h'.get? b = h.get? b) (hB : ∀ b, B.get? b = none → B'.get? b = none) : ∀ {l : List Env}, h.FunFrames B l → h'.FunFrames B' l
  | [], _ => trivial
  | _ :: _, ⟨hk, ⟨L, o, hf, hn, ho, hd⟩, hr⟩ => ⟨hk, ⟨L, o, hf, hB _ hn, (hh _ hn).trans ho, hd⟩, funFrames_swap hh hB hr⟩
theorem hide_none {base : Heap} {as : List Addr} {b : Addr} (hn : base.get? b = none) : (hideAll base as).get? b = none := by
  cases q : (hideAll base as).get? b with
  | none => rfl
  | some o' => rw [of_hideAll _ q] at hn; cases hn
end
section
open LCg
variable {prog : Program} {w : World} {A : Around} {E : Value → Shared → Prop} {s : Shared} {base h₀ : Heap} {L : Addr} {m : Str → Option Value} {env : Env} {outer : List Env} {elt : Expr} {x : Str} {scope : Scope} {cl : List (Str × Addr)} {iter : Expr} {px pos : Pos} {Q : Value → Shared → Prop}
def RaisedIn (base h₀ : Heap) (L : Addr) (m : Str → Option Value) (l : List Env) (s₁ : Shared) (keep : List (Addr × Obj)) (e : Value) (s' : Shared) : Prop :=
  ∃ x G h tk, e = .ref x ∧ s' = { s₁ with heap := h, toks := tk } ∧ Fr h₀ L G m ∧ RX base G l x keep h ∧ G.UpToSlots h
def SrcX (prog : Program) (w : World) (A : Around) (base h₀ : Heap) (L : Addr) (m : Str → Option Value) (env : Env) (outer : List Env) (elt : Expr) (x : Str) (scope : Scope) (cl : List (Str × Addr)) (keep : List (Addr × Obj)) (E : Value → Shared → Prop) (xv : Value) (s₁ : Shared) : Prop :=
  ∃ (a : Addr) (vs : List Value) (nn : Nat) (news : List (Addr × Obj)), xv = .ref a ∧ A.handled = none ∧ Fr h₀ L s₁.heap m ∧ News h₀ L s₁.heap news ∧ (a, listOf vs.toArray nn) ∈ news ∧ vs.length ≤ sizeLine ∧ 0 < vs.length ∧ (∀ q ∈ keep, q ∈ news) ∧
    (∀ v I oI C oC D m₂ h tk, vs[0]? = some v → NsObj oC m₂ → m₂ x = some v → Fr h₀ L h m → News h₀ L h ((I, oI) :: (C, oC) :: (D, lst []) :: news) → Off3 I C D news → ((@Ne Nat I C) ∧ (@Ne Nat I D) ∧ (@Ne Nat C D)) →
      wpAny (model prog w) A (eval elt (compEnvC scope cl C env)) (fun _ _ => False) (RaisedIn base h₀ L m (env :: outer) { s₁ with heap := h, toks := tk } ((C, oC) :: keep)) { s₁ with heap := h, toks := tk }) ∧
    (∀ e G h tk, Fr h₀ L G m → HX base G (env :: outer) e keep h → G.UpToSlots h → E (.ref e) { s₁ with heap := h, toks := tk })
theorem ListComp_X {A₁ : Around} {keep : List (Addr × Obj)} (_K : Below A₁ base outer h₀) (_F : Fr h₀ L s.heap m) (hfr : A.frames = some (env :: outer)) (hfL : env.frame = some L) (hclos : closureFor scope env = pure cl) (hcell : ∀ y ∈ scope.names, y.2 ≠ .cell) (hkind : scope.kind = .function)
    (hnames : ∀ y ∈ scope.names, y.2 = .local → scope.names.lookup y.1 = some .local) (hx : scope.names.lookup x = some .local)
    (h : wpAny (model prog w) A (eval iter env) (SrcX prog w A base h₀ L m env outer elt x scope cl keep E) E s)
    (hs : ∀ x, foldedSetIterable iter env x = pure x := by intro _; rfl) :
    wpAny (model prog w) A (eval (.ListComp elt [⟨.Name x px, iter, [], 0⟩] scope pos) env) Q E s := by
  rw [eval_ListComp]
  refine wpAny_comprehension_free (use := none) rfl hs hclos hkind hnames (wpAny_mono h (fun xv s₁ h₁ => ?_) fun _ _ e => e)
  obtain ⟨a, vs, nn, news, rfl, hh, F, N, ha, hsz, hpos, hkn, helt, hE⟩ := h₁
  have hls : s₁.heap.IsList a vs.toArray := News.isList N ha
  have hne : a ≠ s₁.heap.objs.size := Nat.ne_of_lt (Heap.lt_size (N _ ha).1)
  refine wpAny_pyIter_list hls ?_
  have W := Walks.list (prog := prog) (w := w) hh s₁.heap.objs.size a hne vs.toArray
  have hlen : vs.toArray.size = vs.length := List.size_toArray
  rw [hlen] at W
  have up : ∀ c o, s₁.heap.get? c = some o → (s₁.heap.push { cls := .type "list_iterator", data := .fields #[.ref a, .int 0 0] }).get? c = some o := fun c o e => Heap.get?_push_of_some _ e
  have F₂ : Fr h₀ L (s₁.heap.push { cls := .type "list_iterator", data := .fields #[.ref a, .int 0 0] }) m := F.keeps up
  have N₂ : News h₀ L (s₁.heap.push { cls := .type "list_iterator", data := .fields #[.ref a, .int 0 0] }) news := N.grown up
  have hI₂ : (s₁.heap.push { cls := .type "list_iterator", data := .fields #[.ref a, .int 0 0] }).get? s₁.heap.objs.size = some { cls := .type "list_iterator", data := .fields #[.ref a, .int 0 0] } := Heap.get?_push_size _ rfl
  have hls₂ : (s₁.heap.push { cls := .type "list_iterator", data := .fields #[.ref a, .int 0 0] }).IsList a vs.toArray := hls.at fun o e => up _ o e
  have hlt : a < s₁.heap.objs.size := Heap.lt_size (N _ ha).1
  have hI₀ : h₀.get? s₁.heap.objs.size = none := next_is_new F
  have hIL : L ≠ s₁.heap.objs.size := Nat.ne_of_lt F.ns.lt
  have offI : ∀ p ∈ news, p.1 ≠ s₁.heap.objs.size := fun p hp => Nat.ne_of_lt (Heap.lt_size (N p hp).1)
  have hz₂ : (s₁.heap.push { cls := .type "list_iterator", data := .fields #[.ref a, .int 0 0] }).objs.size = s₁.heap.objs.size + 1 := Heap.size_push ..
  have hst₂ : (s₁.heap.push { cls := .type "list_iterator", data := .fields #[.ref a, .int 0 0] }).IsListIter s₁.heap.objs.size a 0 := ⟨_, hI₂, rfl, rfl⟩
  generalize s₁.heap.push { cls := .type "list_iterator", data := .fields #[.ref a, .int 0 0] } = g₂ at F₂ N₂ hI₂ hls₂ hz₂ hst₂ ⊢
  generalize s₁.heap.objs.size = I at W hI₂ hI₀ hIL offI hz₂ hlt hst₂ hne ⊢
  refine wpAny_newObj_type (wpAny_newFunctionEnv hcell (by intro y hy; simp at hy) (fun h₁ hns₁ hsb₁ => ?_) hkind)
  dsimp only at hns₁ hsb₁ ⊢
  generalize hH2 : g₂.push { cls := .type "list", dict := none, data := .seq ([] : List Value).toArray } = H2 at hns₁ hsb₁ ⊢
  have hC : H2.objs.size = g₂.objs.size + 1 := by rw [← hH2, Heap.size_push]
  have hDC : g₂.objs.size ≠ H2.objs.size := by rw [hC]; exact Nat.ne_of_lt (Nat.lt_succ_self _)
  have bel : ∀ b, b < g₂.objs.size → b ≠ H2.objs.size ∧ b ≠ g₂.objs.size := fun b hb => ⟨by rw [hC]; exact Nat.ne_of_lt (Nat.lt_succ_of_lt hb), Nat.ne_of_lt hb⟩
  have hI2 : I < g₂.objs.size := by rw [hz₂]; exact Nat.lt_succ_self _
  have old : ∀ b o, g₂.get? b = some o → h₁.get? b = some o := fun b o e => hsb₁.extBut b o (bel b (Heap.lt_size e)).1 (Heap.get?_push_of_some _ (hH2 ▸ Heap.get?_push_of_some _ e))
  have hacc : h₁.get? g₂.objs.size = some (lst []) := hsb₁.extBut _ _ hDC (Heap.get?_push_of_some _ (hH2 ▸ Heap.get?_push_size _ rfl))
  have fresh₀ : ∀ c, g₂.objs.size ≤ c → h₀.get? c = none := fun c hc => by
    cases e : h₀.get? c with
    | none => rfl
    | some o' => exact absurd (Heap.lt_size (F₂.keep c o' e)) (Nat.not_lt.mpr hc)
  have hD₀ : h₀.get? g₂.objs.size = none := fresh₀ _ (Nat.le_refl _)
  have hC₀ : h₀.get? H2.objs.size = none := fresh₀ _ (by rw [hC]; exact Nat.le_succ _)
  have hDL : g₂.objs.size ≠ L := Ne.symm (bel L F₂.ns.lt).2
  have hCL : H2.objs.size ≠ L := Ne.symm (bel L F₂.ns.lt).1
  have off₀ : Off3 I H2.objs.size g₂.objs.size news := Off3.of fun p hp => ⟨offI p hp, (bel _ (Heap.lt_size (N₂ p hp).1)).1, (bel _ (Heap.lt_size (N₂ p hp).1)).2⟩
  have loop : ∀ s₃ : Shared, s₃ = { s₁ with heap := h₁, toks := s₁.toks + ([] : List (Str × Value)).length } →
      codeAny (model prog w) A (.compLoop (.ListComp elt [⟨.Name x px, iter, [], 0⟩] scope pos) 0 (.ref I) (.ref g₂.objs.size) (compEnvC scope cl H2.objs.size env))
        (compPost (model prog w) A E none Q (.ref g₂.objs.size) H2.objs.size) s₃ := by
    rintro s₃ rfl
    refine codeAny_compLoop_tests (fun k s' => k = 0 ∧ s' = { s₁ with heap := h₁, toks := s₁.toks + ([] : List (Str × Value)).length }) ?_ 0 ⟨rfl, rfl⟩
    rintro k s' ⟨rfl, rfl⟩
    refine W.item 0 _ _ _ hpos ⟨by obtain ⟨o, e, r⟩ := hst₂; exact ⟨o, old _ _ e, r⟩, hls₂.at fun o e => old _ o e⟩ fun v h₂ tk₂ hPv hst₂ hk₂ => ?_
    refine wpAny_assign_Name (wpAny_storeName_local (lookup_relabel_local hx) (hns₁.at' fun o e => hk₂ _ o (by simpa using Ne.symm (bel I hI2).1) e) (fun h₃ hn₃ hs₃ => ?_) (by simp [compEnvC, relabel, hkind]))
    refine wpAny_tests_nil ?_
    simp only [if_true]
    obtain ⟨⟨oI, heI, _⟩, _⟩ := hst₂
    obtain ⟨oC, heC, hoC⟩ := ns_obj hn₃
    have N₁ : News h₀ L h₁ ((g₂.objs.size, lst []) :: news) := fun p hp => by
      rcases List.mem_cons.mp hp with rfl | hp
      · exact ⟨hacc, hDL, hD₀⟩
      · exact ⟨old _ _ (N₂ p hp).1, (N₂ p hp).2⟩
    have F₃ : Fr h₀ L h₃ m := (fr_but (F₂.keeps old) hk₂ hIL hI₀).change hs₃ hCL hC₀
    have N₂' : News h₀ L h₂ ((g₂.objs.size, lst []) :: news) := news_but N₁ hk₂ fun p hp => by
      rcases List.mem_cons.mp hp with rfl | hp
      · exact Ne.symm (bel I hI2).2
      · exact offI p hp
    have N₃ : News h₀ L h₃ ((I, oI) :: (H2.objs.size, oC) :: (g₂.objs.size, lst []) :: news) := fun p hp => by
      rcases List.mem_cons.mp hp with rfl | hp
      · exact ⟨hs₃.extBut _ _ (bel I hI2).1 heI, Ne.symm hIL, hI₀⟩
      · rcases List.mem_cons.mp hp with rfl | hp
        · exact ⟨heC, hCL, hC₀⟩
        · have z := N₂' p hp
          refine ⟨hs₃.extBut _ _ ?_ z.1, z.2⟩
          rcases List.mem_cons.mp hp with rfl | hp
          · exact hDC
          · exact (off₀.mem p hp).2.1
    refine wpAny_mono (helt v I oI H2.objs.size oC g₂.objs.size _ h₃ _ (by simpa using hPv) hoC (by simp) F₃ N₃ off₀ ⟨(bel I hI2).1, (bel I hI2).2, Ne.symm hDC⟩) (fun y s₄ h₄ => h₄.elim) (fun e₄ s₄ h₄ => ?_)
    obtain ⟨ex, G, h₅, tk₅, rfl, rfl, F₅, R₅, U₅⟩ := h₄
    obtain ⟨B, a0, hB, hBG, hl, hfl⟩ := R₅
    have hBC := hl _ (.head _)
    show wpAny _ _ (noteFrame _ _) _ _ _
    rw [noteFrame_same (v := .ref ex) (e₁ := compEnvC scope cl H2.objs.size env) (e₂ := env) rfl]
    refine wpAny_looks_onW hfr hfL hfl fun h₆ hheld hu₆ => ?_
    obtain ⟨f1, f2, f3, f4⟩ := hheld
    refine ⟨_, hoC.ns (f1 _ _ hBC.1), fun h₇ hs₇ cenv _ => ?_⟩
    have hbk : ∀ b o, B.get? b = some o → b ∉ [H2.objs.size] → (hideAll B [H2.objs.size]).get? b = some o := fun b o q hn => hideAll_get _ q hn
    have hst₇ : (hideAll B [H2.objs.size]).StaysIn h₇ := fun b o q => by
      have hbC : b ≠ H2.objs.size := fun z => by rw [z, hideAll_none _ (.head _)] at q; cases q
      exact (hs₇.2 b hbC).trans (f1 b o (of_hideAll _ q))
    have hoC' : ∀ vs, oC.data ≠ .fields vs := fun vs q => by
      obtain ⟨es, ep, hd, _⟩ := hoC
      rw [hd] at q; cases q
    obtain ⟨oe, ves, T, oT, ts, he, hcls, hd, h1, hnT, hTe, hT, hdT, h3⟩ := f4
    have hTC : T ≠ H2.objs.size := fun z => by
      rw [z, f1 _ _ hBC.1] at hT
      injection hT with hT
      subst hT
      exact hoC' _ hdT
    have heC' : ex ≠ H2.objs.size := fun z => by
      rw [z, f1 _ _ hBC.1] at he
      injection he with he
      subst he
      exact hoC' _ hd
    have ht₇ : h₇.TracedAtW (hideAll B [H2.objs.size]) ex (.ref 95) a0 (rawInt L) :=
      ⟨oe, ves, T, oT, ts, (hs₇.2 _ heC').trans he, hcls, hd, h1, hide_none hnT, hTe, (hs₇.2 _ hTC).trans hT, hdT, h3⟩
    have hf₇ : h₇.FunFrames (hideAll B [H2.objs.size]) (env :: outer) :=
      funFrames_swap (fun b hb => hs₇.2 b fun z => by rw [z, hBC.1] at hb; cases hb) (fun b hb => hide_none hb) f3
    unfold PySem.passOn
    refine wpAny_bind (wpAny_field ((hs₇.2 _ heC').trans he) hd h1 ?_)
    rw [if_neg (show ¬ ((Value.ref T == Value.none) = true) from by simp)]
    refine wpAny_bind (wpAny_setFlight_any hst₇ hf₇ ht₇ fun h₈ fl' q1 q2 q3 q4 => wpAny_throw ?_)
    refine hE ex G h₈ _ F₅ ⟨hideAll B [H2.objs.size], a0, fl', ?_, ?_, ?_, q1, hide_none f2, q2, q3⟩ ?_
    · exact fun b o q => hbk b o (hB b o q) fun z => by rw [List.mem_singleton.mp z, hBC.2.2] at q; cases q
    · exact fun b o q hn => hbk b o (hBG b o q hn) fun z => by rw [List.mem_singleton.mp z, hBC.2.1] at q; cases q
    · exact fun q hq => ⟨hbk _ _ (hl q (.tail _ hq)).1 fun z => (off₀.mem q (hkn q hq)).2.1 (List.mem_singleton.mp z), (hl q (.tail _ hq)).2⟩
    · exact fun b o hb hn => by
        have hbC : b ≠ H2.objs.size := fun z => by rw [z, hBC.2.1] at hb; cases hb
        obtain ⟨sl, hu⟩ := (U₅.trans hu₆) b o hb hn
        exact ⟨sl, q4 _ _ ((hs₇.2 b hbC).trans hu) hn⟩
  exact codeAny_compStart_list (loop _ rfl) (W.self 0 _ _ _ ⟨by obtain ⟨o, e, r⟩ := hst₂; exact ⟨o, old _ _ e, r⟩, hls₂.at fun o e => old _ o e⟩ (loop _ rfl))
end
theorem News.pickE {h₀ h : Heap} {L : Addr} {i c dd ls x d q c1 c2 : Addr × Obj} {r : List (Addr × Obj)} (N : News h₀ L h (i :: c :: dd :: ls :: x :: d :: q :: c1 :: c2 :: r)) : News h₀ L h (x :: d :: c :: r) := fun p hp => N p (by
  simp only [List.mem_cons] at hp ⊢
  rcases hp with h | h | h | h <;> simp [h])
end
section
def GoodRead (v : Value) (b : Addr) (news : List (Addr × Obj)) : Prop :=
  ∀ (A : Around) (s : Shared) (h₀ : Heap) (L : Addr), News h₀ L s.heap news → A.units + 66 < cLine → PySem.SeqAt.RcAt A s v (.ref b) true
theorem GoodRead.use {prog : Program} {w : World} {A : Around} {E : Value → Shared → Prop} {s : Shared} {h₀ : Heap} {L b : Addr} {v : Value} {news : List (Addr × Obj)} {Q : Value → Shared → Prop}
    (h : GoodRead v b news) (N : News h₀ L s.heap news) (hu : A.units + 66 < cLine) (hQ : Q (.bool true) s) : wpAny (model prog w) A (compareOp .Eq v (.ref b)) Q E s := h A s h₀ L N hu prog w E Q hQ
theorem News.dropA {h₀ h : Heap} {L : Addr} {nw r : List (Addr × Obj)} (N : News h₀ L h (nw ++ r)) : News h₀ L h r := fun p hp => N p (List.mem_append.mpr (.inr hp))
theorem eqAt_bytes {A : Around} {s : Shared} (x : Array UInt8) (t u : Tok) : PySem.SeqAt.EqAt A s (.bytes x t) (.bytes x u) true := fun prog w E Q h => by
  unfold eqBool
  refine wpAny_holding ?_
  refine wpAny_ite_split (fun _ => wpAny_bind (wpAny_rule (wpAny_pure h))) (fun _ => ?_)
  refine wpAny_bind ?_
  have := @eq_bytes prog w A E s x x t u (fun r s' => wpAny (model prog w) A (truthOfDropped r) Q E s') (by rw [beq_self_eq_true]; exact wpAny_truthy_bool h)
  exact this
theorem rcAt_tup2 {A : Around} {s : Shared} {h₀ : Heap} {L a b : Addr} {v1 v2 u1 u2 : Value} {news : List (Addr × Obj)} (N : News h₀ L s.heap news) (ha : (a, tpo [v1, v2]) ∈ news) (hb : (b, tpo [u1, u2]) ∈ news) (hu : A.units + 64 < cLine)
    (h1 : PySem.SeqAt.EqAt A.in1 s v1 u1 true) (h2 : PySem.SeqAt.EqAt A.in1 s v2 u2 true) : PySem.SeqAt.RcAt A s (.ref a) (.ref b) true := by
  have q := PySem.SeqAt.RcAt.tuples (A := A) (s := s) (l := a) (b := b) (items := #[v1, v2]) (items2 := #[u1, u2]) (e := fun _ => true) ⟨_, (N _ ha).1, rfl, _, rfl⟩ ⟨_, (N _ hb).1, rfl, _, rfl⟩ (by omega) (fun j j1 j2 => by
    match j, j1 with
    | 0, _ => exact h1
    | 1, _ => exact h2
    | j + 2, j1 => simp at j1; omega)
  have e : ((List.range (min (#[v1, v2] : Array Value).size (#[u1, u2] : Array Value).size)).all (fun _ => true) && (#[v1, v2] : Array Value).size == (#[u1, u2] : Array Value).size) = true := rfl
  rw [e] at q
  exact q
theorem rcAt_tup1 {A : Around} {s : Shared} {h₀ : Heap} {L a b : Addr} {v1 u1 : Value} {news : List (Addr × Obj)} (N : News h₀ L s.heap news) (ha : (a, tpo [v1]) ∈ news) (hb : (b, tpo [u1]) ∈ news) (hu : A.units + 64 < cLine)
    (h1 : PySem.SeqAt.EqAt A.in1 s v1 u1 true) : PySem.SeqAt.RcAt A s (.ref a) (.ref b) true := by
  have q := PySem.SeqAt.RcAt.tuples (A := A) (s := s) (l := a) (b := b) (items := #[v1]) (items2 := #[u1]) (e := fun _ => true) ⟨_, (N _ ha).1, rfl, _, rfl⟩ ⟨_, (N _ hb).1, rfl, _, rfl⟩ (by omega) (fun j j1 j2 => by
    match j, j1 with
    | 0, _ => exact h1
    | j + 1, j1 => simp at j1)
  have e : ((List.range (min (#[v1] : Array Value).size (#[u1] : Array Value).size)).all (fun _ => true) && (#[v1] : Array Value).size == (#[u1] : Array Value).size) = true := rfl
  rw [e] at q
  exact q
theorem eqAt_str {A : Around} {s : Shared} (x : Str) (t u : Tok) : PySem.SeqAt.EqAt A s (.str x t) (.str x u) true := by
  have q := PySem.SeqAt.EqAt.str_str (A := A) (s := s) x t x u
  rw [beq_self_eq_true] at q
  exact q
theorem eqAt_strs {A : Around} {s : Shared} {h₀ : Heap} {L a b : Addr} {vs us : List Value} {ys : List Str} {news : List (Addr × Obj)} (N : News h₀ L s.heap news) (ha : (a, tpo vs) ∈ news) (hb : (b, tpo us) ∈ news) (hS : StrsAre vs ys) (hT : StrsAre us ys) (hok : ∀ y ∈ ys, PyData.strOk y = true) (hu : A.units + 64 < cLine) :
    PySem.SeqAt.EqAt A s (.ref a) (.ref b) true := by
  by_cases hab : a = b
  · subst hab
    exact PySem.SeqAt.EqAt.same _
  · refine PySem.SeqAt.EqAt.of_refs hab ?_
    have q := PySem.SeqAt.rcAt_reads (A := A) (s := s) (da := .tuple (ys.map PyData.str)) (db := .tuple (ys.map PyData.str)) (reads_tuple_at (N _ ha).1 rfl rfl (reads_strs hS)) (reads_tuple_at (N _ hb).1 rfl rfl (reads_strs hT))
      (PySem.SeqAt.canLay_of_shaped (shaped_strs hok)) (PySem.SeqAt.canLay_of_shaped (shaped_strs hok)) (PySem.SeqAt.room_of_shaped (shaped_strs hok) hu)
    rw [PySem.SeqAt.eqv_refl _ (PySem.SeqAt.canLay_of_shaped (shaped_strs hok))] at q
    exact q
def OneR (w : World) (mean : ExcName → Option Value) (mg mb : Str → Option Value) (R : Addr) (l : List UInt8) (b : Addr) (rest : List (Addr × Obj)) : Prop :=
  ∀ (x d : Addr), (@Ne Nat x d) → (∀ p ∈ rest, p.1 ≠ d) → ∀ (td tp k1 k2 : Tok), ClN w mean mg mb R 14 ((x, instObj 506 d) :: (d, wd w (l ++ [13, 10]) td (0 : Nat) tp k1 k2) :: rest) [.ref x]
    (fun v news' => ∃ nw tp', GoodRead v b news' ∧ news' = nw ++ ((x, instObj 506 d) :: (d, wd w (l ++ [13, 10]) td ((l.length : Nat) : Int) tp' k1 k2) :: rest))
theorem OneR.use {w : World} {mean : ExcName → Option Value} {mg mb : Str → Option Value} {R b x d : Addr} {l : List UInt8} {rest : List (Addr × Obj)} {td tp k1 k2 : Tok} (h : OneR w mean mg mb R l b rest) (e1 : @Ne Nat x d) (e2 : ∀ p ∈ rest, p.1 ≠ d) :
    ClN w mean mg mb R 14 ((x, instObj 506 d) :: (d, wd w (l ++ [13, 10]) td (0 : Nat) tp k1 k2) :: rest) [.ref x]
      (fun v news' => ∃ nw tp', GoodRead v b news' ∧ news' = nw ++ ((x, instObj 506 d) :: (d, wd w (l ++ [13, 10]) td ((l.length : Nat) : Int) tp' k1 k2) :: rest)) := h x d e1 e2 td tp k1 k2
section
variable {prog : Program} {w : World} {A : Around} {s : Shared}
theorem codeN_call_cells {R : Flow → Shared → Prop} {a : Addr} {o : Obj} {fd : FuncData} {body : List Stmt} {vals : List Value} {binds : List (Str × Value)}
    (hroom : A.depth < recursionLimit) (ho : s.heap.get? a = some o) (hdata : o.data = .func fd) (hlim : s.heap.NoLimit) (hcd : s.heap.CodeRec fd.code fd.qualname)
    (hbody : fd.body = .stmts body) (hbind : bindArgs fd ⟨vals, []⟩ = pure binds) (hclo : fd.closure = [])
    (hkind : ∀ x ∈ binds, fd.scope.names.lookup x.1 = some .local ∨ (fd.scope.names.lookup x.1 = some .cell ∧ ((cellsFrom (s.heap.objs.size + 1) fd.scope.names []).lookup x.1).isSome = true))
    (h : ∀ s₁, InCallC s (callEnvC fd s.heap.objs.size a).locals (bindL (callEnvC fd s.heap.objs.size a).kindOf binds fun _ => none) (callEnvC fd s.heap.objs.size a).cells
        (bindC (callEnvC fd s.heap.objs.size a).kindOf binds fun _ => none) s₁ →
      wpN (model prog w) (A.deeper (callEnvC fd s.heap.objs.size a)) (execs body (callEnvC fd s.heap.objs.size a)) (fun f s' => R (.ret (match f with | .ret v => v | _ => .none)) s') s₁)
    (hco : fd.scope.isCoroutine = false := by rfl) (hgen : fd.scope.isGenerator = false := by rfl) (hk : fd.scope.kind = .function := by rfl) :
    codeN (model prog w) A (.call (.ref a) ⟨vals, []⟩) R s := by
  refine codeN_of_tree ?_
  show wpN _ A.in1 (callAny (.ref a) ⟨vals, []⟩) _ s
  simp only [callAny]
  obtain ⟨cl, dt, data, sl⟩ := o
  simp only at hdata
  subst hdata
  refine wpN_bind (wpN_of (wpAny_load ho ?_))
  obtain ⟨c, oC, vs, tq, hc, hoc, hdc, hq⟩ := hcd
  simp only [callFunction, hco, hgen, hc, hbody]
  refine wpN_bind (m := field (.ref c) 1) (wpN_of (wpAny_field hoc hdc hq ?_))
  refine wpN_bind (wpN_pure ?_)
  rw [hbind, hclo]
  refine wpN_bind (wpN_pure ?_)
  refine wpN_bind (wpN_of (wpAny_newFunctionEnv_cells hk hkind fun env he s' x => ?_))
  subst he
  refine wpN_bind (wpN_of (wpAny_enterFrame (hlim.keeps x.toInCall.keep) hroom ?_))
  rw [← hc]
  exact wpN_pure ⟨rfl, rfl, codeN_func (h s' x)⟩
theorem callN_cells {R : Flow → Shared → Prop} {name : Str} {params : Arguments} {body : List Stmt} {scope : Scope}
    {pm cd doc : Value} {a : Addr} {o : Obj} {args : List Value} {binds : List (Str × Value)}
    (hroom : A.depth < recursionLimit) (ho : s.heap.get? a = some o) (hdata : o.data = .func (PySem.Calls.docDef name params body scope pm cd doc)) (hlim : s.heap.NoLimit) (hcd : s.heap.CodeRec cd name)
    (hbind : bindArgs (PySem.Calls.docDef name params body scope pm cd doc) ⟨args, []⟩ = pure binds)
    (hkind : ∀ x ∈ binds, scope.names.lookup x.1 = some .local ∨ (scope.names.lookup x.1 = some .cell ∧ ((cellsFrom (s.heap.objs.size + 1) scope.names []).lookup x.1).isSome = true))
    (hnd : ((cellsFrom 0 scope.names []).map (·.1)).Nodup)
    (h : ∀ h₁ tk cells, Fr s.heap s.heap.objs.size h₁ (bindL (envOfC name scope s.heap.objs.size a cd).kindOf binds fun _ => none) → News s.heap s.heap.objs.size h₁ cells →
      CellsAre (bindC (envOfC name scope s.heap.objs.size a cd).kindOf binds fun _ => none) (cellsFrom (s.heap.objs.size + 1) scope.names []) cells →
      wpN (model prog w) (A.deeper (envOfC name scope s.heap.objs.size a cd)) (execs body (envOfC name scope s.heap.objs.size a cd))
        (fun f s' => R (.ret (match f with | .ret v => v | _ => .none)) s') { s with heap := h₁, toks := tk })
    (hco : scope.isCoroutine = false := by rfl) (hgen : scope.isGenerator = false := by rfl) (hk : scope.kind = .function := by rfl) :
    codeN (model prog w) A (.call (.ref a) ⟨args, []⟩) R s := by
  refine codeN_call_cells (fd := PySem.Calls.docDef name params body scope pm cd doc) (body := body) hroom ho hdata hlim hcd rfl hbind rfl hkind (fun s₁ x => ?_) hco hgen hk
  obtain ⟨h₁, tk, rfl, _⟩ := x.done
  have Y9 : PyProof.Rows.Cl s.heap.objs.size (cellsFrom (s.heap.objs.size + 1) scope.names []) h₁ (bindC (envOfC name scope s.heap.objs.size a cd).kindOf binds fun _ => none) := ⟨x.cell, x.apart, x.above⟩
  obtain ⟨cells, N, Y⟩ := PyProof.Rows.Cl.news (h₀ := s.heap) (Nat.le_refl _) fun n c hm => ⟨Y9.cell n c (lookup_of_mem_nodup (cellsFrom_names scope.names 0 (s.heap.objs.size + 1) [] [] rfl ▸ hnd) hm), Y9.above n c hm⟩
  exact h h₁ tk cells ⟨x.toInCall.ns, x.toInCall.keep, x.toInCall.fresh⟩ N Y
end
section
variable {prog : Program} {w : World} {A : Around} {s : Shared} {env : Env}
theorem nExecs_cut {st : Stmt} {rest : List Stmt} {Q : Flow → Shared → Prop} {P : Shared → Prop} (h : wpN (model prog w) A (exec st env) (fun f s' => f = .next ∧ P s') s) (k : ∀ s', P s' → wpN (model prog w) A (execs rest env) Q s') :
    wpN (model prog w) A (execs (st :: rest) env) Q s := nExecs_cons (wpN_mono h fun f s' ⟨e, p⟩ => by subst e; exact k s' p)
end
theorem ints_at {vs : List Value} {ns : List Int} (h : IntsAre vs ns) {i : Nat} {v : Value} (hv : vs[i]? = some v) : ∃ n t, ns[i]? = some n ∧ v = .int n t := by
  induction h generalizing i with
  | nil => simp at hv
  | cons x u h ih =>
    cases i with
    | zero => simp at hv; exact ⟨x, u, rfl, hv.symm⟩
    | succ i => exact ih (by simpa using hv)
theorem ints_mk : ∀ {vs : List Value}, (∀ (i : Nat) (y : Value), vs[i]? = some y → ∃ n t, y = Value.int n t ∧ 0 ≤ n) → ∃ ns : List Int, IntsAre vs ns ∧ (∀ n ∈ ns, 0 ≤ n) ∧ ns.length = vs.length
  | [], _ => ⟨[], .nil, (fun _ h => nomatch h), rfl⟩
  | v :: vs, h => by
    obtain ⟨n, t, rfl, hn⟩ := h 0 v rfl
    obtain ⟨ns, h1, h2, h3⟩ := ints_mk (vs := vs) fun i y hy => h (i + 1) y (by simpa using hy)
    exact ⟨n :: ns, .cons n t h1, (fun m hm => by rcases List.mem_cons.mp hm with rfl | hm; exact hn; exact h2 m hm), by simp [h3]⟩
end
section
theorem News.picks {h₀ h : Heap} {L : Addr} {news : List (Addr × Obj)} (N : News h₀ L h news) (is : List Nat) : News h₀ L h (is.filterMap fun i => news[i]?) := fun p hp => by
  obtain ⟨i, _, hi⟩ := List.mem_filterMap.mp hp
  exact N p (List.mem_of_getElem? hi)
def MenuP : List (Str × List UInt8) := [(Str.ofString "INBOX", [73, 78, 66, 79, 88]), (Str.ofString "a/b", [97, 47, 98]), (Str.ofString "two words", [34, 116, 119, 111, 32, 119, 111, 114, 100, 115, 34]), (Str.ofString "", [34, 34])]
def MenuEnd (h₀ : Heap) (L : Addr) (m : Str → Option Value) (nw : List (Addr × Obj)) (s : Shared) (f : Flow) (s' : Shared) : Prop :=
  f = .next ∧ ∃ h' tk y told t1 t2, (y, told) ∈ MenuP ∧ s' = { s with heap := h', toks := tk } ∧ Fr h₀ L h' (fun z => if z = Str.ofString "told" then some (.bytes told.toArray t2) else if z = Str.ofString "name" then some (.str y t1) else m z) ∧ News h₀ L h' nw
theorem menu_cut {prog : Program} {w : World} {A : Around} {s : Shared} {h₀ : Heap} {L : Addr} {m : Str → Option Value} {nw : List (Addr × Obj)} {t : Sem Flow} {Q : Flow → Shared → Prop} (_F : Fr h₀ L s.heap m) (_N : News h₀ L s.heap nw)
    (h : wpAny (model prog w) A t (MenuEnd h₀ L m nw s) NoE s)
    (k : ∀ h' tk y told t1 t2, (y, told) ∈ MenuP → Fr h₀ L h' (fun z => if z = Str.ofString "told" then some (.bytes told.toArray t2) else if z = Str.ofString "name" then some (.str y t1) else m z) → News h₀ L h' nw → Q .next { s with heap := h', toks := tk }) : wpN (model prog w) A t Q s :=
  wpN_mono (wpN_of h) fun f s' hf => by
    obtain ⟨rfl, h', tk, y, told, t1, t2, hm, rfl, F, N⟩ := hf
    exact k h' tk y told t1 t2 hm F N
theorem News.dropF {h₀ h : Heap} {L : Addr} {a b c d e : Addr × Obj} {r : List (Addr × Obj)} (N : News h₀ L h (a :: b :: c :: d :: e :: r)) : News h₀ L h r := fun p hp => N p (.tail _ (.tail _ (.tail _ (.tail _ (.tail _ hp)))))
section
open LCg
variable {prog : Program} {w : World} {A : Around} {E : Value → Shared → Prop} {s : Shared} {h₀ : Heap} {L : Addr} {m : Str → Option Value} {env : Env} {elt : Expr} {x y : Str} {scope : Scope} {cl : List (Str × Addr)} {iter : Expr} {px py pos spos : Pos} {Q : Flow → Shared → Prop}
def SrcA (prog : Program) (w : World) (A : Around) (h₀ : Heap) (L : Addr) (m : Str → Option Value) (env : Env) (elt : Expr) (x y : Str) (scope : Scope) (cl : List (Str × Addr)) (Q : Flow → Shared → Prop) (xv : Value) (s₁ : Shared) : Prop :=
  ∃ (a : Addr) (vs : List Value) (nn : Nat) (news : List (Addr × Obj)), xv = .ref a ∧ A.handled = none ∧ Fr h₀ L s₁.heap m ∧ News h₀ L s₁.heap news ∧ (a, listOf vs.toArray nn) ∈ news ∧ vs.length ≤ sizeLine ∧
    ∀ g : Heap, CompRest prog w A h₀ L m env elt x scope cl { s₁ with heap := g } (SrcAt h₀ a vs.toArray) (fun i v => vs[i]? = some v) (FinA h₀ L m { s₁ with heap := g } y Q) vs.length 0 [] news
theorem Assign_LA (F₀ : Fr h₀ L s.heap m) (hLe : env.locals = L)
    (hsw : swapsWith (.ListComp elt [⟨.Name x px, iter, [], 0⟩] scope pos) (some (.Name y py)) spos.line env = pure true)
    (hclos : closureFor scope env = pure cl) (hcell : ∀ z ∈ scope.names, z.2 ≠ .cell) (hkind : scope.kind = .function)
    (hnames : ∀ z ∈ scope.names, z.2 = .local → scope.names.lookup z.1 = some .local) (hx : scope.names.lookup x = some .local)
    (hy : env.kindOf y = some .local) (hp : (env.scope.kind == .class || (env.scope.kind == .module && env.locals != env.globals)) = false)
    (h : wpAny (model prog w) A (eval iter env) (SrcA prog w A h₀ L m env elt x y scope cl Q) E s)
    (hs : ∀ x, foldedSetIterable iter env x = pure x := by intro _; rfl) :
    wpAny (model prog w) A (exec (.Assign [.Name y py] (.ListComp elt [⟨.Name x px, iter, [], 0⟩] scope pos) spos) env) Q E s := by
  refine Assign_ListComp_U F₀ hLe hsw hclos hcell hkind hnames hx hy hp (wpAny_mono h (fun xv s₁ h₁ => ?_) fun _ _ e => e) hs
  obtain ⟨a, vs, nn, news, rfl, hh, F, N, hm, hsz, R⟩ := h₁
  refine CompSrc.ledger hh F N hm (by rw [List.size_toArray]; exact hsz) fun g => ?_
  have e1 : vs.toArray.size = vs.length := List.size_toArray
  have e2 : (fun (i : Nat) (v : Value) => vs.toArray[i]? = some v) = fun i v => vs[i]? = some v := by funext i v; simp
  rw [e1, e2]
  exact R g
end
theorem strs_mk {q : Str → Prop} : ∀ {vs : List Value}, (∀ (i : Nat) (v : Value), vs[i]? = some v → ∃ y t, v = Value.str y t ∧ q y) → ∃ ps : List Str, StrsAre vs ps ∧ (∀ p ∈ ps, q p) ∧ ps.length = vs.length
  | [], _ => ⟨[], .nil, (fun _ h => nomatch h), rfl⟩
  | v :: vs, h => by
    obtain ⟨n, t, rfl, hn⟩ := h 0 v rfl
    obtain ⟨ns, h1, h2, h3⟩ := strs_mk (vs := vs) fun i y hy => h (i + 1) y (by simpa using hy)
    exact ⟨n :: ns, .cons n t h1, (fun m hm => by rcases List.mem_cons.mp hm with rfl | hm; exact hn; exact h2 m hm), by simp [h3]⟩
end
section
def wOf (X : Str) : List UInt8 := X.cps.toList.map Nat.toUInt8
def WordOK (X y : Str) : Bool := decide (X.cps.toList = (wOf X).map UInt8.toNat) && (strW (wOf X) == y) && decide (0 < (wOf X).length) && (wOf X).all (fun c => isAtom c.toNat) && decide ((wOf X).length ≤ 20)
theorem sw_cases {y : Str} (h : (SWc.any (· == y)) = true) : y = Str.ofString "MESSAGES" ∨ y = Str.ofString "UIDNEXT" ∨ y = Str.ofString "UIDVALIDITY" ∨ y = Str.ofString "UNSEEN" ∨ y = Str.ofString "DELETED" ∨ y = Str.ofString "SIZE" ∨ y = Str.ofString "RECENT" ∨ y = Str.ofString "HIGHESTMODSEQ" := by
  rw [← SW_eq] at h
  obtain ⟨x, hx, e⟩ := List.any_eq_true.mp h
  have e' : x = y := by simpa using e
  subst e'
  simpa [SWs] using hx
section
open PySem.Builtin PySem.Builtin._codecs
theorem enc_tree (x : Str) (t u : Tok) : «str.encode» ⟨[.str x t, .str (Str.ofString "ascii") u], []⟩ = ((encodeNarrow "str.encode" asciiCodec none (.str x t) x >>= fun r => mkBytes r) >>= fun v => ret v) := by kernel_rfl
theorem find_none {l : List Nat} (h : ∀ c ∈ l, c < 128) : (l.toArray.findIdx? asciiCodec.bad) = none := by
  rw [List.findIdx?_toArray, List.findIdx?_eq_none_iff]
  intro c hc
  have := h c hc
  show decide (c ≥ 128) = false
  simpa using this
theorem forIn_two {σ : Type} (f : Nat → σ → Sem (ForInStep σ)) (a b : σ) (n : Nat) (h1 : f 0 a = pure (.yield b)) (h2 : ∀ i, f i b = pure (.done b)) : forIn (List.range' 0 (n + 1) 1) a f = pure b := by
  rw [List.range'_succ, List.forIn_cons, h1]
  show forIn (List.range' (0 + 1) n 1) b f = pure b
  cases n with
  | zero => rfl
  | succ n =>
    rw [List.range'_succ, List.forIn_cons, h2]
    rfl
theorem foldl_bytes : ∀ (l : List Nat) (acc : Array UInt8), l.foldl (fun acc y => acc ++ (asciiCodec.bytesOf y).toArray) acc = acc ++ (l.map Nat.toUInt8).toArray
  | [], acc => by simp
  | c :: r, acc => by
    rw [List.foldl_cons, foldl_bytes r]
    show acc ++ #[c.toUInt8] ++ _ = _
    apply Array.ext'
    simp
theorem narrow_eq {id : String} {self : Value} {l : List Nat} (h : ∀ c ∈ l, c < 128) (hz : l.length ≤ sizeLine) : encodeNarrow id asciiCodec none self (mkS l) = pure (l.map Nat.toUInt8).toArray := by
  unfold encodeNarrow
  dsimp only
  rw [Std.Legacy.Range.forIn_eq_forIn_range']
  cases l with
  | nil => rfl
  | cons c r =>
    have hc : asciiCodec.bad c = false := by
      have := h c (.head _)
      show decide (c ≥ 128) = false
      simpa using this
    have e : Std.Legacy.Range.size [:(mkS (c :: r)).length] = r.length + 1 := by simp [Std.Legacy.Range.size, Str.length]
    rw [e]
    rw [forIn_two (b := ((c :: r).length, ((c :: r).map Nat.toUInt8).toArray, {})) (n := r.length)]
    · rfl
    · dsimp only
      rw [if_neg (show ¬ (#[] : Array UInt8).size > sizeLine from Nat.not_lt.mpr (Nat.zero_le _))]
      show (if (!asciiCodec.bad c) = true then _ else _) = _
      rw [if_pos (by rw [hc]; rfl)]
      have e1 : (c :: r).toArray.extract 0 = (c :: r).toArray := by simp
      rw [e1, find_none h]
      have e2 : (c :: r).toArray.extract 0 ((none : Option Nat).getD (c :: r).toArray.size) = (c :: r).toArray := by simp
      rw [e2]
      have e3 := foldl_bytes (c :: r) #[]
      rw [List.foldl_toArray, e3]
      simp
    · intro i
      dsimp only
      rw [if_neg (by rw [List.size_toArray, List.length_map]; exact Nat.not_lt.mpr hz)]
      rw [show (c :: r).toArray[(c :: r).length]? = none from by simp]
theorem enc_meets {l : List Nat} {t u : Tok} (h : ∀ c ∈ l, c < 128) (hz : l.length ≤ 16777216) :
    Meets («str.encode» ⟨[.str (mkS l) t, .str (Str.ofString "ascii") u], []⟩) (fun _ R s => ∀ t' k, R (.ok (.ret (.bytes (l.map Nat.toUInt8).toArray t'))) { s with toks := k }) := by
  refine .of_wp fun prog w A R s hS => ?_
  rw [enc_tree, narrow_eq h (by rw [sizeLine_eq]; exact hz)]
  refine wpAny_bind (wpAny_bind (wpAny_pure ?_))
  exact wpAny_mkBytes (wpAny_pure ⟨_, rfl, hS _ _⟩) (by rw [List.size_toArray, List.length_map, sizeLine_eq]; exact hz)
theorem encodeA {prog : Program} {w : World} {A : Around} {E : Value → Shared → Prop} {s : Shared} {l : List Nat} {t u : Tok} {Q : Value → Shared → Prop} (h : ∀ c ∈ l, c < 128) (hz : l.length ≤ 16777216)
    (k : ∀ t' k, Q (.bytes (l.map Nat.toUInt8).toArray t') { s with toks := k }) : wpAny (model prog w) A (call (.builtin "str.encode") [.str (mkS l) t, .str (Str.ofString "ascii") u]) Q E s :=
  call_meets F.slot_str_encode (typeIs_str _ _ _) F.entry_str_encode (F.args_str_encode_2 _ _) (enc_meets h hz) k
end
theorem words_mk : ∀ {vs : List Value} {ps : List Str}, vs.length = ps.length → (∀ (i : Nat) (v : Value), vs[i]? = some v → ∃ X t y, v = Value.str X t ∧ ps[i]? = some y ∧ WordOK X y = true) →
    ∃ ws : List (List UInt8), StrsAre vs ((ws.map fun w => w.map UInt8.toNat).map mkS) ∧ ps = ws.map strW ∧ ∀ w ∈ ws, 0 < w.length ∧ w.length ≤ 20 ∧ ∀ c ∈ w, isAtom c.toNat = true
  | [], [], _, _ => ⟨[], .nil, rfl, fun _ h => nomatch h⟩
  | [], _ :: _, hl, _ => by simp at hl
  | _ :: _, [], hl, _ => by simp at hl
  | v :: vs, p :: ps, hl, h => by
    obtain ⟨X, t, y, rfl, hy, ok⟩ := h 0 v rfl
    have hy' : p = y := by simpa using hy
    subst hy'
    obtain ⟨ws, h1, h2, h3⟩ := words_mk (vs := vs) (ps := ps) (by simpa using hl) fun i v hv => by
      obtain ⟨X, t, y, e, hy, ok⟩ := h (i + 1) v (by simpa using hv)
      exact ⟨X, t, y, e, by simpa using hy, ok⟩
    simp only [WordOK, Bool.and_eq_true, decide_eq_true_eq, beq_iff_eq] at ok
    obtain ⟨⟨⟨⟨o1, o2⟩, o3⟩, o4⟩, o5⟩ := ok
    refine ⟨wOf X :: ws, ?_, by rw [List.map_cons, o2, ← h2], ?_⟩
    · have e : X = mkS ((wOf X).map UInt8.toNat) := by
        show X = ⟨((wOf X).map UInt8.toNat).toArray⟩
        rw [← o1]
      rw [List.map_cons, List.map_cons, ← e]
      exact .cons X t h1
    · intro w hw
      rcases List.mem_cons.mp hw with rfl | hw
      · exact ⟨o3, o5, List.all_eq_true.mp o4⟩
      · exact h3 w hw
end
section
theorem menu_len {y : Str} {told : List UInt8} (h : (y, told) ∈ MenuP) : told.length ≤ 11 := by
  simp only [MenuP, List.mem_cons, List.not_mem_nil, or_false, Prod.mk.injEq] at h
  rcases h with ⟨_, rfl⟩ | ⟨_, rfl⟩ | ⟨_, rfl⟩ | ⟨_, rfl⟩ <;> decide
theorem sum_le {k : Nat} : ∀ {cw : List (List Nat)}, (∀ w ∈ cw, w.length ≤ k) → (cw.map List.length).sum ≤ k * cw.length
  | [], _ => by simp
  | w :: cw, h => by
    have := sum_le (cw := cw) fun v hv => h v (.tail _ hv)
    have h1 := h w (.head _)
    rw [List.map_cons, List.sum_cons, List.length_cons, Nat.mul_add]
    omega
theorem toU8_back (w : List UInt8) : (w.map UInt8.toNat).map Nat.toUInt8 = w := by
  rw [List.map_map]
  conv => rhs; rw [← List.map_id w]
  apply List.map_congr_left
  intro c _
  simp
theorem join_bytes (w0 : List UInt8) (ws : List (List UInt8)) : (joinN ((w0 :: ws).map fun w => w.map UInt8.toNat)).map Nat.toUInt8 = w0 ++ sepW ws := by
  show (w0.map UInt8.toNat ++ (ws.map fun w => w.map UInt8.toNat).flatMap fun v => 32 :: v).map Nat.toUInt8 = _
  rw [List.map_append, toU8_back, List.map_flatMap, List.flatMap_map]
  congr 1
  show _ = ws.flatMap fun w => 32 :: w
  congr 1
  funext w
  rw [List.map_cons, toU8_back]
  rfl
theorem method_encode {M : Model} {A : Around} {E : Value → Shared → Prop} {s : Shared} {x : Str} {t : Tok} {pl : Sem Bool} {Q : Value × List Value → Shared → Prop} (h : Q (.builtin "str.encode", [.str x t]) s) : wpAny M A (getMethod (.str x t) (Str.ofString "encode") pl) Q E s :=
  getMethod_builtin (typeIs_str _ _ _) F.plainAttrs_str F.slot_str_encode F.type_str_encode (fun _ e => nomatch e) h
def LawEnd (s₁ : Shared) (L : Addr) (f : Flow) (s' : Shared) : Prop := f = .ret (.bool true) ∧ ∃ h' tk m, s' = { s₁ with heap := h', toks := tk } ∧ Fr s₁.heap L h' m
theorem LawEnd.mk {s₁ : Shared} {L : Addr} {h' : Heap} {tk : Nat} {m : Str → Option Value} (F : Fr s₁.heap L h' m) : LawEnd s₁ L (.ret (.bool true)) { s₁ with heap := h', toks := tk } := ⟨rfl, h', tk, m, rfl, F⟩
theorem ne_cons {a d : Addr} {o : Obj} {r : List (Addr × Obj)} (h : @LT.lt Nat _ a d) (hr : ∀ p ∈ r, p.1 ≠ d) : ∀ p ∈ (a, o) :: r, p.1 ≠ d := fun p hp => by
  rcases List.mem_cons.mp hp with rfl | hp
  · exact Nat.ne_of_lt h
  · exact hr p hp
theorem ne_nil {d : Addr} : ∀ p ∈ ([] : List (Addr × Obj)), p.1 ≠ d := fun _ h => nomatch h
theorem shaped_stat {y : Str} {ys : List Str} (hy : PyData.strOk y = true) (h : ∀ z ∈ ys, PyData.strOk z = true) : PySem.SeqAt.shaped (.tuple [.str y, .tuple (ys.map PyData.str)]) = true := by
  simp [PySem.SeqAt.shaped, PyData.canLay0, PyData.canLayAll0, PyData.depth, PyData.depthAll, can_strs h, depth_strs, hy]
theorem reads_stat {h₀ h : Heap} {L a u : Addr} {y : Str} {t : Tok} {vs : List Value} {ps : List Str} {news : List (Addr × Obj)} (N : News h₀ L h news) (ha : (a, tpo [.str y t, .ref u]) ∈ news) (hu : (u, tpo vs) ∈ news) (S : StrsAre vs ps) :
    Reads h (.ref a) (.tuple [.str y, .tuple (ps.map PyData.str)]) [] :=
  reads_tuple_at (N _ ha).1 rfl rfl (ReadsAll.cons (as := []) (bs := []) (Reads.str y t) (ReadsAll.cons (as := []) (bs := []) (reads_tuple_at (N _ hu).1 rfl rfl (reads_strs S)) .nil))
theorem stat_ne {prog : Program} {w : World} {A : Around} {E : Value → Shared → Prop} {s : Shared} {h₀ : Heap} {L a b u D : Addr} {y : Str} {t t2 : Tok} {vs us : List Value} {ps : List Str} {news : List (Addr × Obj)} {Q : Value → Shared → Prop} (N : News h₀ L s.heap news)
    (ha : (a, tpo [.str y t, .ref u]) ∈ news) (hu : (u, tpo vs) ∈ news) (hb : (b, tpo [.str y t2, .ref D]) ∈ news) (hD : (D, tpo us) ∈ news) (S1 : StrsAre vs ps) (S2 : StrsAre us ps) (hy : PyData.strOk y = true) (hok : ∀ p ∈ ps, PyData.strOk p = true)
    (hun : A.units + 64 < cLine) (h : Q (.bool false) s) : wpAny (model prog w) A (compareOp .NotEq (.ref a) (.ref b)) Q E s := by
  refine PyProof.Rows.ne_dataH (reads_stat N ha hu S1) (reads_stat N hb hD S2) (shaped_stat hy hok) (shaped_stat hy hok) hun ?_
  rw [PySem.SeqAt.eqv_refl _ (PySem.SeqAt.canLay_of_shaped (shaped_stat hy hok))]
  exact h
theorem menu_ok {y : Str} {told : List UInt8} (h : (y, told) ∈ MenuP) : PyData.strOk y = true := by
  simp only [MenuP, List.mem_cons, List.not_mem_nil, or_false, Prod.mk.injEq] at h
  rcases h with ⟨rfl, rfl⟩ | ⟨rfl, rfl⟩ | ⟨rfl, rfl⟩ | ⟨rfl, rfl⟩ <;> decide +kernel
end
section
theorem menu_as {y : Str} {told : List UInt8} (h : (y, told) ∈ MenuP) : ∃ cs : List Nat, y = mkS cs ∧ PlainS cs ∧ AsO (cs.map fun c => c.toUInt8) told := by
  have ps : ∀ w : List Nat, (decide (w.length ≤ 1000) && w.all fun (c : Nat) => isPlain (c : Int) && c != 38) = true → PlainS w := fun w h => by
    simp only [Bool.and_eq_true, decide_eq_true_eq] at h
    refine ⟨h.1, fun c hc => ?_⟩
    have := List.all_eq_true.mp h.2 c hc
    simpa using this
  have pl : ∀ w : List UInt8, (w.all fun c => isPlain c.toNat) = true → ∀ c ∈ w, isPlain c.toNat = true := fun w h => List.all_eq_true.mp h
  have asa : ∀ w : List UInt8, (w.all fun c => isAstring c.toNat) = true → ∀ c ∈ w, isAstring c.toNat = true := fun w h => List.all_eq_true.mp h
  simp only [MenuP, List.mem_cons, List.not_mem_nil, or_false, Prod.mk.injEq] at h
  rcases h with ⟨rfl, rfl⟩ | ⟨rfl, rfl⟩ | ⟨rfl, rfl⟩ | ⟨rfl, rfl⟩
  · exact ⟨[73, 78, 66, 79, 88], by decide +kernel, ps _ (by decide +kernel), by decide, pl _ (by decide +kernel), .inl ⟨by decide, asa _ (by decide +kernel), by decide +kernel, by decide +kernel⟩⟩
  · exact ⟨[97, 47, 98], by decide +kernel, ps _ (by decide +kernel), by decide, pl _ (by decide +kernel), .inl ⟨by decide, asa _ (by decide +kernel), by decide +kernel, by decide +kernel⟩⟩
  · exact ⟨[116, 119, 111, 32, 119, 111, 114, 100, 115], by decide +kernel, ps _ (by decide +kernel), by decide, pl _ (by decide +kernel), .inr (.inr ⟨by decide, by decide +kernel, by decide +kernel, by decide +kernel⟩)⟩
  · exact ⟨[], by decide +kernel, ps _ (by decide +kernel), by decide, pl _ (by decide +kernel), .inr (.inl ⟨by decide, by decide +kernel⟩)⟩
theorem ne_same {prog : Program} {w : World} {A : Around} {E : Value → Shared → Prop} {s : Shared} {b c : List UInt8} {t u : Tok} {Q : Value → Shared → Prop} (e : b = c) (h : Q (.bool false) s) : wpAny (model prog w) A (compareOp .NotEq (.bytes b.toArray t) (.bytes c.toArray u)) Q E s :=
  ne_bytes (by subst e; simpa using h)
theorem upC_le {c : Nat} (h : c ≤ 127) : upC c ≤ 127 := by
  unfold upC; split <;> omega
end
section
section
open LCg LCt
variable {prog : Program} {w : World} {A : Around} {E : Value → Shared → Prop} {s : Shared} {h₀ : Heap} {L : Addr} {m : Str → Option Value} {env : Env} {ct elt : Expr} {x : Str} {scope : Scope} {cl : List (Str × Addr)} {iter : Expr} {px pos : Pos} {Q : Value → Shared → Prop} {S : List (Addr × Obj) → Prop} {P : Nat → Value → Prop} {Fin : List Value → List (Addr × Obj) → Prop} {news : List (Addr × Obj)}
def NoEl (h₀ : Heap) (L : Addr) (m : Str → Option Value) (s : Shared) (all : List (Addr × Obj)) (ok : Bool) (s₂ : Shared) : Prop :=
  ok = false ∧ ∃ h' tk', s₂ = { s with heap := h', toks := tk' } ∧ Fr h₀ L h' m ∧ News h₀ L h' all
theorem restT_none {n : Nat}
    (turn : ∀ i v I oI C oC D m₂ h tk (E' : Value → Shared → Prop), i < n → P i v → NsObj oC m₂ → m₂ x = some v → Fr h₀ L h m → News h₀ L h ((I, oI) :: (C, oC) :: (D, lst []) :: news) → Off3 I C D news → ((@Ne Nat I C) ∧ (@Ne Nat I D) ∧ (@Ne Nat C D)) →
      wpAny (model prog w) A (isTrue ct (compEnvC scope cl C env) (eval ct (compEnvC scope cl C env))) (NoEl h₀ L m { s with heap := h, toks := tk } ((I, oI) :: (C, oC) :: (D, lst []) :: news)) E' { s with heap := h, toks := tk })
    (hS : S news) (fin : Fin [] news) : CompRestT prog w A h₀ L m env ct elt x scope cl s S P Fin n 0 [] news := by
  have key : ∀ (j i : Nat), i + j = n → CompRestT prog w A h₀ L m env ct elt x scope cl s S P Fin j i [] news := by
    intro j
    induction j with
    | zero => intro i hi; exact CompRestT.zero fin
    | succ j ih =>
      intro i hi
      refine CompRestT.succ ?_
      intro v I oI C oC D m₂ h tk E' hv hC hx F N off ne
      refine wpAny_mono (turn i v I oI C oC D m₂ h tk E' (by omega) hv hC hx F N off ne) (fun ok s₂ hq => ?_) fun _ _ e => e
      obtain ⟨rfl, h', tk', e, F', N'⟩ := hq
      rw [if_neg Bool.false_ne_true]
      exact ⟨h', tk', news, e, F', N', off, hS, ih (i + 1) (by omega)⟩
  exact key n 0 (by omega)
def SrcB (prog : Program) (w : World) (A : Around) (h₀ : Heap) (L : Addr) (m : Str → Option Value) (env : Env) (ct elt : Expr) (x : Str) (scope : Scope) (cl : List (Str × Addr)) (Q : Value → Shared → Prop) (xv : Value) (s₁ : Shared) : Prop :=
  ∃ (a : Addr) (vs : List Value) (nn : Nat) (news : List (Addr × Obj)), xv = .ref a ∧ A.handled = none ∧ Fr h₀ L s₁.heap m ∧ News h₀ L s₁.heap news ∧ (a, listOf vs.toArray nn) ∈ news ∧ vs.length ≤ sizeLine ∧
    ∀ g : Heap, CompRestT prog w A h₀ L m env ct elt x scope cl { s₁ with heap := g } (SrcAt h₀ a vs.toArray) (fun i v => vs[i]? = some v) (FinE h₀ L m { s₁ with heap := g } Q) vs.length 0 [] news
theorem ListComp_B (F₀ : Fr h₀ L s.heap m) (hclos : closureFor scope env = pure cl) (hcell : ∀ y ∈ scope.names, y.2 ≠ .cell) (hkind : scope.kind = .function)
    (hnames : ∀ y ∈ scope.names, y.2 = .local → scope.names.lookup y.1 = some .local) (hx : scope.names.lookup x = some .local)
    (h : wpAny (model prog w) A (eval iter env) (SrcB prog w A h₀ L m env ct elt x scope cl Q) E s)
    (hs : ∀ x, foldedSetIterable iter env x = pure x := by intro _; rfl) :
    wpAny (model prog w) A (eval (.ListComp elt [⟨.Name x px, iter, [ct], 0⟩] scope pos) env) Q E s := by
  refine ListComp_T F₀ hclos hcell hkind hnames hx (wpAny_mono h (fun xv s₁ h₁ => ?_) fun _ _ e => e) hs
  obtain ⟨a, vs, nn, news, rfl, hh, F, N, hm, hsz, R⟩ := h₁
  refine CompSrcT.ledger hh F N hm (by rw [List.size_toArray]; exact hsz) fun g => ?_
  have e1 : vs.toArray.size = vs.length := List.size_toArray
  have e2 : (fun (i : Nat) (v : Value) => vs.toArray[i]? = some v) = fun i v => vs[i]? = some v := by funext i v; simp
  rw [e1, e2]
  exact R g
end
theorem Cl0.use {w : World} {mean : ExcName → Option Value} {mg mb : Str → Option Value} {f : Addr} {k : Nat} {news : List (Addr × Obj)} {vs : List Value} {P : Value → List (Addr × Obj) → Prop}
    {dp un : Nat} {gd : Option (List Code)} {cn : Str} {cs : Scope} {a : Addr} {ccd : Value} {cl : List (Str × Addr)} {A₀ : Around} {base h₀ : Heap} {L : Addr} {m : Str → Option Value} {s : Shared} {Q E : Value → Shared → Prop}
    (C : Cl0 w mean mg mb f k news vs P)
    (B : Below A₀ base [] h₀) (F : Fr h₀ L s.heap m) (X : (Mine.hd.heap_39 w.params).In h₀) (N : News h₀ L s.heap news)
    (T : Top Mine.hd.view_39 (looseW Mine.hd.view_39 [Str.ofString "PostError", Str.ofString "literal_octets", Str.ofString "string_octets", Str.ofString "astring_octets"]) mean mg mb h₀)
    (hk : cs.kind = .function) (hd : dp + k < recursionLimit) (hu : un + 8 * k < cLine)
    (ret : ∀ v news' h' tk', P v news' → Fr h₀ L h' m → News h₀ L h' news' → Q v { s with heap := h', toks := tk' }) :
    wpAny (model PySem.Challenge.rw_pq0950_01.prog w) (ktrTop dp un gd cn cs L a ccd cl []) (call (.ref f) vs) Q E s :=
  C _ _ _ _ _ _ _ _ _ _ _ _ _ _ _ _ B F X N T hk hd hu ret
theorem lists_ne0 {prog : Program} {w : World} {A : Around} {E : Value → Shared → Prop} {s : Shared} {h₀ : Heap} {L a b : Addr} {n m : Nat} {news : List (Addr × Obj)} {Q : Value → Shared → Prop} (N : News h₀ L s.heap news) (ha : (a, listOf #[] n) ∈ news) (hb : (b, listOf #[] m) ∈ news)
    (hu : A.units + 64 < cLine) (h : Q (.bool false) s) : wpAny (model prog w) A (compareOp .NotEq (.ref a) (.ref b)) Q E s := by
  refine PyProof.Rows.ne_dataH (da := .list []) (db := .list []) (reads_list_at (N _ ha).1 rfl rfl .nil) (reads_list_at (N _ hb).1 rfl rfl .nil) (by decide +kernel) (by decide +kernel) hu ?_
  exact h
end
section
local macro_rules | `(tactic| walk_at $s:str) => `(tactic| k_extra $s)
theorem say0 : True := by
  k_with_none
  k_with "my_room" => first | (refine' roomD ?h9 ?r9; (case h9 => assumption); (case r9 => exact rfl); done) | ktr_room
  k_with "my_units" => first | (refine' roomU ?h9 ?r9; (case h9 => assumption); (case r9 => exact rfl); done) | ktr_units
  k_with "U" => (case k1 => k_asm); (case k2 => k_asm); (case k3 => k_asm); (case k4 => k_extra "my_wire"); (case k5 => k_asm); (case kK => first | exact rfl | assumption); (case kd => k_extra "my_room"); (case ku => k_extra "my_units")
  trivial
local macro_rules | `(tactic| k_all) => `(tactic| assumption)
local macro_rules | `(tactic| boot_fact) => `(tactic| with_reducible exact boot_bytearray)
theorem say1 : True := by
  k_with "my_use" => ((case k1 => k_asm); (case k2 => k_asm); (case k3 => k_asm); (case k4 => k_asm); (case k5 => k_asm); (case kK => first | exact rfl | assumption); (case kd => k_extra "my_room"); (case ku => k_extra "my_units"))
  k_with "my_enter" => (refine' code_def ?k1 ?k2 ?k3 ?k4 ?k5 ?kA ?kF ?kK ?k6 ?k7 ?k8 ?k9 ?kB ?_ ?c2 ?c3 ?c4 ?c5; (case kA => exact rfl); (case kF => exact rfl); (case kK => first | exact rfl | assumption); (case k1 => k_asm); (case k2 => k_asm); (case k3 => k_asm); (case k4 => k_asm); (case k5 => k_asm); (case k6 => k_is); (case k7 => k_is); (case k8 => k_extra "my_room"); (case k9 => first | exact BindsTo.of_eq rfl | exact binds_K (by k_in) rfl (by k_is) rfl rfl rfl); (case c5 => decide); (case kB => exact locs rfl); (case c2 => exact rfl); (case c3 => exact rfl); (case c4 => exact rfl); k_whole; intro _ _ _ _ _ _ B'₉ _ _; (try dsimp only); (try k_lift B'₉); (try k_fold))
  k_with "call ref" => (k_here; k_dflt ( (refine' call_cls ?k1 ?k2 ?k3 ?k4 ?k5 ?k6 ?_; (case k1 => k_asm); (case k2 => k_asm); (case k3 => k_asm); (case k4 => k_is); (case k5 => k_is); (case k6 => k_is); k_whole; intro _ _ _ _ _ l1₉ l2₉; (try k_lt l1₉); (try k_lt2 l2₉); (try k_sweep); k_extra "my_enter")))
  k_with "compareOp In int bytes" => (refine in_bytes (by omega) (by omega) ?_)
  k_with "compareOp NotIn int bytes" => (refine notIn_bytes (by omega) (by omega) ?_)
  k_with "subscriptTail" => ((with_reducible show wpAny _ _ (subscriptTail _ (Expr.Slice _ _ none _) (Value.bytes (List.toArray _) _) (Value.ref _)) _ _ _); (with_reducible rename Fr _ _ _ _ => F'₉); (with_reducible rename News _ _ _ _ => N'₉); (refine slice_B (s := ⟨_, _, _, _, _⟩) F'₉ N'₉ (by omega) (by omega) (by omega) ?_); intro _ _ _ F'₉ N'₉; (try dsimp only))
  k_with "subscriptTail" => ((with_reducible show wpAny _ _ (subscriptTail _ _ (Value.bytes (List.toArray _) _) (Value.int _ _)) _ _ _); (refine KBy.item_N (by omega) (by omega) (by omega) ?_))
  k_with "call builtin:len" => ((with_reducible show wpAny _ _ (call (Value.builtin "len") [Value.bytes _ _]) _ _ _); (refine len_bytes (by simp only [List.size_toArray]; omega) ?_); (try simp only [List.size_toArray]))
  k_with "my_byte0" => first | omega | exact Int.natCast_nonneg _
  k_with "my_byte1" => first | omega | exact Int.ofNat_lt.mpr (UInt8.toNat_lt _)
  k_with "eval Name" => ((first | with_reducible show wpAny _ _ (eval (Expr.Name (PySem.Str.ofString "QUOTE") _) _) _ _ _ | with_reducible show wpAny _ _ (eval (Expr.Name (PySem.Str.ofString "BACKSLASH") _) _) _ _ _ | with_reducible show wpAny _ _ (eval (Expr.Name (PySem.Str.ofString "MOST_QUOTED") _) _) _ _ _); with_unfolding_all (refine guard_global (by rfl) ?_; refine guard_lit (by assumption) (by assumption) (by decide +kernel) ?_; refine tp_int (by assumption) (by assumption) rfl ?_); intro _; (try simp only [Int.reduceToNat]))
  k_with "eval Name" => ((first | with_reducible show wpAny _ _ (eval (Expr.Name (PySem.Str.ofString "DELIMITER") _) _) _ _ _ | with_reducible show wpAny _ _ (eval (Expr.Name (PySem.Str.ofString "INBOX") _) _) _ _ _ | with_reducible show wpAny _ _ (eval (Expr.Name (PySem.Str.ofString "STATUS_WORDS") _) _) _ _ _); with_unfolding_all (refine guard_global (by rfl) ?_; refine guard_lit (by assumption) (by assumption) (by decide +kernel) ?_; refine tp_str (by assumption) (by assumption) rfl ?_); intro _)
  k_with "call builtin:len" => ((with_reducible show wpAny _ _ (call (Value.builtin "len") [Value.str (mkS _) _]) _ _ _); k_dflt (refine len_S (by omega) ?_); intro _ _; (try dsimp only))
  k_with "subscriptTail Name Name str int" => ((with_reducible show wpAny _ _ (subscriptTail _ _ (Value.str (mkS _) _) (Value.int _ _)) _ _ _); k_dflt (refine item_S (by omega) (by omega) (by omega) ?_); intro _ _; (try dsimp only))
  k_with "my_mem" => (simp only [List.mem_cons, true_or, or_true]; done)
  k_with "compareOp Eq int int" => k_dflt (first | refine cmpEq_t (by omega) ?_ | refine cmpEq_f (by omega) ?_)
  k_with "compareOp NotEq int int" => k_dflt (first | refine cmpNe_t (by omega) ?_ | refine cmpNe_f (by omega) ?_)
  k_with "compareOp Lt int int" => k_dflt (first | refine cmpLt_t (by omega) ?_ | refine cmpLt_f (by omega) ?_)
  k_with "compareOp Gt int int" => k_dflt (first | refine cmpGt_t (by omega) ?_ | refine cmpGt_f (by omega) ?_)
  k_with "compareOp In int bytes" => (k_dflt (refine in_bytes_f (by omega) (by omega) (by assumption) ?_))
  k_with "call type:bytes" => ((with_reducible show wpAny _ _ (call (Value.type "bytes") [Value.bytes _ _]) _ _ _); k_dflt (refine bytes_bytes ?_))
  k_with "binaryOp Add bytes bytes" => (k_dflt (refine add_Y ?_ ?_); (case refine_1 => first | omega | (simp only [List.length_append, List.length_cons, List.length_nil, List.length_map]; omega)); intro _ _; (try dsimp only))
  trivial
theorem walk_off1 : True := by
  w_top off
  trivial
section
theorem c_is_printable {w : World} {mean : ExcName → Option Value} {mg mb : Str → Option Value} (news : List (Addr × Obj)) (c : Int) (t : Tok) :
   Cl w mean mg mb 272 1 news [.int c t] (BoolR (isPrintable c) news) := by
  unfold Cl
  k_fill
  intro dp un gd cn cs a ccd cl outer A₀ base h₀ L m s Q E B F X N T hk hd hu hret
  refine wpAny_call ?_
  k_dflt (refine' code_def (binds := [(Str.ofString "code", Value.int c t)]) ?k1 ?k2 ?k3 ?k4 ?k5 ?kA ?kF ?kK ?k6 ?k7 ?k8 ?k9 ?kB ?_ ?c2 ?c3 ?c4 ?c5; (case kA => exact rfl); (case kF => exact rfl); (case kK => assumption); (case k1 => k_asm); (case k2 => k_asm); (case k3 => k_asm); (case k4 => k_asm); (case k5 => k_asm); (case k6 => k_is); (case k7 => k_is); (case k8 => k_extra "my_room"); (case k9 => first | exact BindsTo.of_eq rfl | exact binds_K (by k_in) rfl (by k_is) rfl rfl rfl); (case c5 => decide); (case kB => exact locs rfl); (case c2 => exact rfl); (case c3 => exact rfl); (case c4 => exact rfl); k_whole; intro g' L' h' FG' F' N' B' X' T'; (try dsimp only); (try k_lift B'); (try k_fold))
  k_steps
  all_goals (refine hret _ _ _ _ ⟨?_, rfl⟩ (by k_asm) (by k_asm))
  · simp [isPrintable]; omega
  · simp [isPrintable]; omega
theorem say2 : True := by
  k_with "call ref" => ((with_reducible show wpAny _ _ (call (Value.ref 272) [Value.int _ _]) _ _ _); k_dflt (refine' Cl.useB (c_is_printable _ _ _) ?k1 ?k2 ?k3 ?k4 ?k5 ?kK ?kd ?ku ?_; k_extra "my_use"); intro _ _ _ _; (try dsimp only); (try k_fold))
  k_with "compareOp NotIn int bytes" => ((rename _ = true => hp); (simp only [isPrintable, decide_eq_true_eq] at hp); (refine notIn_bytes (by omega) (by omega) ?_))
  trivial
theorem c_is_atom_code {w : World} {mean : ExcName → Option Value} {mg mb : Str → Option Value} (news : List (Addr × Obj)) (c : Int) (t : Tok) :
   Cl w mean mg mb 279 2 news [.int c t] (BoolR (isAtom c) news) := by
  unfold Cl
  k_fill
  intro dp un gd cn cs a ccd cl outer A₀ base h₀ L m s Q E B F X N T hk hd hu hret
  refine wpAny_call ?_
  k_dflt (refine' code_def (binds := [(Str.ofString "code", Value.int c t)]) ?k1 ?k2 ?k3 ?k4 ?k5 ?kA ?kF ?kK ?k6 ?k7 ?k8 ?k9 ?kB ?_ ?c2 ?c3 ?c4 ?c5; (case kA => exact rfl); (case kF => exact rfl); (case kK => assumption); (case k1 => k_asm); (case k2 => k_asm); (case k3 => k_asm); (case k4 => k_asm); (case k5 => k_asm); (case k6 => k_is); (case k7 => k_is); (case k8 => k_extra "my_room"); (case k9 => first | exact BindsTo.of_eq rfl | exact binds_K (by k_in) rfl (by k_is) rfl rfl rfl); (case c5 => decide); (case kB => exact locs rfl); (case c2 => exact rfl); (case c3 => exact rfl); (case c4 => exact rfl); k_whole; intro g' L' h' FG' F' N' B' X' T'; (try dsimp only); (try k_lift B'); (try k_fold))
  k_steps
  all_goals (refine hret _ _ _ _ ⟨?_, rfl⟩ (by k_asm) (by k_asm))
  · simp_all [isAtom, isPrintable]
  · simp_all [isAtom]
theorem say3 : True := by
  k_with "call ref" => ((with_reducible show wpAny _ _ (call (Value.ref 279) [Value.int _ _]) _ _ _); k_dflt (refine' Cl.useB (c_is_atom_code _ _ _) ?k1 ?k2 ?k3 ?k4 ?k5 ?kK ?kd ?ku ?_; k_extra "my_use"); intro _ _ _ _; (try dsimp only); (try k_fold))
  trivial
theorem c_is_astring_code {w : World} {mean : ExcName → Option Value} {mg mb : Str → Option Value} (news : List (Addr × Obj)) (c : Int) (t : Tok) :
   Cl w mean mg mb 286 3 news [.int c t] (BoolR (isAstring c) news) := by
  unfold Cl
  k_fill
  intro dp un gd cn cs a ccd cl outer A₀ base h₀ L m s Q E B F X N T hk hd hu hret
  refine wpAny_call ?_
  k_dflt (refine' code_def (binds := [(Str.ofString "code", Value.int c t)]) ?k1 ?k2 ?k3 ?k4 ?k5 ?kA ?kF ?kK ?k6 ?k7 ?k8 ?k9 ?kB ?_ ?c2 ?c3 ?c4 ?c5; (case kA => exact rfl); (case kF => exact rfl); (case kK => assumption); (case k1 => k_asm); (case k2 => k_asm); (case k3 => k_asm); (case k4 => k_asm); (case k5 => k_asm); (case k6 => k_is); (case k7 => k_is); (case k8 => k_extra "my_room"); (case k9 => first | exact BindsTo.of_eq rfl | exact binds_K (by k_in) rfl (by k_is) rfl rfl rfl); (case c5 => decide); (case kB => exact locs rfl); (case c2 => exact rfl); (case c3 => exact rfl); (case c4 => exact rfl); k_whole; intro g' L' h' FG' F' N' B' X' T'; (try dsimp only); (try k_lift B'); (try k_fold))
  k_steps
  all_goals (refine hret _ _ _ _ ⟨?_, rfl⟩ (by k_asm) (by k_asm))
  · simp_all [isAstring]
  · simp_all [isAstring]
theorem say4 : True := by
  k_with "call ref" => ((with_reducible show wpAny _ _ (call (Value.ref 286) [Value.int _ _]) _ _ _); k_dflt (refine' Cl.useB (c_is_astring_code _ _ _) ?k1 ?k2 ?k3 ?k4 ?k5 ?kK ?kd ?ku ?_; k_extra "my_use"); intro _ _ _ _; (try dsimp only); (try k_fold))
  trivial
theorem c_is_pattern_code {w : World} {mean : ExcName → Option Value} {mg mb : Str → Option Value} (news : List (Addr × Obj)) (c : Int) (t : Tok) (h0 : 0 ≤ c) (h1 : c < 256) :
   Cl w mean mg mb 293 4 news [.int c t] (BoolR (isPattern c) news) := by
  unfold Cl
  k_fill
  intro dp un gd cn cs a ccd cl outer A₀ base h₀ L m s Q E B F X N T hk hd hu hret
  refine wpAny_call ?_
  k_dflt (refine' code_def (binds := [(Str.ofString "code", Value.int c t)]) ?k1 ?k2 ?k3 ?k4 ?k5 ?kA ?kF ?kK ?k6 ?k7 ?k8 ?k9 ?kB ?_ ?c2 ?c3 ?c4 ?c5; (case kA => exact rfl); (case kF => exact rfl); (case kK => assumption); (case k1 => k_asm); (case k2 => k_asm); (case k3 => k_asm); (case k4 => k_asm); (case k5 => k_asm); (case k6 => k_is); (case k7 => k_is); (case k8 => k_extra "my_room"); (case k9 => first | exact BindsTo.of_eq rfl | exact binds_K (by k_in) rfl (by k_is) rfl rfl rfl); (case c5 => decide); (case kB => exact locs rfl); (case c2 => exact rfl); (case c3 => exact rfl); (case c4 => exact rfl); k_whole; intro g' L' h' FG' F' N' B' X' T'; (try dsimp only); (try k_lift B'); (try k_fold))
  k_steps
  all_goals (refine hret _ _ _ _ ⟨?_, rfl⟩ (by k_asm) (by k_asm))
  · simp_all [isPattern]
  · simp_all [isPattern]
theorem c_is_plain_code {w : World} {mean : ExcName → Option Value} {mg mb : Str → Option Value} (news : List (Addr × Obj)) (c : Int) (t : Tok) :
   Cl w mean mg mb 167 1 news [.int c t] (BoolR (isPlain c) news) := by
  unfold Cl
  k_fill
  intro dp un gd cn cs a ccd cl outer A₀ base h₀ L m s Q E B F X N T hk hd hu hret
  refine wpAny_call ?_
  k_dflt (refine' code_def (binds := [(Str.ofString "code", Value.int c t)]) ?k1 ?k2 ?k3 ?k4 ?k5 ?kA ?kF ?kK ?k6 ?k7 ?k8 ?k9 ?kB ?_ ?c2 ?c3 ?c4 ?c5; (case kA => exact rfl); (case kF => exact rfl); (case kK => assumption); (case k1 => k_asm); (case k2 => k_asm); (case k3 => k_asm); (case k4 => k_asm); (case k5 => k_asm); (case k6 => k_is); (case k7 => k_is); (case k8 => k_extra "my_room"); (case k9 => first | exact BindsTo.of_eq rfl | exact binds_K (by k_in) rfl (by k_is) rfl rfl rfl); (case c5 => decide); (case kB => exact locs rfl); (case c2 => exact rfl); (case c3 => exact rfl); (case c4 => exact rfl); k_whole; intro g' L' h' FG' F' N' B' X' T'; (try dsimp only); (try k_lift B'); (try k_fold))
  k_steps
  all_goals (refine hret _ _ _ _ ⟨?_, rfl⟩ (by k_asm) (by k_asm))
  · simp [isPlain]; omega
  · simp [isPlain]; omega
theorem c_lower_code {w : World} {mean : ExcName → Option Value} {mg mb : Str → Option Value} (news : List (Addr × Obj)) (c : Int) (t : Tok) :
   Cl w mean mg mb 140 1 news [.int c t] (IntR (lowerC c) news) := by
  unfold Cl
  k_fill
  intro dp un gd cn cs a ccd cl outer A₀ base h₀ L m s Q E B F X N T hk hd hu hret
  refine wpAny_call ?_
  k_dflt (refine' code_def (binds := [(Str.ofString "code", Value.int c t)]) ?k1 ?k2 ?k3 ?k4 ?k5 ?kA ?kF ?kK ?k6 ?k7 ?k8 ?k9 ?kB ?_ ?c2 ?c3 ?c4 ?c5; (case kA => exact rfl); (case kF => exact rfl); (case kK => assumption); (case k1 => k_asm); (case k2 => k_asm); (case k3 => k_asm); (case k4 => k_asm); (case k5 => k_asm); (case k6 => k_is); (case k7 => k_is); (case k8 => k_extra "my_room"); (case k9 => first | exact BindsTo.of_eq rfl | exact binds_K (by k_in) rfl (by k_is) rfl rfl rfl); (case c5 => decide); (case kB => exact locs rfl); (case c2 => exact rfl); (case c3 => exact rfl); (case c4 => exact rfl); k_whole; intro g' L' h' FG' F' N' B' X' T'; (try dsimp only); (try k_lift B'); (try k_fold))
  k_steps
  all_goals (refine hret _ _ _ _ ⟨_, congrArg (Value.int · _) ?_, rfl⟩ (by k_asm) (by k_asm))
  · simp only [lowerC]; rw [if_pos (by omega)]
  all_goals (simp only [lowerC]; rw [if_neg (by omega)])
end
theorem say5 : True := by
  k_with "call ref" => ((with_reducible show wpAny _ _ (call (Value.ref 272) [Value.int _ _]) _ _ _); k_dflt (refine' Cl.useB (c_is_printable _ _ _) ?k1 ?k2 ?k3 ?k4 ?k5 ?kK ?kd ?ku ?_; k_extra "my_use"); intro _ _ _ _; (try dsimp only); (try k_fold))
  k_with "call ref" => ((with_reducible show wpAny _ _ (call (Value.ref 279) [Value.int _ _]) _ _ _); k_dflt (refine' Cl.useB (c_is_atom_code _ _ _) ?k1 ?k2 ?k3 ?k4 ?k5 ?kK ?kd ?ku ?_; k_extra "my_use"); intro _ _ _ _; (try dsimp only); (try k_fold))
  k_with "call ref" => ((with_reducible show wpAny _ _ (call (Value.ref 286) [Value.int _ _]) _ _ _); k_dflt (refine' Cl.useB (c_is_astring_code _ _ _) ?k1 ?k2 ?k3 ?k4 ?k5 ?kK ?kd ?ku ?_; k_extra "my_use"); intro _ _ _ _; (try dsimp only); (try k_fold))
  k_with "call ref" => ((with_reducible show wpAny _ _ (call (Value.ref 293) [Value.int _ _]) _ _ _); k_dflt (refine' Cl.useB (c_is_pattern_code _ _ _ (by k_extra "my_byte0") (by k_extra "my_byte1")) ?k1 ?k2 ?k3 ?k4 ?k5 ?kK ?kd ?ku ?_; k_extra "my_use"); intro _ _ _ _; (try dsimp only); (try k_fold))
  k_with "call ref" => ((with_reducible show wpAny _ _ (call (Value.ref 167) [Value.int _ _]) _ _ _); k_dflt (refine' Cl.useB (c_is_plain_code _ _ _) ?k1 ?k2 ?k3 ?k4 ?k5 ?kK ?kd ?ku ?_; k_extra "my_use"); intro _ _ _ _; (try dsimp only); (try k_fold))
  k_with "call ref" => ((with_reducible show wpAny _ _ (call (Value.ref 140) [Value.int _ _]) _ _ _); k_dflt (refine' Cl.useI (c_lower_code _ _ _) ?k1 ?k2 ?k3 ?k4 ?k5 ?kK ?kd ?ku ?_; k_extra "my_use"); intro _ _ _ _ _; (try dsimp only); (try k_fold))
  trivial
theorem walk_off2 : True := by
  w_top off
  trivial
section
theorem c_peek {w : World} {mean : ExcName → Option Value} {mg mb : Str → Option Value} (x d : Addr) (rest : List (Addr × Obj)) (l r : List UInt8) (td : Tok) (i : Nat) (tp k1 k2 : Tok) (hl : l.length ≤ 16777216) (hr : l.drop i = r) :
   Cl w mean mg mb 350 1 ((x, instObj 506 d) :: (d, wd w l td i tp k1 k2) :: rest) [.ref x] (IntR (hdB r) ((x, instObj 506 d) :: (d, wd w l td i tp k1 k2) :: rest)) := by
  unfold Cl
  k_fill
  intro dp un gd cn cs a ccd cl outer A₀ base h₀ L m s Q E B F X N T hk hd hu hret
  refine wpAny_call ?_
  k_dflt (refine' code_def (binds := [(Str.ofString "self", Value.ref x)]) ?k1 ?k2 ?k3 ?k4 ?k5 ?kA ?kF ?kK ?k6 ?k7 ?k8 ?k9 ?kB ?_ ?c2 ?c3 ?c4 ?c5; (case kA => exact rfl); (case kF => exact rfl); (case kK => assumption); (case k1 => k_asm); (case k2 => k_asm); (case k3 => k_asm); (case k4 => k_asm); (case k5 => k_asm); (case k6 => k_is); (case k7 => k_is); (case k8 => k_extra "my_room"); (case k9 => first | exact BindsTo.of_eq rfl | exact binds_K (by k_in) rfl (by k_is) rfl rfl rfl); (case c5 => decide); (case kB => exact locs rfl); (case c2 => exact rfl); (case c3 => exact rfl); (case c4 => exact rfl); k_whole; intro g' L' h' FG' F' N' B' X' T'; (try dsimp only); (try k_lift B'); (try k_fold))
  k_steps
  · refine hret _ _ _ _ ⟨_, congrArg (Value.int · _) ?_, rfl⟩ (by k_asm) (by k_asm)
    rename (i : Int) < _ => hlt
    cases r with
    | nil => exact absurd rfl ((drop_lt hr).mp hlt)
    | cons c r => simp only [Int.toNat_natCast, drop_get hr, hdB]
  · refine hret _ _ _ _ ⟨_, congrArg (Value.int · _) ?_, rfl⟩ (by k_asm) (by k_asm)
    rename ¬ (i : Int) < _ => hlt
    cases r with
    | nil => rfl
    | cons c r => exact absurd ((drop_lt hr).mpr (by simp)) hlt
theorem c_skip {w : World} {mean : ExcName → Option Value} {mg mb : Str → Option Value} (x d : Addr) (rest : List (Addr × Obj)) (hxd : @Ne Nat x d) (hne : ∀ p ∈ rest, p.1 ≠ d) (l r : List UInt8) (td : Tok) (i : Nat) (tp k1 k2 : Tok) (hl : l.length ≤ 16777216) (hr : l.drop i = r) (o : List UInt8) (to : Tok) (ho : o.length ≤ 16777216) :
   Cl w mean mg mb 357 1 ((x, instObj 506 d) :: (d, wd w l td i tp k1 k2) :: rest) [.ref x, .bytes o.toArray to] (WR w l td k1 k2 x d rest (fun v => v = .bool (r.take o.length == o)) (if r.take o.length == o then i + o.length else i)) := by
  unfold Cl
  k_fill
  intro dp un gd cn cs a ccd cl outer A₀ base h₀ L m s Q E B F X N T hk hd hu hret
  refine wpAny_call ?_
  k_dflt (refine' code_def (binds := [(Str.ofString "self", Value.ref x), (Str.ofString "octets", Value.bytes o.toArray to)]) ?k1 ?k2 ?k3 ?k4 ?k5 ?kA ?kF ?kK ?k6 ?k7 ?k8 ?k9 ?kB ?_ ?c2 ?c3 ?c4 ?c5; (case kA => exact rfl); (case kF => exact rfl); (case kK => assumption); (case k1 => k_asm); (case k2 => k_asm); (case k3 => k_asm); (case k4 => k_asm); (case k5 => k_asm); (case k6 => k_is); (case k7 => k_is); (case k8 => k_extra "my_room"); (case k9 => first | exact BindsTo.of_eq rfl | exact binds_K (by k_in) rfl (by k_is) rfl rfl rfl); (case c5 => decide); (case kB => exact locs rfl); (case c2 => exact rfl); (case c3 => exact rfl); (case c4 => exact rfl); k_whole; intro g' L' h' FG' F' N' B' X' T'; (try dsimp only); (try k_lift B'); (try k_fold))
  k_steps
  · rename (_ != _) = true => hq
    have e : ((i : Int) + (o.length : Int) - (i : Int)).toNat = o.length := by omega
    simp only [Int.toNat_natCast, e, hr, bne_iff_ne, ne_eq] at hq
    refine hret _ _ _ _ (WR.mk ?_ ?_) (by k_asm) (by k_asm)
    · rw [beq_eq_false_iff_ne.mpr hq]
    · rw [if_neg (by simpa using hq)]
  · rename (_ != _) = false => hq
    have e : ((i : Int) + (o.length : Int) - (i : Int)).toNat = o.length := by omega
    simp only [Int.toNat_natCast, e, hr, bne_eq_false_iff_eq] at hq
    refine hret _ _ _ _ (WR.mk ?_ ?_) (by k_asm) (by k_asm)
    · rw [beq_iff_eq.mpr hq]
    · rw [if_pos (by simpa using hq)]; omega
theorem c_skip_t {w : World} {mean : ExcName → Option Value} {mg mb : Str → Option Value} (x d : Addr) (rest : List (Addr × Obj)) (hxd : @Ne Nat x d) (hne : ∀ p ∈ rest, p.1 ≠ d) (l r : List UInt8) (td : Tok) (i j : Nat) (tp k1 k2 : Tok) (o : List UInt8) (to : Tok) (hl : l.length ≤ 16777216) (hr : l.drop i = o ++ r) (hj : i + o.length = j) (ho : o.length ≤ 16777216) :
   Cl w mean mg mb 357 1 ((x, instObj 506 d) :: (d, wd w l td i tp k1 k2) :: rest) [.ref x, .bytes o.toArray to] (WR w l td k1 k2 x d rest (fun v => v = .bool true) j) := by
  refine (c_skip x d rest hxd hne l (o ++ r) td i tp k1 k2 hl hr o to ho).mono fun v n h => h.mono ?_ ?_
  · intro h; rw [h]; simp
  · simp [hj]
theorem c_skip_f {w : World} {mean : ExcName → Option Value} {mg mb : Str → Option Value} (x d : Addr) (rest : List (Addr × Obj)) (hxd : @Ne Nat x d) (hne : ∀ p ∈ rest, p.1 ≠ d) (l r : List UInt8) (td : Tok) (i : Nat) (tp k1 k2 : Tok) (o : List UInt8) (to : Tok) (hl : l.length ≤ 16777216) (hr : l.drop i = r) (hq : (r.take o.length == o) = false) (ho : o.length ≤ 16777216) :
   Cl w mean mg mb 357 1 ((x, instObj 506 d) :: (d, wd w l td i tp k1 k2) :: rest) [.ref x, .bytes o.toArray to] (WR w l td k1 k2 x d rest (fun v => v = .bool false) i) := by
  refine (c_skip x d rest hxd hne l r td i tp k1 k2 hl hr o to ho).mono fun v n h => h.mono ?_ ?_
  · intro h; rw [h, hq]
  · simp [hq]
theorem c_skip1_t {w : World} {mean : ExcName → Option Value} {mg mb : Str → Option Value} (x d : Addr) (rest : List (Addr × Obj)) (hxd : @Ne Nat x d) (hne : ∀ p ∈ rest, p.1 ≠ d) (l r : List UInt8) (td : Tok) (i : Nat) (tp k1 k2 : Tok) (c : UInt8) (to : Tok) (hl : l.length ≤ 16777216) (hr : l.drop i = c :: r) :
   Cl w mean mg mb 357 1 ((x, instObj 506 d) :: (d, wd w l td i tp k1 k2) :: rest) [.ref x, .bytes [c].toArray to] (WR w l td k1 k2 x d rest (fun v => v = .bool true) (i + 1)) :=
  c_skip_t x d rest hxd hne l r td i (i + 1) tp k1 k2 [c] to hl hr rfl (by simp)
theorem c_skip1_f {w : World} {mean : ExcName → Option Value} {mg mb : Str → Option Value} (x d : Addr) (rest : List (Addr × Obj)) (hxd : @Ne Nat x d) (hne : ∀ p ∈ rest, p.1 ≠ d) (l r : List UInt8) (td : Tok) (i : Nat) (tp k1 k2 : Tok) (c : UInt8) (to : Tok) (hl : l.length ≤ 16777216) (hr : l.drop i = r) (hq : r.head? ≠ some c) :
   Cl w mean mg mb 357 1 ((x, instObj 506 d) :: (d, wd w l td i tp k1 k2) :: rest) [.ref x, .bytes [c].toArray to] (WR w l td k1 k2 x d rest (fun v => v = .bool false) i) :=
  c_skip_f x d rest hxd hne l r td i tp k1 k2 [c] to hl hr (by
    cases r with
    | nil => rfl
    | cons e r =>
      simp only [List.head?_cons, ne_eq, Option.some.injEq] at hq
      simp [hq]) (by simp)
end
theorem say6 : True := by
  k_with "my_wire" => first | k_asm | exact News.rot1 (by k_asm) | exact News.rot2 (by k_asm) | exact News.rot3 (by k_asm) | exact News.unrot1 (by k_asm)
  k_with "my_ne" => first | assumption | omega
  k_with "my_at" => first | assumption
  k_with "my_head" => first | assumption | (simp; done)
  k_with "my_steps" => repeat' (first | (k_unfold; (try dsimp only)) | ((with_reducible show wpAny _ _ (call (Prod.fst _) _) _ _ _); (dsimp only [List.cons_append, List.nil_append])) | ((fail_if_success (with_reducible show wpAny _ _ (exec (Stmt.While _ _ _ _) _) _ _ _)); (fail_if_success (with_reducible show wpAny _ _ (exec (Stmt.For _ _ _ _ _) _) _ _ _)); (fail_if_success (with_reducible show wpAny _ _ (exec (Stmt.Raise _ _ _) _) _ _ _)); (fail_if_success (with_reducible show wpAny _ _ (pyIter _) _ _ _)); (fail_if_success (with_reducible show wpAny _ _ (eval (Expr.ListComp _ _ _ _) _) _ _ _)); first | walk1 | (dsimp only; walk1)) | (leave1; walk_say "STEP leave1"; try dsimp only) | fail "no step")
  k_with "my_in" => first | ((with_reducible rename Frag.In _ _ => X7₉); (with_reducible rename Fr _ _ _ _ => F7₉); exact X7₉.keeps F7₉.keep) | k_in
  k_with "n_leaf" => (refine wpN_of ?_; k_extra "my_steps")
  k_with "n_calls" => fail "no call"
  k_with "n_calls" => ((with_reducible show wpN _ _ (call (Value.type "bytearray") []) _ _); (with_reducible rename Fr _ _ _ _ => F'₉); (with_reducible rename News _ _ _ _ => N'₉); (refine ba_make (o := none) F'₉ N'₉ (Nat.zero_le _) rfl ?_); intro _ _ F'₉ N'₉ _; (try dsimp only); (try dsimp only [iniVal] at N'₉))
  k_with "n_calls" => ((with_reducible show wpN _ _ (call (Value.type "bytearray") [Value.bytes _ _]) _ _); (with_reducible rename Fr _ _ _ _ => F'₉); (with_reducible rename News _ _ _ _ => N'₉); (refine ba_make (o := some (_, _)) F'₉ N'₉ (Nat.le_of_ble_eq_true rfl) rfl ?_); intro _ _ F'₉ N'₉ _; (try dsimp only); (try dsimp only [iniVal] at N'₉))
  k_with "n_calls" => ((with_reducible show wpN _ _ (call (Value.builtin "bytearray.append") [Value.ref _, Value.int _ _]) _ _); (refine' ba_append ?F ?N ?ne ?z ?h0 ?h1 rfl ?_; (case F => k_asm); (case N => k_extra "my_wire"); (case ne => k_extra "my_ba"); (case z => k_extra "my_size"); (case h0 => k_extra "my_byte0"); (case h1 => k_extra "my_byte1")); intro _ _ _; (try dsimp only))
  k_with "my_ba" => first | assumption | exact neXd (by assumption) (by assumption) (by assumption) | (intro p₉ hp₉; simp only [List.mem_cons] at hp₉; rcases hp₉ with rfl | rfl | hp₉ <;> first | assumption | exact Ne.symm (by assumption) | exact (by assumption : ∀ p₉ ∈ _, p₉.1 ≠ _) _ hp₉)
  k_with "my_size" => first | assumption | omega | ((have h8₉ := (by assumption : List.length _ ≤ 2001)); simp only [List.length_append, List.length_cons, List.length_nil] at h8₉ ⊢; omega) | (simp only [List.length_map]; omega)
  k_with "call type:bytes" => ((with_reducible show wpAny _ _ (call (Value.type "bytes") [Value.ref _]) _ _ _); k_dflt (refine' ba_bytesN ?N ?hm ?z ?_; (case N => k_asm); (case hm => k_memK); (case z => k_extra "my_size")); intro _ _; (try dsimp only))
  k_with "getMethod ref" => ((with_reducible show wpAny _ _ (getMethod (Value.ref _) (PySem.Str.ofString "append") _) _ _ _); k_dflt (refine' ba_getAppend ?N ?hm ?_; (case N => k_asm); (case hm => k_memK)))
  k_with "n_step" => first | ((with_reducible show wpN _ _ (execs _ _) _ _); first | refine nExecs_cons ?_ | refine nExecs_nil ?_) | ((with_reducible show wpN _ _ (eval _ _) _ _); first | ((with_reducible show wpN _ _ (eval (Expr.Call (Expr.Attribute _ _ _) _ _ _) _) _ _); refine nMethod ?_) | ((with_reducible show wpN _ _ (eval (Expr.Call (Expr.Name _ _) _ _ _) _) _ _); refine nCallName ?_) | ((with_reducible show wpN _ _ (eval (Expr.BinOp _ _ _ _) _) _ _); refine nBinOp ?_) | ((with_reducible show wpN _ _ (eval (Expr.Compare _ _ _ _) _) _ _); refine nCompare ?_) | ((with_reducible show wpN _ _ (eval (Expr.BoolOp _ _ _) _) _ _); refine nAnd ?_) | ((with_reducible show wpN _ _ (eval (Expr.IfExp _ _ _ _) _) _ _); refine nIfExp ?_) | ((with_reducible show wpN _ _ (eval (Expr.Tuple _ _ _) _) _ _); refine nTupleN ?_) | ((fail_if_success (with_reducible show wpN _ _ (eval (Expr.ListComp _ _ _ _) _) _ _)); (refine wpN_of ?_; walk1))) | ((with_reducible show wpN _ _ (spliced _) _ _); first | refine nSpliced_cons ?_ | refine nSpliced_nil ?_) | ((with_reducible show wpN _ _ (exec _ _) _ _); first | ((with_reducible show wpN _ _ (exec (Stmt.Expr _ _) _) _ _); refine nExpr ?_) | ((with_reducible show wpN _ _ (exec (Stmt.If _ _ _ _) _) _ _); refine nIf ?_) | ((with_reducible show wpN _ _ (exec (Stmt.Assign [Expr.Name _ _] _ _) _) _ _); refine nAssign ?_) | ((with_reducible show wpN _ _ (exec (Stmt.Return _ _) _) _ _); refine nReturn ?_) | ((with_reducible show wpN _ _ (exec (Stmt.Assign [Expr.Attribute _ _ _] _ _) _) _ _); (refine wpN_of ?_; walk1)) | ((with_reducible show wpN _ _ (exec (Stmt.AugAssign _ _ _ _) _) _ _); (refine wpN_of ?_; walk1)) | ((with_reducible show wpN _ _ (exec (Stmt.Try _ _ _ _ _) _) _ _); refine nTry ?_) | ((with_reducible show wpN _ _ (exec (Stmt.For _ _ _ _ _) _) _ _); refine nFor ?_)) | ((with_reducible show wpN _ _ (callWith _ _ _ _ _) _ _); first | ((with_reducible show wpN _ _ (callWith _ (Value.ref _) _ (backTo _ (starEach (_ :: _) _)) _) _ _); refine' nCallWith ?k1 ?k2 ?_; (case k1 => k_asm); (case k2 => k_dflt k_is)) | ((with_reducible show wpN _ _ (callWith _ (Value.ref _) _ (backTo _ (starEach [] _)) _) _ _); refine' nCallWith0 ?k1 ?k2 ?_; (case k1 => k_extra "my_in"); (case k2 => k_dflt k_is)) | ((with_reducible show wpN _ _ (callWith _ (Value.ref _) _ (backTo _ (starEach [] _)) _) _ _); refine' nCallWithM0 (g := ?g) (self := ?sf) ?X ?hf ?_; (case X => ((with_reducible rename News _ _ _ _ => N9₉); exact methP N9₉ (by k_memK) (by k_extra "my_in"))); (case hf => k_dflt k_is)) | ((with_reducible show wpN _ _ (callWith _ (Value.builtin _) _ (backTo _ (starEach (_ :: _) _)) _) _ _); refine nCallWithB ?_) | ((with_reducible show wpN _ _ (callWith _ (Value.type _) _ (backTo _ (starEach (_ :: _) _)) _) _ _); refine nCallWithT ?_) | ((with_reducible show wpN _ _ (callWith _ (Value.type _) _ (backTo _ (starEach [] _)) _) _ _); refine nCallWithT0 ?_)) | ((with_reducible show wpN _ _ (call _ _) _ _); first | ((with_reducible show wpN _ _ (call _ (_ ++ _)) _ _); dsimp only [List.nil_append, List.cons_append]) | k_extra "n_calls" | (refine wpN_of ?_; walk1)) | ((with_reducible show wpN _ _ (isTrue _ _ _) _ _); first | ((with_reducible show wpN _ _ (isTrue (Expr.Compare _ _ _ _) _ _) _ _); refine nTrueCompare ?_) | ((with_reducible show wpN _ _ (isTrue (Expr.UnaryOp _ _ _) _ _) _ _); refine nTrueNot ?_) | ((with_reducible show wpN _ _ (isTrue (Expr.BoolOp BoolOp.Or [_, _] _) _ _) _ _); refine nTrueOr ?_) | ((with_reducible show wpN _ _ (isTrue (Expr.BoolOp BoolOp.Or [_, _, _] _) _ _) _ _); refine nTrueOr3 ?_) | ((with_reducible show wpN _ _ (isTrue (Expr.BoolOp _ _ _) _ _) _ _); (refine wpN_of ?_; walk1)) | refine nTrueValue ?_) | ((with_reducible show @ite Prop _ _ _ _); first | rw [if_neg Bool.false_ne_true] | rw [if_pos rfl]) | ((with_reducible show wpN _ _ (@ite _ _ _ _ _) _ _); first | rw [if_neg Bool.false_ne_true] | rw [if_pos rfl]) | ((with_reducible show List.length _ ≤ sizeLine ∧ _); refine ⟨Nat.le_of_ble_eq_true rfl, _, _, _, _, by k_asm, by k_asm, ?_⟩; intro _ _ _ _ _; (try dsimp only)) | ((with_reducible show Frag.In _ _ ∧ _); refine ⟨by k_extra "my_in", ?_⟩) | ((with_reducible show wpN _ _ _ _ _); (fail_if_success (with_reducible show wpN _ _ (exec _ _) _ _)); (fail_if_success (with_reducible show wpN _ _ (callWith _ _ _ _ _) _ _)); (fail_if_success (with_reducible show wpN _ _ (eval (Expr.ListComp _ _ _ _) _) _ _)); (refine wpN_of ?_; walk1))
  k_with "n_steps" => repeat' (first | k_extra "n_step" | k_extra "my_one")
  k_with "my_one" => (first | (k_unfold; (try dsimp only)) | ((with_reducible show wpAny _ _ (call (Prod.fst _) _) _ _ _); (dsimp only [List.cons_append, List.nil_append])) | ((fail_if_success (with_reducible show wpN _ _ _ _ _)); (fail_if_success (with_reducible show wpAny _ _ (exec (Stmt.While _ _ _ _) _) _ _ _)); (fail_if_success (with_reducible show wpAny _ _ (exec (Stmt.For _ _ _ _ _) _) _ _ _)); (fail_if_success (with_reducible show wpAny _ _ (exec (Stmt.Raise _ _ _) _) _ _ _)); (fail_if_success (with_reducible show wpAny _ _ (pyIter _) _ _ _)); (fail_if_success (with_reducible show wpAny _ _ (eval (Expr.ListComp _ _ _ _) _) _ _ _)); first | walk1 | (dsimp only; walk1)) | fail "no step")
  trivial
theorem say7 : True := by
  k_with "call ref" => ((with_reducible show wpAny _ _ (call (Value.ref 350) [Value.ref _]) _ _ _); k_dflt (refine' Cl.useI (c_peek _ _ _ _ _ _ _ _ _ _ ?e3 ?e4) ?k1 ?k2 ?k3 ?k4 ?k5 ?kK ?kd ?ku ?_; k_extra "U"; (case e3 => omega); (case e4 => k_extra "my_at"); ); intro _ _ _ _ _; (try dsimp only); (try k_fold))
  k_with "call ref" => ((with_reducible show wpAny _ _ (call (Value.ref 357) [Value.ref _, Value.bytes _ _]) _ _ _); k_dflt (refine' Cl.useWB (c_skip1_t _ _ _ ?e1 ?e2 _ _ _ _ _ _ _ _ _ ?e3 ?e4) ?k1 ?k2 ?k3 ?k4 ?k5 ?kK ?kd ?ku ?_; k_extra "U"; (case e1 => k_extra "my_ne"); (case e2 => k_all); (case e3 => omega); (case e4 => k_extra "my_at"); ); intro _ _ _ _ _; (try dsimp only); (try k_fold))
  k_with "call ref" => ((with_reducible show wpAny _ _ (call (Value.ref 357) [Value.ref _, Value.bytes _ _]) _ _ _); k_dflt (refine' Cl.useWB (c_skip1_f _ _ _ ?e1 ?e2 _ _ _ _ _ _ _ _ _ ?e3 ?e4 ?e5) ?k1 ?k2 ?k3 ?k4 ?k5 ?kK ?kd ?ku ?_; k_extra "U"; (case e1 => k_extra "my_ne"); (case e2 => k_all); (case e3 => omega); (case e4 => k_extra "my_at"); (case e5 => k_extra "my_head"); ); intro _ _ _ _ _; (try dsimp only); (try k_fold))
  trivial
theorem walk_off3 : True := by
  w_top off
  trivial
section
theorem c_need_t {w : World} {mean : ExcName → Option Value} {mg mb : Str → Option Value} (x d : Addr) (rest : List (Addr × Obj)) (hxd : @Ne Nat x d) (hne : ∀ p ∈ rest, p.1 ≠ d) (l r : List UInt8) (td : Tok) (i : Nat) (tp k1 k2 : Tok) (c : UInt8) (to : Tok) (msg : Str) (tm : Tok) (hl : l.length ≤ 16777216) (hr : l.drop i = c :: r) :
   Cl w mean mg mb 364 2 ((x, instObj 506 d) :: (d, wd w l td i tp k1 k2) :: rest) [.ref x, .bytes [c].toArray to, .str msg tm] (WR w l td k1 k2 x d rest (fun v => v = .none) (i + 1)) := by
  unfold Cl
  k_fill
  intro dp un gd cn cs a ccd cl outer A₀ base h₀ L m s Q E B F X N T hk hd hu hret
  refine wpAny_call ?_
  k_dflt (refine' code_def (binds := [(Str.ofString "self", Value.ref x), (Str.ofString "octets", Value.bytes [c].toArray to), (Str.ofString "what", Value.str msg tm)]) ?k1 ?k2 ?k3 ?k4 ?k5 ?kA ?kF ?kK ?k6 ?k7 ?k8 ?k9 ?kB ?_ ?c2 ?c3 ?c4 ?c5; (case kA => exact rfl); (case kF => exact rfl); (case kK => assumption); (case k1 => k_asm); (case k2 => k_asm); (case k3 => k_asm); (case k4 => k_asm); (case k5 => k_asm); (case k6 => k_is); (case k7 => k_is); (case k8 => k_extra "my_room"); (case k9 => first | exact BindsTo.of_eq rfl | exact binds_K (by k_in) rfl (by k_is) rfl rfl rfl); (case c5 => decide); (case kB => exact locs rfl); (case c2 => exact rfl); (case c3 => exact rfl); (case c4 => exact rfl); k_whole; intro g' L' h' FG' F' N' B' X' T'; (try dsimp only); (try k_lift B'); (try k_fold))
  k_extra "my_steps"
  exact hret _ _ _ _ (WR.mk rfl rfl) (by k_asm) (by k_asm)
end
theorem say8 : True := by
  k_with "call ref" => ((with_reducible show wpAny _ _ (call (Value.ref 364) [Value.ref _, Value.bytes _ _, Value.str _ _]) _ _ _); k_dflt (refine' Cl.useWN (c_need_t _ _ _ ?e1 ?e2 _ _ _ _ _ _ _ _ _ _ _ ?e3 ?e4) ?k1 ?k2 ?k3 ?k4 ?k5 ?kK ?kd ?ku ?_; k_extra "U"; (case e1 => k_extra "my_ne"); (case e2 => k_all); (case e3 => omega); (case e4 => k_extra "my_at"); ); intro _ _ _ _ _; (try dsimp only); (try k_fold))
  trivial
theorem walk_off4 : True := by
  w_top off
  trivial
section
theorem c_space_t {w : World} {mean : ExcName → Option Value} {mg mb : Str → Option Value} (x d : Addr) (rest : List (Addr × Obj)) (hxd : @Ne Nat x d) (hne : ∀ p ∈ rest, p.1 ≠ d) (l r : List UInt8) (td : Tok) (i : Nat) (tp k1 k2 : Tok) (hl : l.length ≤ 16777216) (hr : l.drop i = 32 :: r) :
   Cl w mean mg mb 371 3 ((x, instObj 506 d) :: (d, wd w l td i tp k1 k2) :: rest) [.ref x] (WR w l td k1 k2 x d rest (fun v => v = .none) (i + 1)) := by
  unfold Cl
  k_fill
  intro dp un gd cn cs a ccd cl outer A₀ base h₀ L m s Q E B F X N T hk hd hu hret
  refine wpAny_call ?_
  k_dflt (refine' code_def (binds := [(Str.ofString "self", Value.ref x)]) ?k1 ?k2 ?k3 ?k4 ?k5 ?kA ?kF ?kK ?k6 ?k7 ?k8 ?k9 ?kB ?_ ?c2 ?c3 ?c4 ?c5; (case kA => exact rfl); (case kF => exact rfl); (case kK => assumption); (case k1 => k_asm); (case k2 => k_asm); (case k3 => k_asm); (case k4 => k_asm); (case k5 => k_asm); (case k6 => k_is); (case k7 => k_is); (case k8 => k_extra "my_room"); (case k9 => first | exact BindsTo.of_eq rfl | exact binds_K (by k_in) rfl (by k_is) rfl rfl rfl); (case c5 => decide); (case kB => exact locs rfl); (case c2 => exact rfl); (case c3 => exact rfl); (case c4 => exact rfl); k_whole; intro g' L' h' FG' F' N' B' X' T'; (try dsimp only); (try k_lift B'); (try k_fold))
  k_extra "my_steps"
  exact hret _ _ _ _ (WR.mk rfl rfl) (by k_asm) (by k_asm)
theorem c_run279 {w : World} {mean : ExcName → Option Value} {mg mb : Str → Option Value} (x d : Addr) (rest : List (Addr × Obj)) (hxd : @Ne Nat x d) (hne : ∀ p ∈ rest, p.1 ≠ d) (l aw r : List UInt8) (td : Tok) (i : Nat) (tp k1 k2 : Tok) (hl : l.length ≤ 16777216) (hr : l.drop i = aw ++ r) (ha : ∀ c ∈ aw, isAtom c.toNat = true) (hs : ∀ c r', r = c :: r' → isAtom c.toNat = false) :
   Cl w mean mg mb 385 3 ((x, instObj 506 d) :: (d, wd w l td i tp k1 k2) :: rest) [.ref x, .ref 279] (WR w l td k1 k2 x d rest (fun v => ∃ t, v = .bytes aw.toArray t) (i + aw.length)) := by
  unfold Cl
  k_fill
  intro dp un gd cn cs a ccd cl outer A₀ base h₀ L m s Q E B F X N T hk hd hu hret
  refine wpAny_call ?_
  k_dflt (refine' code_def (binds := [(Str.ofString "self", Value.ref x), (Str.ofString "fits", Value.ref 279)]) ?k1 ?k2 ?k3 ?k4 ?k5 ?kA ?kF ?kK ?k6 ?k7 ?k8 ?k9 ?kB ?_ ?c2 ?c3 ?c4 ?c5; (case kA => exact rfl); (case kF => exact rfl); (case kK => assumption); (case k1 => k_asm); (case k2 => k_asm); (case k3 => k_asm); (case k4 => k_asm); (case k5 => k_asm); (case k6 => k_is); (case k7 => k_is); (case k8 => k_extra "my_room"); (case k9 => first | exact BindsTo.of_eq rfl | exact binds_K (by k_in) rfl (by k_is) rfl rfl rfl); (case c5 => decide); (case kB => exact locs rfl); (case c2 => exact rfl); (case c3 => exact rfl); (case c4 => exact rfl); k_whole; intro g' L' h' FG' F' N' B' X' T'; (try dsimp only); (try k_lift B'); (try k_fold))
  k_extra "my_steps"
  with_reducible rename Fr _ _ _ _ => F9
  with_reducible rename News _ _ _ _ => N9
  refine While_K (fun n ns => ∃ k tp', k + n = aw.length ∧ ns = (x, instObj 506 d) :: (d, wd w l td ((i + k : Nat) : Int) tp' k1 k2) :: rest) aw.length F9 N9 ⟨0, tp, by simp, rfl⟩ ?_ (by passes_own)
  rintro n ns h₁ tk₁ F1 N1 ⟨k, tp', hk', rfl⟩
  clear F9 N9
  have hdk : l.drop (i + k) = aw.drop k ++ r := by rw [← List.drop_drop, hr, List.drop_append_of_le_length (by omega)]
  have hat : ∀ h : k < aw.length, (l.getD ((i + k : Nat) : Int).toNat 0) = aw[k] := fun h => by
    rw [Int.toNat_natCast]
    exact drop_get (r := aw.drop (k + 1) ++ r) (by rw [hdk, List.drop_eq_getElem_cons h]; rfl)
  have hend : k = aw.length → (l.drop (i : Int).toNat).take (((i + k : Nat) : Int) - (i : Int)).toNat = aw := fun h => by
    rw [Int.toNat_natCast, hr, show (((i + k : Nat) : Int) - (i : Int)).toNat = aw.length by omega, List.take_left]
  k_extra "my_steps"
  · rename isAtom _ = true => hq
    rename (_ < _) => hlt
    have hkl : k < aw.length := by
      rcases Nat.lt_or_ge k aw.length with h | h
      · exact h
      · have e : aw.drop k = [] := List.drop_eq_nil_of_le h
        rw [e, List.nil_append] at hdk
        cases r with
        | nil => exact absurd rfl ((drop_lt hdk).mp hlt)
        | cons c r' =>
          rw [Int.toNat_natCast, drop_get hdk, hs c r' rfl] at hq; cases hq
    exact ⟨_, _, _, _, n - 1, rfl, by assumption, by assumption, by omega, rfl, k + 1, _, by omega, wl_eq (by omega)⟩
  · rename isAtom _ = false => hq
    have hkl : k = aw.length := by
      rcases Nat.lt_or_ge k aw.length with h | h
      · rw [hat h, ha _ (List.getElem_mem h)] at hq; cases hq
      · omega
    refine hret _ _ _ _ (WR.mk ⟨_, congrArg (fun z => Value.bytes (List.toArray z) _) (hend hkl)⟩ ?_) (by k_asm) (by k_asm)
    rw [hkl]
  · rename ¬ (_ < _) => hlt
    have hkl : k = aw.length := by
      rcases Nat.lt_or_ge k aw.length with h | h
      · exact absurd ((drop_lt (r := aw[k] :: (aw.drop (k + 1) ++ r)) (by rw [hdk, List.drop_eq_getElem_cons h]; rfl)).mpr (by simp)) hlt
      · omega
    refine hret _ _ _ _ (WR.mk ⟨_, congrArg (fun z => Value.bytes (List.toArray z) _) (hend hkl)⟩ ?_) (by k_asm) (by k_asm)
    rw [hkl]
theorem c_run286 {w : World} {mean : ExcName → Option Value} {mg mb : Str → Option Value} (x d : Addr) (rest : List (Addr × Obj)) (hxd : @Ne Nat x d) (hne : ∀ p ∈ rest, p.1 ≠ d) (l aw r : List UInt8) (td : Tok) (i : Nat) (tp k1 k2 : Tok) (hl : l.length ≤ 16777216) (hr : l.drop i = aw ++ r) (ha : ∀ c ∈ aw, isAstring c.toNat = true) (hs : ∀ c r', r = c :: r' → isAstring c.toNat = false) :
   Cl w mean mg mb 385 4 ((x, instObj 506 d) :: (d, wd w l td i tp k1 k2) :: rest) [.ref x, .ref 286] (WR w l td k1 k2 x d rest (fun v => ∃ t, v = .bytes aw.toArray t) (i + aw.length)) := by
  unfold Cl
  k_fill
  intro dp un gd cn cs a ccd cl outer A₀ base h₀ L m s Q E B F X N T hk hd hu hret
  refine wpAny_call ?_
  k_dflt (refine' code_def (binds := [(Str.ofString "self", Value.ref x), (Str.ofString "fits", Value.ref 286)]) ?k1 ?k2 ?k3 ?k4 ?k5 ?kA ?kF ?kK ?k6 ?k7 ?k8 ?k9 ?kB ?_ ?c2 ?c3 ?c4 ?c5; (case kA => exact rfl); (case kF => exact rfl); (case kK => assumption); (case k1 => k_asm); (case k2 => k_asm); (case k3 => k_asm); (case k4 => k_asm); (case k5 => k_asm); (case k6 => k_is); (case k7 => k_is); (case k8 => k_extra "my_room"); (case k9 => first | exact BindsTo.of_eq rfl | exact binds_K (by k_in) rfl (by k_is) rfl rfl rfl); (case c5 => decide); (case kB => exact locs rfl); (case c2 => exact rfl); (case c3 => exact rfl); (case c4 => exact rfl); k_whole; intro g' L' h' FG' F' N' B' X' T'; (try dsimp only); (try k_lift B'); (try k_fold))
  k_extra "my_steps"
  with_reducible rename Fr _ _ _ _ => F9
  with_reducible rename News _ _ _ _ => N9
  refine While_K (fun n ns => ∃ k tp', k + n = aw.length ∧ ns = (x, instObj 506 d) :: (d, wd w l td ((i + k : Nat) : Int) tp' k1 k2) :: rest) aw.length F9 N9 ⟨0, tp, by simp, rfl⟩ ?_ (by passes_own)
  rintro n ns h₁ tk₁ F1 N1 ⟨k, tp', hk', rfl⟩
  clear F9 N9
  have hdk : l.drop (i + k) = aw.drop k ++ r := by rw [← List.drop_drop, hr, List.drop_append_of_le_length (by omega)]
  have hat : ∀ h : k < aw.length, (l.getD ((i + k : Nat) : Int).toNat 0) = aw[k] := fun h => by
    rw [Int.toNat_natCast]
    exact drop_get (r := aw.drop (k + 1) ++ r) (by rw [hdk, List.drop_eq_getElem_cons h]; rfl)
  have hend : k = aw.length → (l.drop (i : Int).toNat).take (((i + k : Nat) : Int) - (i : Int)).toNat = aw := fun h => by
    rw [Int.toNat_natCast, hr, show (((i + k : Nat) : Int) - (i : Int)).toNat = aw.length by omega, List.take_left]
  k_extra "my_steps"
  · rename isAstring _ = true => hq
    rename (_ < _) => hlt
    have hkl : k < aw.length := by
      rcases Nat.lt_or_ge k aw.length with h | h
      · exact h
      · have e : aw.drop k = [] := List.drop_eq_nil_of_le h
        rw [e, List.nil_append] at hdk
        cases r with
        | nil => exact absurd rfl ((drop_lt hdk).mp hlt)
        | cons c r' =>
          rw [Int.toNat_natCast, drop_get hdk, hs c r' rfl] at hq; cases hq
    exact ⟨_, _, _, _, n - 1, rfl, by assumption, by assumption, by omega, rfl, k + 1, _, by omega, wl_eq (by omega)⟩
  · rename isAstring _ = false => hq
    have hkl : k = aw.length := by
      rcases Nat.lt_or_ge k aw.length with h | h
      · rw [hat h, ha _ (List.getElem_mem h)] at hq; cases hq
      · omega
    refine hret _ _ _ _ (WR.mk ⟨_, congrArg (fun z => Value.bytes (List.toArray z) _) (hend hkl)⟩ ?_) (by k_asm) (by k_asm)
    rw [hkl]
  · rename ¬ (_ < _) => hlt
    have hkl : k = aw.length := by
      rcases Nat.lt_or_ge k aw.length with h | h
      · exact absurd ((drop_lt (r := aw[k] :: (aw.drop (k + 1) ++ r)) (by rw [hdk, List.drop_eq_getElem_cons h]; rfl)).mpr (by simp)) hlt
      · omega
    refine hret _ _ _ _ (WR.mk ⟨_, congrArg (fun z => Value.bytes (List.toArray z) _) (hend hkl)⟩ ?_) (by k_asm) (by k_asm)
    rw [hkl]
theorem c_run293 {w : World} {mean : ExcName → Option Value} {mg mb : Str → Option Value} (x d : Addr) (rest : List (Addr × Obj)) (hxd : @Ne Nat x d) (hne : ∀ p ∈ rest, p.1 ≠ d) (l aw r : List UInt8) (td : Tok) (i : Nat) (tp k1 k2 : Tok) (hl : l.length ≤ 16777216) (hr : l.drop i = aw ++ r) (ha : ∀ c ∈ aw, isPattern c.toNat = true) (hs : ∀ c r', r = c :: r' → isPattern c.toNat = false) :
   Cl w mean mg mb 385 5 ((x, instObj 506 d) :: (d, wd w l td i tp k1 k2) :: rest) [.ref x, .ref 293] (WR w l td k1 k2 x d rest (fun v => ∃ t, v = .bytes aw.toArray t) (i + aw.length)) := by
  unfold Cl
  k_fill
  intro dp un gd cn cs a ccd cl outer A₀ base h₀ L m s Q E B F X N T hk hd hu hret
  refine wpAny_call ?_
  k_dflt (refine' code_def (binds := [(Str.ofString "self", Value.ref x), (Str.ofString "fits", Value.ref 293)]) ?k1 ?k2 ?k3 ?k4 ?k5 ?kA ?kF ?kK ?k6 ?k7 ?k8 ?k9 ?kB ?_ ?c2 ?c3 ?c4 ?c5; (case kA => exact rfl); (case kF => exact rfl); (case kK => assumption); (case k1 => k_asm); (case k2 => k_asm); (case k3 => k_asm); (case k4 => k_asm); (case k5 => k_asm); (case k6 => k_is); (case k7 => k_is); (case k8 => k_extra "my_room"); (case k9 => first | exact BindsTo.of_eq rfl | exact binds_K (by k_in) rfl (by k_is) rfl rfl rfl); (case c5 => decide); (case kB => exact locs rfl); (case c2 => exact rfl); (case c3 => exact rfl); (case c4 => exact rfl); k_whole; intro g' L' h' FG' F' N' B' X' T'; (try dsimp only); (try k_lift B'); (try k_fold))
  k_extra "my_steps"
  with_reducible rename Fr _ _ _ _ => F9
  with_reducible rename News _ _ _ _ => N9
  refine While_K (fun n ns => ∃ k tp', k + n = aw.length ∧ ns = (x, instObj 506 d) :: (d, wd w l td ((i + k : Nat) : Int) tp' k1 k2) :: rest) aw.length F9 N9 ⟨0, tp, by simp, rfl⟩ ?_ (by passes_own)
  rintro n ns h₁ tk₁ F1 N1 ⟨k, tp', hk', rfl⟩
  clear F9 N9
  have hdk : l.drop (i + k) = aw.drop k ++ r := by rw [← List.drop_drop, hr, List.drop_append_of_le_length (by omega)]
  have hat : ∀ h : k < aw.length, (l.getD ((i + k : Nat) : Int).toNat 0) = aw[k] := fun h => by
    rw [Int.toNat_natCast]
    exact drop_get (r := aw.drop (k + 1) ++ r) (by rw [hdk, List.drop_eq_getElem_cons h]; rfl)
  have hend : k = aw.length → (l.drop (i : Int).toNat).take (((i + k : Nat) : Int) - (i : Int)).toNat = aw := fun h => by
    rw [Int.toNat_natCast, hr, show (((i + k : Nat) : Int) - (i : Int)).toNat = aw.length by omega, List.take_left]
  k_extra "my_steps"
  · rename isPattern _ = true => hq
    rename (_ < _) => hlt
    have hkl : k < aw.length := by
      rcases Nat.lt_or_ge k aw.length with h | h
      · exact h
      · have e : aw.drop k = [] := List.drop_eq_nil_of_le h
        rw [e, List.nil_append] at hdk
        cases r with
        | nil => exact absurd rfl ((drop_lt hdk).mp hlt)
        | cons c r' =>
          rw [Int.toNat_natCast, drop_get hdk, hs c r' rfl] at hq; cases hq
    exact ⟨_, _, _, _, n - 1, rfl, by assumption, by assumption, by omega, rfl, k + 1, _, by omega, wl_eq (by omega)⟩
  · rename isPattern _ = false => hq
    have hkl : k = aw.length := by
      rcases Nat.lt_or_ge k aw.length with h | h
      · rw [hat h, ha _ (List.getElem_mem h)] at hq; cases hq
      · omega
    refine hret _ _ _ _ (WR.mk ⟨_, congrArg (fun z => Value.bytes (List.toArray z) _) (hend hkl)⟩ ?_) (by k_asm) (by k_asm)
    rw [hkl]
  · rename ¬ (_ < _) => hlt
    have hkl : k = aw.length := by
      rcases Nat.lt_or_ge k aw.length with h | h
      · exact absurd ((drop_lt (r := aw[k] :: (aw.drop (k + 1) ++ r)) (by rw [hdk, List.drop_eq_getElem_cons h]; rfl)).mpr (by simp)) hlt
      · omega
    refine hret _ _ _ _ (WR.mk ⟨_, congrArg (fun z => Value.bytes (List.toArray z) _) (hend hkl)⟩ ?_) (by k_asm) (by k_asm)
    rw [hkl]
end
theorem walk_off5 : True := by
  w_top off
  trivial
section
theorem c_lower {w : World} {mean : ExcName → Option Value} {mg mb : Str → Option Value} (news : List (Addr × Obj)) (l : List UInt8) (t : Tok) (hl : l.length ≤ 16777216) :
   Cl w mean mg mb 145 3 news [.bytes l.toArray t] (BytesR (lowerB l).toArray news) := by
  unfold Cl
  k_fill
  intro dp un gd cn cs a ccd cl outer A₀ base h₀ L m s Q E B F X N T hk hd hu hret
  refine wpAny_call ?_
  k_dflt (refine' code_def (binds := [(Str.ofString "octets", Value.bytes l.toArray t)]) ?k1 ?k2 ?k3 ?k4 ?k5 ?kA ?kF ?kK ?k6 ?k7 ?k8 ?k9 ?kB ?_ ?c2 ?c3 ?c4 ?c5; (case kA => exact rfl); (case kF => exact rfl); (case kK => assumption); (case k1 => k_asm); (case k2 => k_asm); (case k3 => k_asm); (case k4 => k_asm); (case k5 => k_asm); (case k6 => k_is); (case k7 => k_is); (case k8 => k_extra "my_room"); (case k9 => first | exact BindsTo.of_eq rfl | exact binds_K (by k_in) rfl (by k_is) rfl rfl rfl); (case c5 => decide); (case kB => exact locs rfl); (case c2 => exact rfl); (case c3 => exact rfl); (case c4 => exact rfl); k_whole; intro g' L' h' FG' F' N' B' X' T'; (try dsimp only); (try k_lift B'); (try k_fold))
  k_extra "my_steps"
  with_reducible rename Fr _ _ _ _ => F9
  refine ListComp_Y (cl := []) F9 (by with_unfolding_all rfl) (by decide) rfl (by decide) rfl ?_
  k_extra "my_steps"
  refine ⟨_, _, _, rfl, rfl, by k_asm, by k_asm, ?_, ?_⟩
  · rw [sizeLine_eq]; simpa using hl
  rintro s₂ ⟨hh, rfl⟩
  refine rest_all (fun i v => ∃ n t, (l.map fun c => lowerC c.toNat)[i]? = some n ∧ v = .int n t) ?_ trivial ?_
  · intro i v I oI C oC D m₂ ys h tk E' hi hP hC hx F8 N8 off ne
    obtain ⟨c, u, hc, rfl⟩ := hP
    k_extra "my_steps"
    exact ⟨_, _, rfl, by k_asm, by k_asm, _, _, by simpa using ⟨c, by simpa using hc, rfl⟩, rfl⟩
  · intro ys hl' hR D h tk F8 N8 o1
    k_extra "my_steps"
    refine KBa.make_K F8 N8 rfl ⟨_, (N8 _ (.head _)).1, rfl, _, rfl⟩ (ints_of (by simpa using hl') hR) ?_ (by simpa using hl) ?_
    · intro n hn
      obtain ⟨c, _, rfl⟩ := List.mem_map.mp hn
      exact lowerC_in c
    intro h' t' k F' N' _
    k_extra "my_steps"
    rw [lowerB_eq]
    exact hret _ _ _ _ ⟨_, rfl, rfl⟩ (by k_asm) (fun p hp => by rename News h₀ L _ _ => N7; exact N7 p (.tail _ hp))
theorem c_upper {w : World} {mean : ExcName → Option Value} {mg mb : Str → Option Value} (news : List (Addr × Obj)) (cs0 : List Nat) (t : Tok) (hl : cs0.length ≤ 65536) :
   Cl w mean mg mb 150 3 news [.str (mkS cs0) t] (StrR (mkS (cs0.map upC)) news) := by
  unfold Cl
  k_fill
  intro dp un gd cn cs a ccd cl outer A₀ base h₀ L m s Q E B F X N T hk hd hu hret
  refine wpAny_call ?_
  k_dflt (refine' code_def (binds := [(Str.ofString "text", Value.str (mkS cs0) t)]) ?k1 ?k2 ?k3 ?k4 ?k5 ?kA ?kF ?kK ?k6 ?k7 ?k8 ?k9 ?kB ?_ ?c2 ?c3 ?c4 ?c5; (case kA => exact rfl); (case kF => exact rfl); (case kK => assumption); (case k1 => k_asm); (case k2 => k_asm); (case k3 => k_asm); (case k4 => k_asm); (case k5 => k_asm); (case k6 => k_is); (case k7 => k_is); (case k8 => k_extra "my_room"); (case k9 => first | exact BindsTo.of_eq rfl | exact binds_K (by k_in) rfl (by k_is) rfl rfl rfl); (case c5 => decide); (case kB => exact locs rfl); (case c2 => exact rfl); (case c3 => exact rfl); (case c4 => exact rfl); k_whole; intro g' L' h' FG' F' N' B' X' T'; (try dsimp only); (try k_lift B'); (try k_fold))
  k_extra "my_steps"
  with_reducible rename Fr _ _ _ _ => F9
  refine ListComp_S (cl := []) F9 (by with_unfolding_all rfl) (by decide) rfl (by decide) rfl ?_
  k_extra "my_steps"
  refine ⟨_, _, _, rfl, rfl, by k_asm, by k_asm, ?_, ?_⟩
  · rw [sizeLine_eq, List.size_toArray]; omega
  rintro s₂ ⟨hh, rfl⟩
  refine rest_all (fun i v => ∃ n t, (cs0.map fun c => (⟨#[upC c]⟩ : Str))[i]? = some n ∧ v = .str n t) ?_ trivial ?_
  · intro i v I oI C oC D m₂ ys h tk E' hi hP hC hx F8 N8 off ne
    obtain ⟨c, u, hc, rfl⟩ := hP
    have hc' : cs0[i]? = some c := by simpa using hc
    k_extra "my_steps"
    · rename (_ < _) => hq
      have hq' : c < 97 := lt_one.mp hq
      refine ⟨_, _, rfl, by k_asm, by k_asm, _, _, by simpa using ⟨c, hc', rfl⟩, congrArg (fun z => Value.str ⟨#[z]⟩ _) (?_ : c = upC c)⟩
      exact (if_neg (by omega)).symm
    · rename (_ < _) => hq
      have hq' : 122 < c := lt_one.mp hq
      refine ⟨_, _, rfl, by k_asm, by k_asm, _, _, by simpa using ⟨c, hc', rfl⟩, congrArg (fun z => Value.str ⟨#[z]⟩ _) (?_ : c = upC c)⟩
      exact (if_neg (by omega)).symm
    · rename ¬ (_ < (#[c] : Array Nat).toList) => hq2
      rename ¬ ((#[c] : Array Nat).toList < _) => hq1
      have h1 : ¬ c < 97 := fun h => hq1 (lt_one.mpr h)
      have h2 : ¬ 122 < c := fun h => hq2 (lt_one.mpr h)
      refine chr_of_range (by omega) (by omega) ?_
      k_extra "my_steps"
      refine ⟨_, _, rfl, by k_asm, by k_asm, _, _, by simpa using ⟨c, hc', rfl⟩, congrArg (fun z => Value.str ⟨#[z]⟩ _) (?_ : ((c : Int) - 32).toNat = upC c)⟩
      rw [show upC c = c - 32 from if_pos (by omega)]; omega
  · intro ys hl' hR D h tk F8 N8 o1
    k_extra "my_steps"
    refine join_listW ⟨_, (N8 _ (.head _)).1, rfl, _, rfl⟩ (strs_of (by simpa using hl') hR) (by decide) (by rw [sign_weight]; simp; omega) ?_
    intro t' k
    rw [join_map]
    k_extra "my_steps"
    exact hret _ _ _ _ ⟨_, rfl, rfl⟩ (by k_asm) (fun p hp => by rename News h₀ L _ _ => N7; exact N7 p (.tail _ hp))
end
theorem walk_off6 : True := by
  w_top off
  trivial
section
theorem c_ascii {w : World} {mean : ExcName → Option Value} {mg mb : Str → Option Value} (news : List (Addr × Obj)) (l : List UInt8) (t : Tok) (hl : l.length ≤ 65536) (ha : ∀ c ∈ l, c.toNat ≤ 127) :
   Cl w mean mg mb 155 3 news [.bytes l.toArray t] (StrR (mkS (l.map UInt8.toNat)) news) := by
  unfold Cl
  k_fill
  intro dp un gd cn cs a ccd cl outer A₀ base h₀ L m s Q E B F X N T hk hd hu hret
  refine wpAny_call ?_
  k_dflt (refine' code_def (binds := [(Str.ofString "octets", Value.bytes l.toArray t)]) ?k1 ?k2 ?k3 ?k4 ?k5 ?kA ?kF ?kK ?k6 ?k7 ?k8 ?k9 ?kB ?_ ?c2 ?c3 ?c4 ?c5; (case kA => exact rfl); (case kF => exact rfl); (case kK => assumption); (case k1 => k_asm); (case k2 => k_asm); (case k3 => k_asm); (case k4 => k_asm); (case k5 => k_asm); (case k6 => k_is); (case k7 => k_is); (case k8 => k_extra "my_room"); (case k9 => first | exact BindsTo.of_eq rfl | exact binds_K (by k_in) rfl (by k_is) rfl rfl rfl); (case c5 => decide); (case kB => exact locs rfl); (case c2 => exact rfl); (case c3 => exact rfl); (case c4 => exact rfl); k_whole; intro g' L' h' FG' F' N' B' X' T'; (try dsimp only); (try k_lift B'); (try k_fold))
  k_extra "my_steps"
  with_reducible rename Fr _ _ _ _ => F9
  (with_unfolding_all refine' For_invVF F9 ?k1 ?k2 ?_; (case k1 => exact rfl); (case k2 => exact rfl); k_whole)
  k_extra "my_steps"
  with_reducible rename Fr _ _ _ _ => F9
  with_reducible rename News _ _ _ _ => N9
  rename IsRange _ _ _ _ _ _ _ _ => R9
  refine rangeC (n := l.length) rfl R9 (small_len (by omega)) (range_len _) F9 N9 ?_ ?_
  · intro i ti h tk own hi F8 N8
    have h127 : ((l.getD ((i : Nat) : Int).toNat 0).toNat : Int) ≤ 127 := by
      rw [Int.toNat_natCast, List.getD_eq_getElem?_getD, List.getElem?_eq_getElem hi]
      have := ha _ (List.getElem_mem hi)
      show (l[i].toNat : Int) ≤ 127
      omega
    k_extra "my_steps"
    exact ⟨_, _, _, rfl, F8, N8⟩
  · intro h tk v' F8 N8
    k_extra "my_steps"
    refine ListComp_Y (cl := []) F8 (by with_unfolding_all rfl) (by decide) rfl (by decide) rfl ?_
    k_extra "my_steps"
    refine ⟨_, _, _, rfl, rfl, by k_asm, by k_asm, ?_, ?_⟩
    · rw [sizeLine_eq, List.size_toArray]; omega
    rintro s₂ ⟨hh, rfl⟩
    refine rest_all (fun i v => ∃ n t, (l.map fun c => (⟨#[c.toNat]⟩ : Str))[i]? = some n ∧ v = .str n t) ?_ trivial ?_
    · intro i v I oI C oC D m₂ ys h tk E' hi hP hC hx F8 N8 off ne
      obtain ⟨c, u, hc, rfl⟩ := hP
      have hc' : l[i]? = some c := by simpa using hc
      have hb := byte_in c
      k_extra "my_steps"
      exact ⟨_, _, rfl, by k_asm, by k_asm, _, _, by simpa using ⟨c, hc', rfl⟩, by rw [Int.toNat_natCast]⟩
    · intro ys hl' hR D h tk F8 N8 o1
      k_extra "my_steps"
      refine join_listW ⟨_, (N8 _ (.head _)).1, rfl, _, rfl⟩ (strs_of (by simpa using hl') hR) (by decide) (by rw [sign_weightB]; simp; omega) ?_
      intro t' k
      rw [join_mapB]
      k_extra "my_steps"
      exact hret _ _ _ _ ⟨_, rfl, rfl⟩ (by k_asm) (fun p hp => by rename News h₀ L _ _ => N7; exact N7 p (.tail _ hp))
end
theorem walk_off7 : True := by
  w_top off
  trivial
section
theorem c_text {w : World} {mean : ExcName → Option Value} {mg mb : Str → Option Value} (news : List (Addr × Obj)) (cs0 : List Nat) (t : Tok) (hl : cs0.length ≤ 65536) (ha : ∀ c ∈ cs0, c ≤ 127) :
   Cl w mean mg mb 160 3 news [.str (mkS cs0) t] (BytesR (cs0.map fun c => c.toUInt8).toArray news) := by
  unfold Cl
  k_fill
  intro dp un gd cn cs a ccd cl outer A₀ base h₀ L m s Q E B F X N T hk hd hu hret
  refine wpAny_call ?_
  k_dflt (refine' code_def (binds := [(Str.ofString "text", Value.str (mkS cs0) t)]) ?k1 ?k2 ?k3 ?k4 ?k5 ?kA ?kF ?kK ?k6 ?k7 ?k8 ?k9 ?kB ?_ ?c2 ?c3 ?c4 ?c5; (case kA => exact rfl); (case kF => exact rfl); (case kK => assumption); (case k1 => k_asm); (case k2 => k_asm); (case k3 => k_asm); (case k4 => k_asm); (case k5 => k_asm); (case k6 => k_is); (case k7 => k_is); (case k8 => k_extra "my_room"); (case k9 => first | exact BindsTo.of_eq rfl | exact binds_K (by k_in) rfl (by k_is) rfl rfl rfl); (case c5 => decide); (case kB => exact locs rfl); (case c2 => exact rfl); (case c3 => exact rfl); (case c4 => exact rfl); k_whole; intro g' L' h' FG' F' N' B' X' T'; (try dsimp only); (try k_lift B'); (try k_fold))
  k_extra "my_steps"
  with_reducible rename Fr _ _ _ _ => F9
  (with_unfolding_all refine' For_invVF F9 ?k1 ?k2 ?_; (case k1 => exact rfl); (case k2 => exact rfl); k_whole)
  k_extra "my_steps"
  with_reducible rename Fr _ _ _ _ => F9
  with_reducible rename News _ _ _ _ => N9
  rename IsRange _ _ _ _ _ _ _ _ => R9
  refine rangeC (n := cs0.length) rfl R9 (small_len (by omega)) (range_len _) F9 N9 ?_ ?_
  · intro i ti h tk own hi F8 N8
    have h127 : cs0.getD ((i : Nat) : Int).toNat 0 ≤ 127 := by
      rw [Int.toNat_natCast, List.getD_eq_getElem?_getD, List.getElem?_eq_getElem hi]
      exact ha _ (List.getElem_mem hi)
    k_extra "my_steps"
    exact ⟨_, _, _, rfl, F8, N8⟩
  · intro h tk v' F8 N8
    k_extra "my_steps"
    refine ListComp_S (cl := []) F8 (by with_unfolding_all rfl) (by decide) rfl (by decide) rfl ?_
    k_extra "my_steps"
    refine ⟨_, _, _, rfl, rfl, by k_asm, by k_asm, ?_, ?_⟩
    · rw [sizeLine_eq, List.size_toArray]; omega
    rintro s₂ ⟨hh, rfl⟩
    refine rest_all (fun i v => ∃ n t, (cs0.map fun (c : Nat) => (c : Int))[i]? = some n ∧ v = .int n t) ?_ trivial ?_
    · intro i v I oI C oC D m₂ ys h tk E' hi hP hC hx F8 N8 off ne
      obtain ⟨c, u, hc, rfl⟩ := hP
      have hc' : cs0[i]? = some c := by simpa using hc
      k_extra "my_steps"
      exact ⟨_, _, rfl, by k_asm, by k_asm, _, _, by simpa using ⟨c, hc', rfl⟩, rfl⟩
    · intro ys hl' hR D h tk F8 N8 o1
      k_extra "my_steps"
      refine KBa.make_K F8 N8 rfl ⟨_, (N8 _ (.head _)).1, rfl, _, rfl⟩ (ints_of (by simpa using hl') hR) ?_ (by simp; omega) ?_
      · intro n hn
        obtain ⟨c, hc, rfl⟩ := List.mem_map.mp hn
        have := ha c hc
        omega
      intro h' t' k F' N' _
      k_extra "my_steps"
      rw [textB_eq]
      exact hret _ _ _ _ ⟨_, rfl, rfl⟩ (by k_asm) (fun p hp => by rename News h₀ L _ _ => N7; exact N7 p (.tail _ hp))
end
theorem walk_off8 : True := by
  w_top off
  trivial
section
theorem c_plain_t {w : World} {mean : ExcName → Option Value} {mg mb : Str → Option Value} (news : List (Addr × Obj)) (c : Int) (t : Tok) (h : isPlain c = true) :
   Cl w mean mg mb 167 1 news [.int c t] (BoolR true news) := (c_is_plain_code news c t).mono fun v n hP => ⟨by rw [hP.1, h], hP.2⟩
theorem say9 : True := by
  k_with "call ref" => ((with_reducible show wpAny _ _ (call (Value.ref 167) [Value.int _ _]) _ _ _); k_dflt (refine' Cl.useB (c_plain_t _ _ _ ?hm) ?k1 ?k2 ?k3 ?k4 ?k5 ?kK ?kd ?ku ?_; k_extra "my_use"; (case hm => assumption)); intro _ _ _ _; (try dsimp only); (try k_fold))
  trivial
theorem c_utf7_text {w : World} {mean : ExcName → Option Value} {mg mb : Str → Option Value} (news : List (Addr × Obj)) (l : List UInt8) (t : Tok) (hl : l.length ≤ 65536) (ha : ∀ c ∈ l, isPlain c.toNat = true ∧ c ≠ 38) :
   Cl w mean mg mb 223 3 news [.bytes l.toArray t] (StrR (mkS (l.map UInt8.toNat)) news) := by
  unfold Cl
  k_fill
  intro dp un gd cn cs a ccd cl outer A₀ base h₀ L m s Q E B F X N T hk hd hu hret
  refine wpAny_call ?_
  k_dflt (refine' code_def (binds := [(Str.ofString "octets", Value.bytes l.toArray t)]) ?k1 ?k2 ?k3 ?k4 ?k5 ?kA ?kF ?kK ?k6 ?k7 ?k8 ?k9 ?kB ?_ ?c2 ?c3 ?c4 ?c5; (case kA => exact rfl); (case kF => exact rfl); (case kK => assumption); (case k1 => k_asm); (case k2 => k_asm); (case k3 => k_asm); (case k4 => k_asm); (case k5 => k_asm); (case k6 => k_is); (case k7 => k_is); (case k8 => k_extra "my_room"); (case k9 => first | exact BindsTo.of_eq rfl | exact binds_K (by k_in) rfl (by k_is) rfl rfl rfl); (case c5 => decide); (case kB => exact locs rfl); (case c2 => exact rfl); (case c3 => exact rfl); (case c4 => exact rfl); k_whole; intro g' L' h' FG' F' N' B' X' T'; (try dsimp only); (try k_lift B'); (try k_fold))
  k_extra "my_steps"
  with_reducible rename Fr _ _ _ _ => F9
  with_reducible rename News _ _ _ _ => N9
  obtain ⟨ls9, e9⟩ := nm1 N9
  dsimp only at e9
  subst e9
  obtain ⟨M9, eM⟩ := nmF F9
  refine While_inv2 (fun n m' ns => ∃ (k : Nat) (t' : Tok) (v' : Option Value) (vs : List Value) (nn : Nat), k + n = l.length ∧ m' = (fun y => if y = Str.ofString "code" then v' else if y = Str.ofString "at" then some (.int (k : Int) t') else M9 y) ∧ ns = (ls9, listOf vs.toArray nn) :: news ∧ StrsAre vs ((l.take k).map fun c => (⟨#[c.toNat]⟩ : Str))) (n₀ := l.length) F9 N9 ⟨0, _, _, [], 0, by simp, by rw [eM]; exact two_set0 (by decide) _ rfl, rfl, .nil⟩ ?_ (by passes_own)
  rintro n m₁ ns h₁ tk₁ F1 N1 ⟨k, t', v', vs, nn, hk', rfl, rfl, hvs⟩
  subst eM
  clear F9 N9
  have hfact : k < l.length → isPlain ((l.getD ((k : Nat) : Int).toNat 0).toNat : Int) = true ∧ ((l.getD ((k : Nat) : Int).toNat 0).toNat : Int) ≠ 38 ∧ l.take (k + 1) = l.take k ++ [l.getD ((k : Nat) : Int).toNat 0] := fun h => by
    rw [Int.toNat_natCast, List.getD_eq_getElem?_getD, List.getElem?_eq_getElem h]
    have h2 := ha _ (List.getElem_mem h)
    refine ⟨h2.1, fun e => h2.2 ?_, ?_⟩
    · exact (u8_eq (n := 38) (by decide)).mp e
    · rw [List.take_succ_eq_append_getElem h]; rfl
  by_cases hlt : k < l.length
  · obtain ⟨hp1, hp2, hp3⟩ := hfact hlt
    have hp4 : (k : Int) < (l.length : Int) := by omega
    have hvl := strs_len hvs
    rw [List.length_map, List.length_take] at hvl
    have hb := byte_in (l.getD ((k : Nat) : Int).toNat 0)
    k_extra "my_steps"
    · with_reducible rename Fr g' _ _ _ => F7
      with_reducible rename News g' _ _ _ => N7
      rw [List.push_toArray] at N7
      refine ⟨_, _, _, _, l.length - (k + 1), rfl, F7, N7, by omega, k + 1, _, _, _, _, by omega, two_set (by decide) _ _ _ _ _, rfl, ?_⟩
      rw [hp3, List.map_append]
      exact strs_snoc hvs
  · have hp4 : ¬ (k : Int) < (l.length : Int) := by omega
    have hkl : k = l.length := by omega
    subst hkl
    rw [List.take_length] at hvs
    k_extra "my_steps"
    refine join_listW ⟨_, (N1 _ (.head _)).1, rfl, _, rfl⟩ hvs (by decide) (by rw [sign_weightB]; simp; omega) ?_
    intro t' k
    rw [join_mapB]
    k_extra "my_steps"
    exact hret _ _ _ _ ⟨_, rfl, rfl⟩ (by k_asm) (fun p hp => by rename News h₀ L _ _ => N7; exact N7 p (.tail _ hp))
end
theorem walk_off9 : True := by
  w_top off
  trivial
section
theorem say10 : True := by
  k_with "call ref" => ((with_reducible show wpAny _ _ (call (Value.ref 385) [Value.ref _, Value.ref 286]) _ _ _); k_dflt (refine' Cl.useWY (c_run286 _ _ _ ?e1 ?e2 _ _ _ _ _ _ _ _ ?e3 ?e4 ?e5 ?e6) ?k1 ?k2 ?k3 ?k4 ?k5 ?kK ?kd ?ku ?_; k_extra "U"; (case e1 => k_extra "my_ne"); (case e2 => k_all); (case e3 => omega); (case e4 => k_extra "my_at"); (case e5 => assumption); (case e6 => assumption); ); intro _ _ _ _ _ _; (try dsimp only); (try k_fold))
  trivial
theorem c_string_or_a {w : World} {mean : ExcName → Option Value} {mg mb : Str → Option Value} (x d : Addr) (rest : List (Addr × Obj)) (hxd : @Ne Nat x d) (hne : ∀ p ∈ rest, p.1 ≠ d) (l aw r : List UInt8) (td : Tok) (i : Nat) (tp k1 k2 : Tok) (hl : l.length ≤ 65536) (hr : l.drop i = aw ++ r) (h0 : 0 < aw.length) (ha : ∀ c ∈ aw, isAstring c.toNat = true) (hs : ∀ c r', r = c :: r' → isAstring c.toNat = false) :
   Cl w mean mg mb 462 6 ((x, instObj 506 d) :: (d, wd w l td i tp k1 k2) :: rest) [.ref x, .ref 286] (WY w l td k1 k2 x d rest aw (i + aw.length)) := by
  unfold Cl
  k_fill
  intro dp un gd cn cs a ccd cl outer A₀ base h₀ L m s Q E B F X N T hk hd hu hret
  refine wpAny_call ?_
  k_dflt (refine' code_def (binds := [(Str.ofString "self", Value.ref x), (Str.ofString "fits", Value.ref 286)]) ?k1 ?k2 ?k3 ?k4 ?k5 ?kA ?kF ?kK ?k6 ?k7 ?k8 ?k9 ?kB ?_ ?c2 ?c3 ?c4 ?c5; (case kA => exact rfl); (case kF => exact rfl); (case kK => assumption); (case k1 => k_asm); (case k2 => k_asm); (case k3 => k_asm); (case k4 => k_asm); (case k5 => k_asm); (case k6 => k_is); (case k7 => k_is); (case k8 => k_extra "my_room"); (case k9 => first | exact BindsTo.of_eq rfl | exact binds_K (by k_in) rfl (by k_is) rfl rfl rfl); (case c5 => decide); (case kB => exact locs rfl); (case c2 => exact rfl); (case c3 => exact rfl); (case c4 => exact rfl); k_whole; intro g' L' h' FG' F' N' B' X' T'; (try dsimp only); (try k_lift B'); (try k_fold))
  obtain ⟨hp1, hp2⟩ := astring_head (r := r) h0 ha
  have hlw : aw.length ≤ 65536 := drop_le hr hl
  k_extra "my_steps"
  exact hret _ _ _ _ ⟨_, _, rfl, rfl⟩ (by k_asm) (by k_asm)
theorem say11 : True := by
  k_with "call ref" => ((with_reducible show wpAny _ _ (call (Value.ref 385) [Value.ref _, Value.ref 293]) _ _ _); k_dflt (refine' Cl.useWY (c_run293 _ _ _ ?e1 ?e2 _ _ _ _ _ _ _ _ ?e3 ?e4 ?e5 ?e6) ?k1 ?k2 ?k3 ?k4 ?k5 ?kK ?kd ?ku ?_; k_extra "U"; (case e1 => k_extra "my_ne"); (case e2 => k_all); (case e3 => omega); (case e4 => k_extra "my_at"); (case e5 => assumption); (case e6 => assumption); ); intro _ _ _ _ _ _; (try dsimp only); (try k_fold))
  trivial
theorem c_string_or_p {w : World} {mean : ExcName → Option Value} {mg mb : Str → Option Value} (x d : Addr) (rest : List (Addr × Obj)) (hxd : @Ne Nat x d) (hne : ∀ p ∈ rest, p.1 ≠ d) (l aw r : List UInt8) (td : Tok) (i : Nat) (tp k1 k2 : Tok) (hl : l.length ≤ 65536) (hr : l.drop i = aw ++ r) (h0 : 0 < aw.length) (ha : ∀ c ∈ aw, isPattern c.toNat = true) (hs : ∀ c r', r = c :: r' → isPattern c.toNat = false) :
   Cl w mean mg mb 462 7 ((x, instObj 506 d) :: (d, wd w l td i tp k1 k2) :: rest) [.ref x, .ref 293] (WY w l td k1 k2 x d rest aw (i + aw.length)) := by
  unfold Cl
  k_fill
  intro dp un gd cn cs a ccd cl outer A₀ base h₀ L m s Q E B F X N T hk hd hu hret
  refine wpAny_call ?_
  k_dflt (refine' code_def (binds := [(Str.ofString "self", Value.ref x), (Str.ofString "fits", Value.ref 293)]) ?k1 ?k2 ?k3 ?k4 ?k5 ?kA ?kF ?kK ?k6 ?k7 ?k8 ?k9 ?kB ?_ ?c2 ?c3 ?c4 ?c5; (case kA => exact rfl); (case kF => exact rfl); (case kK => assumption); (case k1 => k_asm); (case k2 => k_asm); (case k3 => k_asm); (case k4 => k_asm); (case k5 => k_asm); (case k6 => k_is); (case k7 => k_is); (case k8 => k_extra "my_room"); (case k9 => first | exact BindsTo.of_eq rfl | exact binds_K (by k_in) rfl (by k_is) rfl rfl rfl); (case c5 => decide); (case kB => exact locs rfl); (case c2 => exact rfl); (case c3 => exact rfl); (case c4 => exact rfl); k_whole; intro g' L' h' FG' F' N' B' X' T'; (try dsimp only); (try k_lift B'); (try k_fold))
  obtain ⟨hp1, hp2⟩ := pattern_head (r := r) h0 ha
  have hlw : aw.length ≤ 65536 := drop_le hr hl
  k_extra "my_steps"
  exact hret _ _ _ _ ⟨_, _, rfl, rfl⟩ (by k_asm) (by k_asm)
end
theorem walk_off10 : True := by
  w_top off
  trivial
section
theorem c_plain_t2 {w : World} {mean : ExcName → Option Value} {mg mb : Str → Option Value} (news : List (Addr × Obj)) (c : Int) (t : Tok) (h : isPlain c = true) :
   Cl w mean mg mb 167 1 news [.int c t] (BoolR true news) := (c_is_plain_code news c t).mono fun v n hP => ⟨by rw [hP.1, h], hP.2⟩
theorem say12 : True := by
  k_with "call ref" => ((with_reducible show wpAny _ _ (call (Value.ref 167) [Value.int _ _]) _ _ _); k_dflt (refine' Cl.useB (c_plain_t2 _ _ _ ?hm) ?k1 ?k2 ?k3 ?k4 ?k5 ?kK ?kd ?ku ?_; k_extra "my_use"; (case hm => assumption)); intro _ _ _ _; (try dsimp only); (try k_fold))
  trivial
theorem c_utf7_octets {w : World} {mean : ExcName → Option Value} {mg mb : Str → Option Value} (news : List (Addr × Obj)) (cs0 : List Nat) (t : Tok) (hl : cs0.length ≤ 1000) (ha : ∀ c ∈ cs0, isPlain (c : Int) = true ∧ c ≠ 38) :
   ClN w mean mg mb 195 3 news [.str (mkS cs0) t] (BytesR (cs0.map fun c => c.toUInt8).toArray news) := by
  unfold ClN
  k_fill
  intro dp un cn cs a ccd cl outer A₀ base h₀ L m s Q B F X N T hk hd hu hret
  refine wpN_call ?_
  k_dflt (refine' code_defN (binds := [(Str.ofString "text", Value.str (mkS cs0) t)]) ?k1 ?k2 ?k3 ?k4 ?k5 ?kA ?kF ?kK ?k6 ?k7 ?k8 ?k9 ?kB ?_ ?c2 ?c3 ?c4 ?c5; (case kA => exact rfl); (case kF => exact rfl); (case kK => assumption); (case k1 => k_asm); (case k2 => k_asm); (case k3 => k_asm); (case k4 => k_asm); (case k5 => k_asm); (case k6 => k_is); (case k7 => k_is); (case k8 => k_extra "my_room"); (case k9 => first | exact BindsTo.of_eq rfl | exact binds_K (by k_in) rfl (by k_is) rfl rfl rfl); (case c5 => decide); (case kB => exact locs rfl); (case c2 => exact rfl); (case c3 => exact rfl); (case c4 => exact rfl); k_whole; intro g' L' h' FG' F' N' B' X' T'; (try dsimp only); (try k_lift B'); (try k_fold))
  k_extra "n_steps"
  with_reducible rename Fr _ _ _ _ => F9
  with_reducible rename News _ _ _ _ => N9
  obtain ⟨S9, e9⟩ := nm1 N9
  dsimp only at e9
  subst e9
  rename ∀ p ∈ news, p.1 ≠ S9 => hne8
  obtain ⟨M9, eM⟩ := nmF F9
  obtain ⟨tk0, ht0⟩ : ∃ tk0, M9 (Str.ofString "at") = some (.int ((0 : Nat) : Int) tk0) := ⟨_, by rw [eM]; rfl⟩
  have F10 := F9
  rw [← eM, two_set0 (a := Str.ofString "at") (b := Str.ofString "code") (by decide) M9 ht0] at F10
  refine nWhile (fun n s' => ∃ (h' : Heap) (tk' : Nat) (k : Nat) (t' : Tok) (v' : Option Value), s' = { s with heap := h', toks := tk' } ∧ k + n = cs0.length ∧ Fr g' L' h' (fun y => if y = Str.ofString "code" then v' else if y = Str.ofString "at" then some (.int (k : Int) t') else M9 y) ∧ News g' L' h' ((S9, bao ((cs0.take k).map fun c => c.toUInt8)) :: news)) cs0.length ⟨_, _, 0, _, _, rfl, by simp, F10, N9⟩ ?_
  rintro n s' ⟨h₁, tk₁, k, t', v', rfl, hk', F1, N1⟩
  clear F9 N9 F10
  subst eM
  have hsz : ((cs0.take k).map fun c => c.toUInt8).length ≤ 2001 := by
    rw [List.length_map, List.length_take]; omega
  by_cases hlt : k < cs0.length
  · have hg : cs0.getD ((k : Nat) : Int).toNat 0 = cs0[k] := by
      rw [Int.toNat_natCast, List.getD_eq_getElem?_getD, List.getElem?_eq_getElem hlt]; rfl
    have h2 := ha _ (List.getElem_mem hlt)
    rw [← hg] at h2
    obtain ⟨hp1, hp2⟩ := h2
    have hp3 : cs0.take (k + 1) = cs0.take k ++ [cs0.getD ((k : Nat) : Int).toNat 0] := by
      rw [hg, List.take_succ_eq_append_getElem hlt]
    have hp5 : ((cs0.getD ((k : Nat) : Int).toNat 0 : Nat) : Int) ≠ 38 := by omega
    have hp6 : 32 ≤ ((cs0.getD ((k : Nat) : Int).toNat 0 : Nat) : Int) ∧ ((cs0.getD ((k : Nat) : Int).toNat 0 : Nat) : Int) ≤ 126 := by
      have := hp1
      simp only [isPlain, decide_eq_true_eq] at this
      exact this
    have hp4 : (k : Int) < (cs0.length : Int) := by omega
    k_extra "n_steps"
    with_reducible rename Fr g' _ _ _ => F7
    with_reducible rename News g' _ _ _ => N7
    rw [show (((cs0.getD ((k : Nat) : Int).toNat 0 : Nat) : Int)).toNat = cs0.getD ((k : Nat) : Int).toNat 0 from Int.toNat_natCast _, show ((cs0.take k).map fun c => c.toUInt8) ++ [(cs0.getD ((k : Nat) : Int).toNat 0).toUInt8] = (cs0.take (k + 1)).map fun c => c.toUInt8 by rw [hp3, List.map_append]; rfl] at N7
    exact ⟨cs0.length - (k + 1), by omega, _, _, k + 1, _, _, rfl, by omega, two_set (a := Str.ofString "at") (b := Str.ofString "code") (by decide) _ _ _ _ _ ▸ F7, N7⟩
  · have hp4 : ¬ (k : Int) < (cs0.length : Int) := by omega
    have hkl : k = cs0.length := by omega
    subst hkl
    k_extra "n_steps"
    rw [List.take_length] at N1 ⊢
    exact ⟨_, _, _, F1, Mine.News.drop1 N1, fun F8 N8 => hret _ _ _ _ ⟨_, rfl, rfl⟩ F8 N8⟩
end
theorem walk_off11 : True := by
  w_top off
  trivial
section
theorem q_take {l : List UInt8} {i : Nat} {c : UInt8} (hc : l.toArray[i]? = some c) : l.take (i + 1) = l.take i ++ [c] := by
  rw [List.take_add_one]
  have : l[i]? = some c := by simpa using hc
  rw [this]; rfl
theorem q_size (l : List UInt8) : (l.flatMap qItem).length ≤ 2 * l.length := by
  induction l with
  | nil => simp
  | cons c l ih =>
    rw [List.flatMap_cons, List.length_append, List.length_cons]
    have : (qItem c).length ≤ 2 := by unfold qItem; split <;> simp
    omega
theorem c_quoted_octets {w : World} {mean : ExcName → Option Value} {mg mb : Str → Option Value} (news : List (Addr × Obj)) (l : List UInt8) (t : Tok) (hl : l.length ≤ 1000) :
   ClN w mean mg mb 522 3 news [.bytes l.toArray t] (BytesR (quoteB l).toArray news) := by
  unfold ClN
  k_fill
  intro dp un cn cs a ccd cl outer A₀ base h₀ L m s Q B F X N T hk hd hu hret
  refine wpN_call ?_
  k_dflt (refine' code_defN (binds := [(Str.ofString "octets", Value.bytes l.toArray t)]) ?k1 ?k2 ?k3 ?k4 ?k5 ?kA ?kF ?kK ?k6 ?k7 ?k8 ?k9 ?kB ?_ ?c2 ?c3 ?c4 ?c5; (case kA => exact rfl); (case kF => exact rfl); (case kK => assumption); (case k1 => k_asm); (case k2 => k_asm); (case k3 => k_asm); (case k4 => k_asm); (case k5 => k_asm); (case k6 => k_is); (case k7 => k_is); (case k8 => k_extra "my_room"); (case k9 => first | exact BindsTo.of_eq rfl | exact binds_K (by k_in) rfl (by k_is) rfl rfl rfl); (case c5 => decide); (case kB => exact locs rfl); (case c2 => exact rfl); (case c3 => exact rfl); (case c4 => exact rfl); k_whole; intro g' L' h' FG' F' N' B' X' T'; (try dsimp only); (try k_lift B'); (try k_fold))
  k_extra "n_steps"
  with_reducible rename Fr _ _ _ _ => F9
  with_reducible rename News _ _ _ ((_, bao _) :: _) => N9
  rename Addr => S9
  refine forYc (J := fun i ns => ns = (S9, bao ([34] ++ (l.take i).flatMap qItem)) :: news) rfl rfl rfl F9 N9 (by simp) ?_ ?_
  · rintro i c news₁ h tk t' I oI hc rfl F8 N8 off
    rw [List.cons_append] at N8
    have hne8 : ∀ p ∈ news ++ [(I, oI)], p.1 ≠ S9 := fun p hp => by
      rcases List.mem_append.mp hp with q | q
      · exact (by assumption : ∀ p ∈ news, p.1 ≠ S9) p q
      · rw [List.mem_singleton.mp q]; exact Ne.symm (off _ (.head _))
    have hsz : ([34] ++ (l.take i).flatMap qItem).length ≤ 2001 := by
      have := q_size (l.take i)
      rw [List.length_append]
      have := List.length_take_le' i l
      simp only [List.length_cons, List.length_nil]
      omega
    have ht := q_take hc
    k_extra "n_steps"
    · have hc34 : c = 34 := (u8_eq (n := 34) (by decide)).mp (by assumption)
      with_reducible rename Fr _ _ _ _ => F7
      with_reducible rename News _ _ _ ((_, bao _) :: _) => N7
      refine ⟨_, _, _, (S9, bao _) :: news, rfl, F7, N7, rfl, congrArg (fun z => (S9, bao z) :: news) ?_⟩
      rw [ht, u8_back]
      simp [qItem, hc34]
    · have hc92 : c = 92 := (u8_eq (n := 92) (by decide)).mp (by assumption)
      with_reducible rename Fr _ _ _ _ => F7
      with_reducible rename News _ _ _ ((_, bao _) :: _) => N7
      refine ⟨_, _, _, (S9, bao _) :: news, rfl, F7, N7, rfl, congrArg (fun z => (S9, bao z) :: news) ?_⟩
      rw [ht, u8_back]
      simp [qItem, hc92]
    · have n34 : ¬ c = 34 := fun e => (by assumption : ((c.toNat : Int)) ≠ 34) ((u8_eq (n := 34) (by decide)).mpr e)
      have n92 : ¬ c = 92 := fun e => (by assumption : ((c.toNat : Int)) ≠ 92) ((u8_eq (n := 92) (by decide)).mpr e)
      with_reducible rename Fr _ _ _ _ => F7
      with_reducible rename News _ _ _ ((_, bao _) :: _) => N7
      refine ⟨_, _, _, (S9, bao _) :: news, rfl, F7, N7, rfl, congrArg (fun z => (S9, bao z) :: news) ?_⟩
      rw [ht, u8_back]
      simp [qItem, n34, n92]
  · intro h9 tk9 v9 news9 F7 N7 hJ9
    subst hJ9
    have hsz : ([34] ++ (l.take l.toArray.size).flatMap qItem).length ≤ 2001 := by
      have := q_size (l.take l.toArray.size)
      rw [List.length_append]
      have := List.length_take_le' l.toArray.size l
      simp only [List.length_cons, List.length_nil]
      omega
    k_extra "n_steps"
    with_reducible rename Fr _ _ _ _ => F7
    with_reducible rename News _ _ _ ((_, bao _) :: _) => N7
    refine ⟨_, _, _, F7, Mine.News.drop1 N7, fun F8 N8 => hret _ _ _ _ ⟨_, congrArg (fun z => Value.bytes (List.toArray z) _) ?_, rfl⟩ F8 N8⟩
    rw [List.size_toArray, List.take_length]; rfl
end
theorem walk_off12 : True := by
  w_top off
  trivial
section
theorem c_peekI {w : World} {mean : ExcName → Option Value} {mg mb : Str → Option Value} (x d : Addr) (rest : List (Addr × Obj)) (l r : List UInt8) (td : Tok) (p : Int) (tp k1 k2 : Tok) (hl : l.length ≤ 16777216) (h0 : 0 ≤ p) (hr : l.drop p.toNat = r) :
   Cl w mean mg mb 350 1 ((x, instObj 506 d) :: (d, wd w l td p tp k1 k2) :: rest) [.ref x] (IntR (hdB r) ((x, instObj 506 d) :: (d, wd w l td p tp k1 k2) :: rest)) := by
  obtain ⟨i, rfl⟩ := Int.eq_ofNat_of_zero_le h0
  exact c_peek x d rest l r td i tp k1 k2 hl hr
theorem say13 : True := by
  k_with "call ref" => ((with_reducible show wpAny _ _ (call (Value.ref 350) [Value.ref _]) _ _ _); k_dflt (refine' Cl.useI (c_peekI _ _ _ _ _ _ _ _ _ _ ?e3 ?e4 ?e5) ?k1 ?k2 ?k3 ?k4 ?k5 ?kK ?kd ?ku ?_; k_extra "U"; (case e3 => omega); (case e4 => omega); (case e5 => assumption)); intro _ _ _ _ _; (try dsimp only); (try k_fold))
  trivial
theorem c_quoted {w : World} {mean : ExcName → Option Value} {mg mb : Str → Option Value} (x d : Addr) (rest : List (Addr × Obj)) (hxd : @Ne Nat x d) (hne : ∀ p ∈ rest, p.1 ≠ d) (l b r : List UInt8) (td : Tok) (i : Nat) (tp k1 k2 : Tok) (hl : l.length ≤ 65536) (hb : b.length ≤ 1000) (hr : l.drop i = 34 :: (b.flatMap qItem ++ 34 :: r)) (ha : ∀ c ∈ b, 1 ≤ c.toNat ∧ c.toNat ≤ 127 ∧ c.toNat ≠ 13 ∧ c.toNat ≠ 10) :
   ClN w mean mg mb 441 4 ((x, instObj 506 d) :: (d, wd w l td i tp k1 k2) :: rest) [.ref x] (fun v news' => ∃ t tp', v = .bytes b.toArray t ∧ news' = (x, instObj 506 d) :: (d, wd w l td ((l.length - r.length : Nat) : Int) tp' k1 k2) :: rest) := by
  unfold ClN
  k_fill
  intro dp un cn cs a ccd cl outer A₀ base h₀ L m s Q B F X N T hk hd hu hret
  refine wpN_call ?_
  k_dflt (refine' code_defN (binds := [(Str.ofString "self", Value.ref x)]) ?k1 ?k2 ?k3 ?k4 ?k5 ?kA ?kF ?kK ?k6 ?k7 ?k8 ?k9 ?kB ?_ ?c2 ?c3 ?c4 ?c5; (case kA => exact rfl); (case kF => exact rfl); (case kK => assumption); (case k1 => k_asm); (case k2 => k_asm); (case k3 => k_asm); (case k4 => k_asm); (case k5 => k_asm); (case k6 => k_is); (case k7 => k_is); (case k8 => k_extra "my_room"); (case k9 => first | exact BindsTo.of_eq rfl | exact binds_K (by k_in) rfl (by k_is) rfl rfl rfl); (case c5 => decide); (case kB => exact locs rfl); (case c2 => exact rfl); (case c3 => exact rfl); (case c4 => exact rfl); k_whole; intro g' L' h' FG' F' N' B' X' T'; (try dsimp only); (try k_lift B'); (try k_fold))
  have hr1 : l.drop (i + 1) = b.flatMap qItem ++ 34 :: r := drop_one hr
  k_extra "n_steps"
  with_reducible rename Fr _ _ _ _ => F9
  with_reducible rename News _ _ _ _ => N9
  obtain ⟨S9, e9⟩ := nm1 N9
  dsimp only at e9
  subst e9
  rename ∀ p ∈ (x, instObj 506 d) :: (d, _) :: rest, p.1 ≠ S9 => hne8
  obtain ⟨M9, eM⟩ := nmF F9
  rw [← eM] at F9
  refine nWhile (fun n s' => ∃ (h' : Heap) (tk' : Nat) (done rem : List UInt8) (pos : Nat) (tp' : Tok), s' = { s with heap := h', toks := tk' } ∧ n = rem.length ∧ done ++ rem = b ∧ l.drop pos = rem.flatMap qItem ++ 34 :: r ∧ Fr g' L' h' M9 ∧ News g' L' h' ((S9, bao done) :: (x, instObj 506 d) :: (d, wd w l td (pos : Int) tp' k1 k2) :: rest)) b.length ⟨_, _, [], b, i + 1, _, rfl, rfl, rfl, hr1, F9, N9⟩ ?_
  rintro n s' ⟨h₁, tk₁, done, rem, pos, tp', rfl, rfl, hdr, hpos, F1, N1⟩
  clear F9 N9
  subst eM
  have hsz : done.length ≤ 1000 := by
    have := congrArg List.length hdr
    rw [List.length_append] at this
    omega
  have hne9 : ∀ p ∈ (x, instObj 506 d) :: (d, wd w l td (pos : Int) tp' k1 k2) :: rest, p.1 ≠ S9 := (ne3 hne8).1
  obtain ⟨_, hxS, hdS, hrS⟩ := ne3 (o3 := instObj 506 d) hne8
  cases rem with
  | nil =>
    have p0 : l.drop ((pos : Int)).toNat = 34 :: r := hpos
    have f0 : hdB (34 :: r) = 34 := rfl
    k_extra "n_steps"
    with_reducible rename Fr _ _ _ _ => F7
    with_reducible rename News _ _ _ _ => N7
    have e1 : l.length - r.length = pos + 1 := drop_end hpos
    rw [List.append_nil] at hdr
    have N8 := News.toCast N7 e1.symm
    refine ⟨_, _, _, F7, N8, fun F8 N8 => hret _ _ _ _ ⟨_, _, congrArg (fun z => Value.bytes (List.toArray z) _) hdr, rfl⟩ F8 N8⟩
  | cons c rem =>
    have hb := byte_in c
    obtain ⟨ha1, ha2, ha3, ha4⟩ := ha c (hdr ▸ List.mem_append_right _ (.head _))
    have fc : ∀ R, hdB (c :: R) = (c.toNat : Int) := fun _ => rfl
    have fin : (#[13, 10] : Array UInt8).contains (hdB (c :: (rem.flatMap qItem ++ 34 :: r))).toNat.toUInt8 = false := crlf_no ha3 ha4
    have hu8 : (hdB (c :: (rem.flatMap qItem ++ 34 :: r))).toNat.toUInt8 = c := u8_back c
    by_cases hc : c = 34 ∨ c = 92
    · have p0 : l.drop ((pos : Int)).toNat = 92 :: (c :: (rem.flatMap qItem ++ 34 :: r)) := by
        rw [Int.toNat_natCast, hpos, List.flatMap_cons, qItem, if_pos hc]; rfl
      have p1 : l.drop ((pos : Int) + 1).toNat = c :: (rem.flatMap qItem ++ 34 :: r) := drop_toNat1 (drop_one p0)
      have f0 : hdB (92 :: (c :: (rem.flatMap qItem ++ 34 :: r))) = 92 := rfl
      have f1 := fc (rem.flatMap qItem ++ 34 :: r)
      have hcn : (c.toNat : Int) = 34 ∨ (c.toNat : Int) = 92 := by
        rcases hc with rfl | rfl
        · exact .inl rfl
        · exact .inr rfl
      k_extra "n_steps"
      all_goals (
        with_reducible rename Fr _ _ _ _ => F7
        with_reducible rename News _ _ _ _ => N7
        rw [hu8] at N7
        exact ⟨rem.length, Nat.lt_succ_self _, _, _, done ++ [c], rem, pos + 2, _, rfl, rfl, by rw [List.append_assoc]; exact hdr, drop_one (i := pos + 1) (by have := p1; rwa [show ((pos : Int) + 1).toNat = pos + 1 by omega] at this), F7, Mine.News.cast2 N7⟩)
    · have p0 : l.drop ((pos : Int)).toNat = c :: (rem.flatMap qItem ++ 34 :: r) := by
        rw [Int.toNat_natCast, hpos, List.flatMap_cons, qItem, if_neg hc]; rfl
      have f1 := fc (rem.flatMap qItem ++ 34 :: r)
      have hc1 : (c.toNat : Int) ≠ 34 := fun e => hc (.inl ((u8_eq (n := 34) (by decide)).mp e))
      have hc2 : (c.toNat : Int) ≠ 92 := fun e => hc (.inr ((u8_eq (n := 92) (by decide)).mp e))
      k_extra "n_steps"
      with_reducible rename Fr _ _ _ _ => F7
      with_reducible rename News _ _ _ _ => N7
      rw [hu8] at N7
      exact ⟨rem.length, Nat.lt_succ_self _, _, _, done ++ [c], rem, pos + 1, _, rfl, rfl, by rw [List.append_assoc]; exact hdr, drop_one p0, F7, Mine.News.cast1 N7⟩
end
theorem walk_off13 : True := by
  w_top off
  trivial
section
theorem say14 : True := by
  k_with "n_calls" => ((with_reducible show wpN _ _ (call (Value.ref 441) [Value.ref _]) _ _); k_dflt (refine' ClN.use (c_quoted _ _ _ ?e1 ?e2 _ _ _ _ _ _ _ _ ?e3 ?e5 ?e4 ?e6) ?k1 ?k2 ?k3 ?k4 ?k5 ?kK ?kd ?ku ?_; k_extra "U"; (case e1 => k_extra "my_ne"); (case e2 => k_all); (case e3 => omega); (case e4 => k_extra "my_at"); (case e5 => first | omega | assumption); (case e6 => assumption); ); rintro _ _ _ _ ⟨_, _, ev'₉, en'₉⟩ _ _; subst ev'₉ en'₉; (try dsimp only))
  trivial
theorem c_string_q {w : World} {mean : ExcName → Option Value} {mg mb : Str → Option Value} (x d : Addr) (rest : List (Addr × Obj)) (hxd : @Ne Nat x d) (hne : ∀ p ∈ rest, p.1 ≠ d) (l b r : List UInt8) (td : Tok) (i : Nat) (tp k1 k2 : Tok) (hl : l.length ≤ 65536) (hb : b.length ≤ 1000) (hr : l.drop i = 34 :: (b.flatMap qItem ++ 34 :: r)) (ha : ∀ c ∈ b, 1 ≤ c.toNat ∧ c.toNat ≤ 127 ∧ c.toNat ≠ 13 ∧ c.toNat ≠ 10) :
   ClN w mean mg mb 455 5 ((x, instObj 506 d) :: (d, wd w l td i tp k1 k2) :: rest) [.ref x] (WY w l td k1 k2 x d rest b (l.length - r.length)) := by
  unfold ClN
  k_fill
  intro dp un cn cs a ccd cl outer A₀ base h₀ L m s Q B F X N T hk hd hu hret
  refine wpN_call ?_
  k_dflt (refine' code_defN (binds := [(Str.ofString "self", Value.ref x)]) ?k1 ?k2 ?k3 ?k4 ?k5 ?kA ?kF ?kK ?k6 ?k7 ?k8 ?k9 ?kB ?_ ?c2 ?c3 ?c4 ?c5; (case kA => exact rfl); (case kF => exact rfl); (case kK => assumption); (case k1 => k_asm); (case k2 => k_asm); (case k3 => k_asm); (case k4 => k_asm); (case k5 => k_asm); (case k6 => k_is); (case k7 => k_is); (case k8 => k_extra "my_room"); (case k9 => first | exact BindsTo.of_eq rfl | exact binds_K (by k_in) rfl (by k_is) rfl rfl rfl); (case c5 => decide); (case kB => exact locs rfl); (case c2 => exact rfl); (case c3 => exact rfl); (case c4 => exact rfl); k_whole; intro g' L' h' FG' F' N' B' X' T'; (try dsimp only); (try k_lift B'); (try k_fold))
  have f0 : hdB (34 :: (b.flatMap qItem ++ 34 :: r)) = 34 := rfl
  k_extra "n_steps"
  with_reducible rename Fr _ _ _ _ => F7
  with_reducible rename News _ _ _ _ => N7
  exact ⟨_, _, _, F7, N7, fun F8 N8 => hret _ _ _ _ ⟨_, _, rfl, rfl⟩ F8 N8⟩
theorem say15 : True := by
  k_with "n_calls" => ((with_reducible show wpN _ _ (call (Value.ref 455) [Value.ref _]) _ _); k_dflt (refine' ClN.use (c_string_q _ _ _ ?e1 ?e2 _ _ _ _ _ _ _ _ ?e3 ?e5 ?e4 ?e6) ?k1 ?k2 ?k3 ?k4 ?k5 ?kK ?kd ?ku ?_; k_extra "U"; (case e1 => k_extra "my_ne"); (case e2 => k_all); (case e3 => omega); (case e4 => k_extra "my_at"); (case e5 => first | omega | assumption); (case e6 => assumption); ); rintro _ _ _ _ ⟨_, _, ev'₉, en'₉⟩ _ _; subst ev'₉ en'₉; (try dsimp only))
  trivial
theorem c_string_or_q {w : World} {mean : ExcName → Option Value} {mg mb : Str → Option Value} (f : Addr) (x d : Addr) (rest : List (Addr × Obj)) (hxd : @Ne Nat x d) (hne : ∀ p ∈ rest, p.1 ≠ d) (l b r : List UInt8) (td : Tok) (i : Nat) (tp k1 k2 : Tok) (hl : l.length ≤ 65536) (hb : b.length ≤ 1000) (hr : l.drop i = 34 :: (b.flatMap qItem ++ 34 :: r)) (ha : ∀ c ∈ b, 1 ≤ c.toNat ∧ c.toNat ≤ 127 ∧ c.toNat ≠ 13 ∧ c.toNat ≠ 10) :
   ClN w mean mg mb 462 6 ((x, instObj 506 d) :: (d, wd w l td i tp k1 k2) :: rest) [.ref x, .ref f] (WY w l td k1 k2 x d rest b (l.length - r.length)) := by
  unfold ClN
  k_fill
  intro dp un cn cs a ccd cl outer A₀ base h₀ L m s Q B F X N T hk hd hu hret
  refine wpN_call ?_
  k_dflt (refine' code_defN (binds := [(Str.ofString "self", Value.ref x), (Str.ofString "fits", Value.ref f)]) ?k1 ?k2 ?k3 ?k4 ?k5 ?kA ?kF ?kK ?k6 ?k7 ?k8 ?k9 ?kB ?_ ?c2 ?c3 ?c4 ?c5; (case kA => exact rfl); (case kF => exact rfl); (case kK => assumption); (case k1 => k_asm); (case k2 => k_asm); (case k3 => k_asm); (case k4 => k_asm); (case k5 => k_asm); (case k6 => k_is); (case k7 => k_is); (case k8 => k_extra "my_room"); (case k9 => first | exact BindsTo.of_eq rfl | exact binds_K (by k_in) rfl (by k_is) rfl rfl rfl); (case c5 => decide); (case kB => exact locs rfl); (case c2 => exact rfl); (case c3 => exact rfl); (case c4 => exact rfl); k_whole; intro g' L' h' FG' F' N' B' X' T'; (try dsimp only); (try k_lift B'); (try k_fold))
  have f0 : hdB (34 :: (b.flatMap qItem ++ 34 :: r)) = 34 := rfl
  k_extra "n_steps"
  with_reducible rename Fr _ _ _ _ => F7
  with_reducible rename News _ _ _ _ => N7
  exact ⟨_, _, _, F7, N7, fun F8 N8 => hret _ _ _ _ ⟨_, _, rfl, rfl⟩ F8 N8⟩
theorem say16 : True := by
  k_with "n_calls" => ((with_reducible show wpN _ _ (call (Value.ref 462) [Value.ref _, Value.ref _]) _ _); k_dflt (refine' ClN.use (c_string_or_q _ _ _ _ ?e1 ?e2 _ _ _ _ _ _ _ _ ?e3 ?e5 ?e4 ?e6) ?k1 ?k2 ?k3 ?k4 ?k5 ?kK ?kd ?ku ?_; k_extra "U"; (case e1 => k_extra "my_ne"); (case e2 => k_all); (case e3 => omega); (case e4 => k_extra "my_at"); (case e5 => first | omega | assumption); (case e6 => assumption); ); rintro _ _ _ _ ⟨_, _, ev'₉, en'₉⟩ _ _; subst ev'₉ en'₉; (try dsimp only))
  trivial
theorem c_astring_qC {w : World} {mean : ExcName → Option Value} {mg mb : Str → Option Value} (x d : Addr) (rest : List (Addr × Obj)) (hxd : @Ne Nat x d) (hne : ∀ p ∈ rest, p.1 ≠ d) (l b r : List UInt8) (td : Tok) (i : Nat) (tp k1 k2 : Tok) (hl : l.length ≤ 65536) (hb : b.length ≤ 1000) (hr : l.drop i = 34 :: (b.flatMap qItem ++ 34 :: r)) (ha : ∀ c ∈ b, 1 ≤ c.toNat ∧ c.toNat ≤ 127 ∧ c.toNat ≠ 13 ∧ c.toNat ≠ 10) :
   ClNC w mean mg mb 469 7 ((x, instObj 506 d) :: (d, wd w l td i tp k1 k2) :: rest) [.ref x] (WY w l td k1 k2 x d rest b (l.length - r.length)) := by
  unfold ClNC
  k_fill
  intro dp un cn cs a ccd cl outer A₀ base h₀ L m s RR B F X N T hk hd hu hret
  k_dflt (refine' code_defN (binds := [(Str.ofString "self", Value.ref x)]) ?k1 ?k2 ?k3 ?k4 ?k5 ?kA ?kF ?kK ?k6 ?k7 ?k8 ?k9 ?kB ?_ ?c2 ?c3 ?c4 ?c5; (case kA => exact rfl); (case kF => exact rfl); (case kK => assumption); (case k1 => k_asm); (case k2 => k_asm); (case k3 => k_asm); (case k4 => k_asm); (case k5 => k_asm); (case k6 => k_is); (case k7 => k_is); (case k8 => k_extra "my_room"); (case k9 => first | exact BindsTo.of_eq rfl | exact binds_K (by k_in) rfl (by k_is) rfl rfl rfl); (case c5 => decide); (case kB => exact locs rfl); (case c2 => exact rfl); (case c3 => exact rfl); (case c4 => exact rfl); k_whole; intro g' L' h' FG' F' N' B' X' T'; (try dsimp only); (try k_lift B'); (try k_fold))
  k_extra "n_steps"
  with_reducible rename Fr _ _ _ _ => F7
  with_reducible rename News _ _ _ _ => N7
  exact ⟨_, _, _, F7, N7, fun F8 N8 => hret _ _ _ _ ⟨_, _, rfl, rfl⟩ F8 N8⟩
end
theorem say17 : True := by
  k_with "call ref" => ((with_reducible show wpAny _ _ (call (Value.ref 385) [Value.ref _, Value.ref 279]) _ _ _); k_dflt (refine' Cl.useWY (c_run279 _ _ _ ?e1 ?e2 _ _ _ _ _ _ _ _ ?e3 ?e4 ?e5 ?e6) ?k1 ?k2 ?k3 ?k4 ?k5 ?kK ?kd ?ku ?_; k_extra "U"; (case e1 => k_extra "my_ne"); (case e2 => k_all); (case e3 => omega); (case e4 => k_extra "my_at"); (case e5 => assumption); (case e6 => assumption); ); intro _ _ _ _ _ _; (try dsimp only); (try k_fold))
  k_with "call ref" => ((with_reducible show wpAny _ _ (call (Value.ref 155) [Value.bytes _ _]) _ _ _); k_dflt (refine' Cl.useS (c_ascii _ _ _ (by k_extra "my_size") (by k_extra "my_ascii")) ?k1 ?k2 ?k3 ?k4 ?k5 ?kK ?kd ?ku ?_; k_extra "my_use"); intro _ _ _ _ _; (try dsimp only); (try k_fold))
  k_with "call ref" => ((with_reducible show wpAny _ _ (call (Value.ref 150) [Value.str _ _]) _ _ _); k_dflt (refine' Cl.useS (c_upper _ _ _ (by k_extra "my_size")) ?k1 ?k2 ?k3 ?k4 ?k5 ?kK ?kd ?ku ?_; k_extra "my_use"); intro _ _ _ _ _; (try dsimp only); (try k_fold))
  k_with "call ref" => ((with_reducible show wpAny _ _ (call (Value.ref 160) [Value.str _ _]) _ _ _); k_dflt (refine' Cl.useY (c_text _ _ _ (by k_extra "my_size") (by k_extra "my_ascii")) ?k1 ?k2 ?k3 ?k4 ?k5 ?kK ?kd ?ku ?_; k_extra "my_use"); intro _ _ _ _ _; (try dsimp only); (try k_fold))
  k_with "call ref" => ((with_reducible show wpAny _ _ (call (Value.ref 145) [Value.bytes _ _]) _ _ _); k_dflt (refine' Cl.useY (c_lower _ _ _ (by k_extra "my_size")) ?k1 ?k2 ?k3 ?k4 ?k5 ?kK ?kd ?ku ?_; k_extra "my_use"); intro _ _ _ _ _; (try dsimp only); (try k_fold))
  k_with "my_ascii" => first | assumption
  trivial
theorem walk_off14 : True := by
  w_top off
  trivial
section
theorem c_first_part {w : World} {mean : ExcName → Option Value} {mg mb : Str → Option Value} (news : List (Addr × Obj)) (cs0 hs rs : List Nat) (t : Tok) (hl : cs0.length ≤ 65536) (hf : firstP (mkS cs0) = (mkS hs, mkS rs)) :
   Cl w mean mg mb 230 3 news [.str (mkS cs0) t] (fun v news' => ∃ a t1 t2, v = .ref a ∧ news' = (a, tpo [.str (mkS hs) t1, .str (mkS rs) t2]) :: news) := by
  unfold Cl
  k_fill
  intro dp un gd cn cs a ccd cl outer A₀ base h₀ L m s Q E B F X N T hk hd hu hret
  refine wpAny_call ?_
  k_dflt (refine' code_def (binds := [(Str.ofString "text", Value.str (mkS cs0) t)]) ?k1 ?k2 ?k3 ?k4 ?k5 ?kA ?kF ?kK ?k6 ?k7 ?k8 ?k9 ?kB ?_ ?c2 ?c3 ?c4 ?c5; (case kA => exact rfl); (case kF => exact rfl); (case kK => assumption); (case k1 => k_asm); (case k2 => k_asm); (case k3 => k_asm); (case k4 => k_asm); (case k5 => k_asm); (case k6 => k_is); (case k7 => k_is); (case k8 => k_extra "my_room"); (case k9 => first | exact BindsTo.of_eq rfl | exact binds_K (by k_in) rfl (by k_is) rfl rfl rfl); (case c5 => decide); (case kB => exact locs rfl); (case c2 => exact rfl); (case c3 => exact rfl); (case c4 => exact rfl); k_whole; intro g' L' h' FG' F' N' B' X' T'; (try dsimp only); (try k_lift B'); (try k_fold))
  unfold firstP at hf
  k_extra "my_steps"
  · rename (Txt.find _ _ < 0) => hq
    rw [if_pos hq] at hf
    obtain ⟨e1, e2⟩ := Prod.mk.inj hf
    with_reducible rename News h₀ L _ _ => N7
    rw [e1, e2] at N7
    exact hret _ _ _ _ ⟨_, _, _, rfl, rfl⟩ (by k_asm) N7
  · rename ¬ (Txt.find _ _ < 0) => hq
    rw [if_neg hq] at hf
    obtain ⟨e1, e2⟩ := Prod.mk.inj hf
    with_reducible rename News h₀ L _ _ => N7
    rw [e1, e2] at N7
    exact hret _ _ _ _ ⟨_, _, _, rfl, rfl⟩ (by k_asm) N7
theorem say18 : True := by
  k_with "call ref" => ((with_reducible show wpAny _ _ (call (Value.ref 230) [Value.str _ _]) _ _ _); k_dflt (refine' Cl.use (c_first_part _ _ _ _ _ ?e1 ?e2) ?k1 ?k2 ?k3 ?k4 ?k5 ?kK ?kd ?ku ?_; k_extra "my_use"; (case e1 => k_extra "my_size"); (case e2 => assumption)); rintro _ _ _ _ ⟨_, _, _, ev'₉, en'₉⟩ _ _; subst ev'₉ en'₉; (try dsimp only); (try k_fold))
  trivial
theorem c_normal {w : World} {mean : ExcName → Option Value} {mg mb : Str → Option Value} (news : List (Addr × Obj)) (cs0 hs rs : List Nat) (y : Str) (t : Tok) (hl : cs0.length ≤ 65536) (hh : hs.length ≤ 65536) (hrs : rs.length ≤ 65536) (hf : firstP (mkS cs0) = (mkS hs, mkS rs)) (hy : (if mkS (hs.map upC) = Str.ofString "INBOX" then Str.ofString "INBOX" ++ mkS rs else mkS cs0) = y) :
   Cl w mean mg mb 237 5 news [.str (mkS cs0) t] (StrR y news) := by
  unfold Cl
  k_fill
  intro dp un gd cn cs a ccd cl outer A₀ base h₀ L m s Q E B F X N T hk hd hu hret
  refine wpAny_call ?_
  k_dflt (refine' code_def (binds := [(Str.ofString "text", Value.str (mkS cs0) t)]) ?k1 ?k2 ?k3 ?k4 ?k5 ?kA ?kF ?kK ?k6 ?k7 ?k8 ?k9 ?kB ?_ ?c2 ?c3 ?c4 ?c5; (case kA => exact rfl); (case kF => exact rfl); (case kK => assumption); (case k1 => k_asm); (case k2 => k_asm); (case k3 => k_asm); (case k4 => k_asm); (case k5 => k_asm); (case k6 => k_is); (case k7 => k_is); (case k8 => k_extra "my_room"); (case k9 => first | exact BindsTo.of_eq rfl | exact binds_K (by k_in) rfl (by k_is) rfl rfl rfl); (case c5 => decide); (case kB => exact locs rfl); (case c2 => exact rfl); (case c3 => exact rfl); (case c4 => exact rfl); k_whole; intro g' L' h' FG' F' N' B' X' T'; (try dsimp only); (try k_lift B'); (try k_fold))
  k_extra "my_steps"
  · rename (_ == _) = true => hq
    rw [if_pos (by simpa using hq)] at hy
    refine PyProof.Rows.add_str (hsz := ?_) ?_
    · intro t' tk'
      rw [hy]
      k_extra "my_steps"
      exact hret _ _ _ _ ⟨_, rfl, rfl⟩ (by k_asm) (fun p hp => by rename News h₀ L _ _ => N7; exact N7 p (.tail _ hp))
    · rw [show (Str.ofString "INBOX").length = 5 from by decide +kernel, show (mkS rs).length = rs.length from List.size_toArray, sizeLine_eq]
      omega
  · rename (_ == _) = false => hq
    rw [if_neg (by simpa using hq)] at hy
    subst hy
    exact hret _ _ _ _ ⟨_, rfl, rfl⟩ (by k_asm) (fun p hp => by rename News h₀ L _ _ => N7; exact N7 p (.tail _ hp))
theorem c_normalP {w : World} {mean : ExcName → Option Value} {mg mb : Str → Option Value} (news : List (Addr × Obj)) (cs0 : List Nat) (y : Str) (t : Tok) (hl : cs0.length ≤ 65536) (hn : NormP cs0 y) :
   Cl w mean mg mb 237 5 news [.str (mkS cs0) t] (StrR y news) := by
  obtain ⟨hs, rs, h1, h2, h3, h4⟩ := hn
  exact c_normal news cs0 hs rs y t hl h1 h2 h3 h4
end
theorem walk_off15 : True := by
  w_top off
  trivial
section
theorem c_quotable {w : World} {mean : ExcName → Option Value} {mg mb : Str → Option Value} (news : List (Addr × Obj)) (l : List UInt8) (t : Tok) (hl : l.length ≤ 72) (ha : ∀ c ∈ l, isPlain c.toNat = true) :
   Cl w mean mg mb 515 3 news [.bytes l.toArray t] (BoolR true news) := by
  unfold Cl
  k_fill
  intro dp un gd cn cs a ccd cl outer A₀ base h₀ L m s Q E B F X N T hk hd hu hret
  refine wpAny_call ?_
  k_dflt (refine' code_def (binds := [(Str.ofString "octets", Value.bytes l.toArray t)]) ?k1 ?k2 ?k3 ?k4 ?k5 ?kA ?kF ?kK ?k6 ?k7 ?k8 ?k9 ?kB ?_ ?c2 ?c3 ?c4 ?c5; (case kA => exact rfl); (case kF => exact rfl); (case kK => assumption); (case k1 => k_asm); (case k2 => k_asm); (case k3 => k_asm); (case k4 => k_asm); (case k5 => k_asm); (case k6 => k_is); (case k7 => k_is); (case k8 => k_extra "my_room"); (case k9 => first | exact BindsTo.of_eq rfl | exact binds_K (by k_in) rfl (by k_is) rfl rfl rfl); (case c5 => decide); (case kB => exact locs rfl); (case c2 => exact rfl); (case c3 => exact rfl); (case c4 => exact rfl); k_whole; intro g' L' h' FG' F' N' B' X' T'; (try dsimp only); (try k_lift B'); (try k_fold))
  have hl2 : (l.length : Int) ≤ 72 := by omega
  k_extra "my_steps"
  with_reducible rename Fr _ _ _ _ => F9
  refine ListComp_Y (cl := []) F9 (by with_unfolding_all rfl) (by decide) rfl (by decide) rfl ?_
  k_extra "my_steps"
  refine ⟨_, _, _, rfl, rfl, by k_asm, by k_asm, ?_, ?_⟩
  · rw [sizeLine_eq, List.size_toArray]; omega
  rintro s₂ ⟨hh, rfl⟩
  refine rest_all (fun i v => ∃ n, (l.map fun _ => true)[i]? = some n ∧ v = .bool n) ?_ trivial ?_
  · intro i v I oI C oC D m₂ ys h tk E' hi hP hC hx F8 N8 off ne
    obtain ⟨c, u, hc, rfl⟩ := hP
    have hc' : l[i]? = some c := by simpa using hc
    have hb := byte_in c
    have hpl := plain_le (ha c (List.mem_of_getElem? hc'))
    have hp1 : (32 : Int) ≤ (c.toNat : Int) := by omega
    have hp2 : (c.toNat : Int) ≤ 126 := by omega
    k_extra "my_steps"
    exact ⟨_, _, rfl, by k_asm, by k_asm, true, by simp [hc'], by rw [decide_eq_true hp2]⟩
  · intro ys hl' hR D h tk F8 N8 o1
    k_extra "my_steps"
    refine PyProof.Rows.LSm.all_bools F8 N8 rfl ⟨_, (N8 _ (.head _)).1, rfl, _, rfl⟩ (bools_of (by simpa using hl') hR) ?_
    intro h' tk' F' N'
    rw [all_map_true]
    k_extra "my_steps"
    exact hret _ _ _ _ ⟨rfl, rfl⟩ (by k_asm) (fun p hp => by rename News h₀ L _ _ => N7; exact N7 p (.tail _ hp))
theorem c_astring_octets_a {w : World} {mean : ExcName → Option Value} {mg mb : Str → Option Value} (news : List (Addr × Obj)) (l : List UInt8) (t : Tok) (b : Bool) (hl : l.length ≤ 72) (h0 : 0 < l.length) (ha : ∀ c ∈ l, isAstring c.toNat = true) (hn : lowerB l ≠ nilB) :
   Cl w mean mg mb 544 5 news [.bytes l.toArray t, .bool b] (BytesR l.toArray news) := by
  unfold Cl
  k_fill
  intro dp un gd cn cs a ccd cl outer A₀ base h₀ L m s Q E B F X N T hk hd hu hret
  refine wpAny_call ?_
  k_dflt (refine' code_def (binds := [(Str.ofString "octets", Value.bytes l.toArray t), (Str.ofString "is_plus", Value.bool b)]) ?k1 ?k2 ?k3 ?k4 ?k5 ?kA ?kF ?kK ?k6 ?k7 ?k8 ?k9 ?kB ?_ ?c2 ?c3 ?c4 ?c5; (case kA => exact rfl); (case kF => exact rfl); (case kK => assumption); (case k1 => k_asm); (case k2 => k_asm); (case k3 => k_asm); (case k4 => k_asm); (case k5 => k_asm); (case k6 => k_is); (case k7 => k_is); (case k8 => k_extra "my_room"); (case k9 => first | exact BindsTo.of_eq rfl | exact binds_K (by k_in) rfl (by k_is) rfl rfl rfl); (case c5 => decide); (case kB => exact locs rfl); (case c2 => exact rfl); (case c3 => exact rfl); (case c4 => exact rfl); k_whole; intro g' L' h' FG' F' N' B' X' T'; (try dsimp only); (try k_lift B'); (try k_fold))
  have hl2 : (l.length : Int) ≤ 72 := by omega
  have hl3 : (0 : Int) < (l.length : Int) := by omega
  k_extra "my_steps"
  rotate_left
  · exfalso
    rename (_ != _) = false => hq
    exact hn (by simpa using hq)
  with_reducible rename Fr _ _ _ _ => F9
  refine ListComp_Y (cl := []) F9 (by with_unfolding_all rfl) (by decide) rfl (by decide) rfl ?_
  k_extra "my_steps"
  refine ⟨_, _, _, rfl, rfl, by k_asm, by k_asm, ?_, ?_⟩
  · rw [sizeLine_eq, List.size_toArray]; omega
  rintro s₂ ⟨hh, rfl⟩
  refine rest_all (fun i v => ∃ n, (l.map fun c => isAstring c.toNat)[i]? = some n ∧ v = .bool n) ?_ trivial ?_
  · intro i v I oI C oC D m₂ ys h tk E' hi hP hC hx F8 N8 off ne
    obtain ⟨c, u, hc, rfl⟩ := hP
    have hc' : l[i]? = some c := by simpa using hc
    have hb := byte_in c
    k_extra "my_steps"
    exact ⟨_, _, rfl, by k_asm, by k_asm, _, by simp [hc'], rfl⟩
  · intro ys hl' hR D h tk F8 N8 o1
    k_extra "my_steps"
    refine PyProof.Rows.LSm.all_bools F8 N8 rfl ⟨_, (N8 _ (.head _)).1, rfl, _, rfl⟩ (bools_of (by simpa using hl') hR) ?_
    intro h' tk' F' N'
    rw [all_map_eq, show (l.all fun c => isAstring c.toNat) = true from List.all_eq_true.mpr ha]
    k_extra "my_steps"
    exact hret _ _ _ _ ⟨_, rfl, rfl⟩ (by k_asm) (fun p hp => by rename News h₀ L _ _ => N7; exact N7 p (.tail _ hp))
end
theorem walk_off16 : True := by
  w_top off
  trivial
section
theorem c_words_part {w : World} {mean : ExcName → Option Value} {mg mb : Str → Option Value} (news : List (Addr × Obj)) (u : Addr) (vs : List Value) (cw : List (List Nat)) (hm : (u, tpo vs) ∈ news) (hS : StrsAre vs (cw.map mkS)) (hw : (cw.map List.length).sum + cw.length ≤ 60000) (ha : ∀ w ∈ cw, ∀ c ∈ w, c ≤ 127) :
   Cl w mean mg mb 563 5 news [.ref u] (BytesR ([32, 40] ++ ((joinN cw).map fun (c : Nat) ↦ c.toUInt8) ++ [41]).toArray news) := by
  unfold Cl
  k_fill
  intro dp un gd cn cs a ccd cl outer A₀ base h₀ L m s Q E B F X N T hk hd hu hret
  refine wpAny_call ?_
  k_dflt (refine' code_def (binds := [(Str.ofString "words", Value.ref u)]) ?k1 ?k2 ?k3 ?k4 ?k5 ?kA ?kF ?kK ?k6 ?k7 ?k8 ?k9 ?kB ?_ ?c2 ?c3 ?c4 ?c5; (case kA => exact rfl); (case kF => exact rfl); (case kK => assumption); (case k1 => k_asm); (case k2 => k_asm); (case k3 => k_asm); (case k4 => k_asm); (case k5 => k_asm); (case k6 => k_is); (case k7 => k_is); (case k8 => k_extra "my_room"); (case k9 => first | exact BindsTo.of_eq rfl | exact binds_K (by k_in) rfl (by k_is) rfl rfl rfl); (case c5 => decide); (case kB => exact locs rfl); (case c2 => exact rfl); (case c3 => exact rfl); (case c4 => exact rfl); k_whole; intro g' L' h' FG' F' N' B' X' T'; (try dsimp only); (try k_lift B'); (try k_fold))
  have hjl := join_len cw
  have hja := join_ascii ha
  have hjl2 : (joinN cw).length ≤ 65536 := by omega
  k_extra "my_steps"
  refine join_tupleW (News.isTup (by k_asm) hm) hS (by decide) (by rw [mk_lens, List.length_map]; omega) ?_
  intro t' k
  rw [join_words]
  k_extra "my_steps"
  exact hret _ _ _ _ ⟨_, rfl, rfl⟩ (by k_asm) (by k_asm)
theorem c_write_enable {w : World} {mean : ExcName → Option Value} {mg mb : Str → Option Value} (aa u : Addr) (rest : List (Addr × Obj)) (vs : List Value) (cw : List (List Nat)) (hm : (u, tpo vs) ∈ rest) (hS : StrsAre vs (cw.map mkS)) (hw : (cw.map List.length).sum + cw.length ≤ 60000) (ha : ∀ w ∈ cw, ∀ c ∈ w, c ≤ 127) :
   Cl w mean mg mb 577 5 ((aa, tpo [.ref u]) :: rest) [.ref aa] (BytesR (32 :: ((joinN cw).map fun (c : Nat) ↦ c.toUInt8)).toArray ((aa, tpo [.ref u]) :: rest)) := by
  unfold Cl
  k_fill
  intro dp un gd cn cs a ccd cl outer A₀ base h₀ L m s Q E B F X N T hk hd hu hret
  refine wpAny_call ?_
  k_dflt (refine' code_def (binds := [(Str.ofString "args", Value.ref aa)]) ?k1 ?k2 ?k3 ?k4 ?k5 ?kA ?kF ?kK ?k6 ?k7 ?k8 ?k9 ?kB ?_ ?c2 ?c3 ?c4 ?c5; (case kA => exact rfl); (case kF => exact rfl); (case kK => assumption); (case k1 => k_asm); (case k2 => k_asm); (case k3 => k_asm); (case k4 => k_asm); (case k5 => k_asm); (case k6 => k_is); (case k7 => k_is); (case k8 => k_extra "my_room"); (case k9 => first | exact BindsTo.of_eq rfl | exact binds_K (by k_in) rfl (by k_is) rfl rfl rfl); (case c5 => decide); (case kB => exact locs rfl); (case c2 => exact rfl); (case c3 => exact rfl); (case c4 => exact rfl); k_whole; intro g' L' h' FG' F' N' B' X' T'; (try dsimp only); (try k_lift B'); (try k_fold))
  have hjl := join_len cw
  have hja := join_ascii ha
  have hjl2 : (joinN cw).length ≤ 65536 := by omega
  k_extra "my_steps"
  refine join_tupleW (News.isTup (by k_asm) (.tail _ hm)) hS (by decide) (by rw [mk_lens, List.length_map]; omega) ?_
  intro t' k
  rw [join_words]
  k_extra "my_steps"
  exact hret _ _ _ _ ⟨_, rfl, rfl⟩ (by k_asm) (by k_asm)
end
theorem walk_off17 : True := by
  w_top off
  trivial
section
theorem say19 : True := by
  k_with "call ref" => ((with_reducible show wpAny _ _ (call (Value.ref 515) [Value.bytes _ _]) _ _ _); k_dflt (refine' Cl.useB (c_quotable _ _ _ ?e1 ?e2) ?k1 ?k2 ?k3 ?k4 ?k5 ?kK ?kd ?ku ?_; k_extra "my_use"; (case e1 => omega); (case e2 => assumption)); intro _ _ _ _; (try dsimp only); (try k_fold))
  k_with "n_calls" => ((with_reducible show wpN _ _ (call (Value.ref 522) [Value.bytes _ _]) _ _); k_dflt (refine' ClN.use (c_quoted_octets _ _ _ (by omega)) ?k1 ?k2 ?k3 ?k4 ?k5 ?kK ?kd ?ku ?_; k_extra "U"; ); rintro _ _ _ _ ⟨_, ev'₉, en'₉⟩ _ N'₉; rw [en'₉] at N'₉; clear en'₉; subst ev'₉; (try dsimp only))
  trivial
theorem c_string_octets {w : World} {mean : ExcName → Option Value} {mg mb : Str → Option Value} (news : List (Addr × Obj)) (l : List UInt8) (t : Tok) (b : Bool) (hl : l.length ≤ 72) (ha : ∀ c ∈ l, isPlain c.toNat = true) :
   ClN w mean mg mb 538 5 news [.bytes l.toArray t, .bool b] (BytesR (quoteB l).toArray news) := by
  unfold ClN
  k_fill
  intro dp un cn cs a ccd cl outer A₀ base h₀ L m s Q B F X N T hk hd hu hret
  refine wpN_call ?_
  k_dflt (refine' code_defN (binds := [(Str.ofString "octets", Value.bytes l.toArray t), (Str.ofString "is_plus", Value.bool b)]) ?k1 ?k2 ?k3 ?k4 ?k5 ?kA ?kF ?kK ?k6 ?k7 ?k8 ?k9 ?kB ?_ ?c2 ?c3 ?c4 ?c5; (case kA => exact rfl); (case kF => exact rfl); (case kK => assumption); (case k1 => k_asm); (case k2 => k_asm); (case k3 => k_asm); (case k4 => k_asm); (case k5 => k_asm); (case k6 => k_is); (case k7 => k_is); (case k8 => k_extra "my_room"); (case k9 => first | exact BindsTo.of_eq rfl | exact binds_K (by k_in) rfl (by k_is) rfl rfl rfl); (case c5 => decide); (case kB => exact locs rfl); (case c2 => exact rfl); (case c3 => exact rfl); (case c4 => exact rfl); k_whole; intro g' L' h' FG' F' N' B' X' T'; (try dsimp only); (try k_lift B'); (try k_fold))
  k_extra "n_steps"
  with_reducible rename Fr g' _ _ _ => F7
  with_reducible rename News g' _ _ _ => N7
  exact ⟨_, _, _, F7, N7, fun F8 N8 => hret _ _ _ _ ⟨_, rfl, rfl⟩ F8 N8⟩
theorem say20 : True := by
  k_with "n_calls" => ((with_reducible show wpN _ _ (call (Value.ref 538) [Value.bytes _ _, Value.bool _]) _ _); k_dflt (refine' ClN.use (c_string_octets _ _ _ _ ?e1 ?e2) ?k1 ?k2 ?k3 ?k4 ?k5 ?kK ?kd ?ku ?_; k_extra "U"; (case e1 => omega); (case e2 => assumption); ); rintro _ _ _ _ ⟨_, ev'₉, en'₉⟩ _ N'₉; rw [en'₉] at N'₉; clear en'₉; subst ev'₉; (try dsimp only))
  trivial
theorem c_astring_octets_0 {w : World} {mean : ExcName → Option Value} {mg mb : Str → Option Value} (news : List (Addr × Obj)) (l : List UInt8) (t : Tok) (b : Bool) (h0 : l.length = 0) :
   ClN w mean mg mb 544 7 news [.bytes l.toArray t, .bool b] (BytesR (quoteB l).toArray news) := by
  unfold ClN
  k_fill
  intro dp un cn cs a ccd cl outer A₀ base h₀ L m s Q B F X N T hk hd hu hret
  refine wpN_call ?_
  k_dflt (refine' code_defN (binds := [(Str.ofString "octets", Value.bytes l.toArray t), (Str.ofString "is_plus", Value.bool b)]) ?k1 ?k2 ?k3 ?k4 ?k5 ?kA ?kF ?kK ?k6 ?k7 ?k8 ?k9 ?kB ?_ ?c2 ?c3 ?c4 ?c5; (case kA => exact rfl); (case kF => exact rfl); (case kK => assumption); (case k1 => k_asm); (case k2 => k_asm); (case k3 => k_asm); (case k4 => k_asm); (case k5 => k_asm); (case k6 => k_is); (case k7 => k_is); (case k8 => k_extra "my_room"); (case k9 => first | exact BindsTo.of_eq rfl | exact binds_K (by k_in) rfl (by k_is) rfl rfl rfl); (case c5 => decide); (case kB => exact locs rfl); (case c2 => exact rfl); (case c3 => exact rfl); (case c4 => exact rfl); k_whole; intro g' L' h' FG' F' N' B' X' T'; (try dsimp only); (try k_lift B'); (try k_fold))
  have ha : ∀ c ∈ l, isPlain c.toNat = true := fun c hc => by rw [List.eq_nil_of_length_eq_zero h0] at hc; nomatch hc
  k_extra "n_steps"
  with_reducible rename Fr g' _ _ _ => F7
  with_reducible rename News g' _ _ _ => N7
  exact ⟨_, _, _, F7, N7, fun F8 N8 => hret _ _ _ _ ⟨_, rfl, rfl⟩ F8 N8⟩
theorem c_astring_octets_q {w : World} {mean : ExcName → Option Value} {mg mb : Str → Option Value} (news : List (Addr × Obj)) (l : List UInt8) (t : Tok) (b : Bool) (hl : l.length ≤ 72) (h0 : 0 < l.length) (ha : ∀ c ∈ l, isPlain c.toNat = true) (hn : lowerB l ≠ nilB) (hq : (l.all fun c ↦ isAstring c.toNat) = false) :
   ClN w mean mg mb 544 7 news [.bytes l.toArray t, .bool b] (BytesR (quoteB l).toArray news) := by
  unfold ClN
  k_fill
  intro dp un cn cs a ccd cl outer A₀ base h₀ L m s Q B F X N T hk hd hu hret
  refine wpN_call ?_
  k_dflt (refine' code_defN (binds := [(Str.ofString "octets", Value.bytes l.toArray t), (Str.ofString "is_plus", Value.bool b)]) ?k1 ?k2 ?k3 ?k4 ?k5 ?kA ?kF ?kK ?k6 ?k7 ?k8 ?k9 ?kB ?_ ?c2 ?c3 ?c4 ?c5; (case kA => exact rfl); (case kF => exact rfl); (case kK => assumption); (case k1 => k_asm); (case k2 => k_asm); (case k3 => k_asm); (case k4 => k_asm); (case k5 => k_asm); (case k6 => k_is); (case k7 => k_is); (case k8 => k_extra "my_room"); (case k9 => first | exact BindsTo.of_eq rfl | exact binds_K (by k_in) rfl (by k_is) rfl rfl rfl); (case c5 => decide); (case kB => exact locs rfl); (case c2 => exact rfl); (case c3 => exact rfl); (case c4 => exact rfl); k_whole; intro g' L' h' FG' F' N' B' X' T'; (try dsimp only); (try k_lift B'); (try k_fold))
  have hl2 : (l.length : Int) ≤ 72 := by omega
  have hl3 : (0 : Int) < (l.length : Int) := by omega
  k_extra "n_steps"
  rotate_left
  · exfalso
    rename (_ != _) = false => hq2
    exact hn (by simpa using hq2)
  refine wpN_of ?_
  with_reducible rename Fr _ _ _ _ => F9
  refine ListComp_Y (cl := []) F9 (by with_unfolding_all rfl) (by decide) rfl (by decide) rfl ?_
  k_extra "my_steps"
  refine ⟨_, _, _, rfl, rfl, by k_asm, by k_asm, ?_, ?_⟩
  · rw [sizeLine_eq, List.size_toArray]; omega
  rintro s₂ ⟨hh, rfl⟩
  refine rest_all (fun i v => ∃ n, (l.map fun c => isAstring c.toNat)[i]? = some n ∧ v = .bool n) ?_ trivial ?_
  · intro i v I oI C oC D m₂ ys h tk E' hi hP hC hx F8 N8 off ne
    obtain ⟨c, u, hc, rfl⟩ := hP
    have hc' : l[i]? = some c := by simpa using hc
    have hb := byte_in c
    k_extra "my_steps"
    exact ⟨_, _, rfl, by k_asm, by k_asm, _, by simp [hc'], rfl⟩
  · intro ys hl' hR D h tk F8 N8 o1
    k_extra "n_steps"
    refine wpN_of ?_
    refine PyProof.Rows.LSm.all_bools F8 N8 rfl ⟨_, (N8 _ (.head _)).1, rfl, _, rfl⟩ (bools_of (by simpa using hl') hR) ?_
    intro h' tk' F' N'
    rw [all_map_eq, hq]
    k_extra "n_steps"
    with_reducible rename Fr g' _ _ _ => F7
    with_reducible rename News g' _ _ _ => N7
    exact ⟨_, _, _, F7, Mine.News.drop1 N7, fun F8 N8 => hret _ _ _ _ ⟨_, rfl, rfl⟩ F8 N8⟩
end
theorem walk_off18 : True := by
  w_top off
  trivial
section
theorem say21 : True := by
  k_with "n_calls" => ((with_reducible show wpN _ _ (call (Value.ref 195) [Value.str _ _]) _ _); k_dflt (refine' ClN.use (c_utf7_octets _ _ _ ?e1 ?e2) ?k1 ?k2 ?k3 ?k4 ?k5 ?kK ?kd ?ku ?_; k_extra "U"; (case e1 => first | assumption | omega); (case e2 => assumption); ); rintro _ _ _ _ ⟨_, ev'₉, en'₉⟩ _ N'₉; rw [en'₉] at N'₉; clear en'₉; subst ev'₉; (try dsimp only))
  trivial
theorem c_astring_octets {w : World} {mean : ExcName → Option Value} {mg mb : Str → Option Value} (news : List (Addr × Obj)) (l o : List UInt8) (t : Tok) (b : Bool) (h : AsO l o) :
   ClN w mean mg mb 544 7 news [.bytes l.toArray t, .bool b] (BytesR o.toArray news) := by
  obtain ⟨h1, h2, h | h | h⟩ := h
  · obtain ⟨h3, h4, h5, rfl⟩ := h
    exact fun dp un cn cs a ccd cl outer A₀ base h₀ L m s Q B F X N T hk hd hu ret => (c_astring_octets_a news o t b h1 h3 h4 h5).toN dp un cn cs a ccd cl outer A₀ base h₀ L m s Q B F X N T hk (by omega) (by omega) ret
  · obtain ⟨h3, rfl⟩ := h
    exact c_astring_octets_0 news l t b h3
  · obtain ⟨h3, h4, h5, rfl⟩ := h
    exact c_astring_octets_q news l t b h1 h3 h2 h4 h5
theorem say22 : True := by
  k_with "n_calls" => ((with_reducible show wpN _ _ (call (Value.ref 544) [Value.bytes _ _, Value.bool _]) _ _); k_dflt (refine' ClN.use (c_astring_octets _ _ _ _ _ ?e1) ?k1 ?k2 ?k3 ?k4 ?k5 ?kK ?kd ?ku ?_; k_extra "U"; (case e1 => assumption); ); rintro _ _ _ _ ⟨_, ev'₉, en'₉⟩ _ N'₉; rw [en'₉] at N'₉; clear en'₉; subst ev'₉; (try dsimp only))
  trivial
theorem c_name_part {w : World} {mean : ExcName → Option Value} {mg mb : Str → Option Value} (news : List (Addr × Obj)) (cs0 : List Nat) (o : List UInt8) (t : Tok) (hp : PlainS cs0) (ho : AsO (cs0.map fun c ↦ c.toUInt8) o) :
   ClN w mean mg mb 551 9 news [.str (mkS cs0) t] (BytesR (32 :: o).toArray news) := by
  unfold ClN
  k_fill
  intro dp un cn cs a ccd cl outer A₀ base h₀ L m s Q B F X N T hk hd hu hret
  refine wpN_call ?_
  k_dflt (refine' code_defN (binds := [(Str.ofString "name", Value.str (mkS cs0) t)]) ?k1 ?k2 ?k3 ?k4 ?k5 ?kA ?kF ?kK ?k6 ?k7 ?k8 ?k9 ?kB ?_ ?c2 ?c3 ?c4 ?c5; (case kA => exact rfl); (case kF => exact rfl); (case kK => assumption); (case k1 => k_asm); (case k2 => k_asm); (case k3 => k_asm); (case k4 => k_asm); (case k5 => k_asm); (case k6 => k_is); (case k7 => k_is); (case k8 => k_extra "my_room"); (case k9 => first | exact BindsTo.of_eq rfl | exact binds_K (by k_in) rfl (by k_is) rfl rfl rfl); (case c5 => decide); (case kB => exact locs rfl); (case c2 => exact rfl); (case c3 => exact rfl); (case c4 => exact rfl); k_whole; intro g' L' h' FG' F' N' B' X' T'; (try dsimp only); (try k_lift B'); (try k_fold))
  obtain ⟨hp1, hp2⟩ := hp
  have hol := AsO_len ho
  k_extra "n_steps"
  with_reducible rename Fr g' _ _ _ => F7
  with_reducible rename News g' _ _ _ => N7
  exact ⟨_, _, _, F7, N7, fun F8 N8 => hret _ _ _ _ ⟨_, rfl, rfl⟩ F8 N8⟩
theorem say23 : True := by
  k_with "n_calls" => ((with_reducible show wpN _ _ (call (Value.ref 538) [Value.bytes _ _, Value.bool _]) _ _); k_dflt (refine' ClN.use (c_string_octets _ _ _ _ ?e1 ?e2) ?k1 ?k2 ?k3 ?k4 ?k5 ?kK ?kd ?ku ?_; k_extra "U"; (case e1 => omega); (case e2 => assumption); ); rintro _ _ _ _ ⟨_, ev'₉, en'₉⟩ _ N'₉; rw [en'₉] at N'₉; clear en'₉; subst ev'₉; (try dsimp only))
  trivial
theorem c_utf7E {w : World} {mean : ExcName → Option Value} {mg mb : Str → Option Value} (news : List (Addr × Obj)) (cs0 : List Nat) (l : List UInt8) (t : Tok) (hl : cs0.length ≤ 1000) (ha : ∀ c ∈ cs0, isPlain (c : Int) = true ∧ c ≠ 38) (el : (cs0.map fun c ↦ c.toUInt8) = l) :
   ClN w mean mg mb 195 3 news [.str (mkS cs0) t] (BytesR l.toArray news) := by
  subst el
  exact c_utf7_octets news cs0 t hl ha
theorem say24 : True := by
  k_with "n_calls" => ((with_reducible show wpN _ _ (call (Value.ref 195) [Value.str _ _]) _ _); k_dflt (refine' ClN.use (c_utf7E _ _ _ _ ?e1 ?e2 ?e3) ?k1 ?k2 ?k3 ?k4 ?k5 ?kK ?kd ?ku ?_; k_extra "U"; (case e1 => first | assumption | omega); (case e2 => assumption); (case e3 => assumption); ); rintro _ _ _ _ ⟨_, ev'₉, en'₉⟩ _ N'₉; rw [en'₉] at N'₉; clear en'₉; subst ev'₉; (try dsimp only))
  trivial
theorem c_pattern_part {w : World} {mean : ExcName → Option Value} {mg mb : Str → Option Value} (news : List (Addr × Obj)) (cs0 : List Nat) (l o : List UInt8) (t : Tok) (hp : PlainS cs0) (el : (cs0.map fun c ↦ c.toUInt8) = l) (ho : PatO l o) :
   ClN w mean mg mb 556 9 news [.str (mkS cs0) t] (BytesR (32 :: o).toArray news) := by
  unfold ClN
  k_fill
  intro dp un cn cs a ccd cl outer A₀ base h₀ L m s Q B F X N T hk hd hu hret
  refine wpN_call ?_
  k_dflt (refine' code_defN (binds := [(Str.ofString "text", Value.str (mkS cs0) t)]) ?k1 ?k2 ?k3 ?k4 ?k5 ?kA ?kF ?kK ?k6 ?k7 ?k8 ?k9 ?kB ?_ ?c2 ?c3 ?c4 ?c5; (case kA => exact rfl); (case kF => exact rfl); (case kK => assumption); (case k1 => k_asm); (case k2 => k_asm); (case k3 => k_asm); (case k4 => k_asm); (case k5 => k_asm); (case k6 => k_is); (case k7 => k_is); (case k8 => k_extra "my_room"); (case k9 => first | exact BindsTo.of_eq rfl | exact binds_K (by k_in) rfl (by k_is) rfl rfl rfl); (case c5 => decide); (case kB => exact locs rfl); (case c2 => exact rfl); (case c3 => exact rfl); (case c4 => exact rfl); k_whole; intro g' L' h' FG' F' N' B' X' T'; (try dsimp only); (try k_lift B'); (try k_fold))
  obtain ⟨hp1, hp2⟩ := hp
  have hol := PatO_len ho
  obtain ⟨hl, hpl, h0, hn, hcase⟩ := ho
  have hl2 : (l.length : Int) ≤ 72 := by omega
  have hl3 : (0 : Int) < (l.length : Int) := by omega
  k_extra "n_steps"
  rotate_left
  · exfalso
    rename (_ != _) = false => hq2
    exact hn (by simpa using hq2)
  with_reducible rename Fr _ _ _ _ => F9
  refine ListComp_Y (cl := []) F9 (by with_unfolding_all rfl) (by decide) rfl (by decide) rfl ?_
  k_extra "my_steps"
  refine ⟨_, _, _, rfl, rfl, by k_asm, by k_asm, ?_, ?_⟩
  · rw [sizeLine_eq, List.size_toArray]; omega
  rintro s₂ ⟨hh, rfl⟩
  refine rest_all (fun i v => ∃ n, (l.map fun c => isPattern c.toNat)[i]? = some n ∧ v = .bool n) ?_ trivial ?_
  · intro i v I oI C oC D m₂ ys h tk E' hi hP hC hx F8 N8 off ne
    obtain ⟨c, u, hc, rfl⟩ := hP
    have hc' : l[i]? = some c := by simpa using hc
    have hb := byte_in c
    k_extra "my_steps"
    exact ⟨_, _, rfl, by k_asm, by k_asm, _, by simp [hc'], rfl⟩
  · intro ys hl' hR D h tk F8 N8 o1
    k_extra "n_steps"
    refine PyProof.Rows.LSm.all_bools F8 N8 rfl ⟨_, (N8 _ (.head _)).1, rfl, _, rfl⟩ (bools_of (by simpa using hl') hR) ?_
    intro h' tk' F' N'
    rw [all_map_eq]
    rcases hcase with ⟨hq, rfl⟩ | ⟨hq, rfl⟩
    · rw [hq]
      k_extra "n_steps"
      with_reducible rename Fr g' _ _ _ => F7
      with_reducible rename News g' _ _ _ => N7
      exact ⟨_, _, _, F7, Mine.News.drop1 N7, fun F8 N8 => hret _ _ _ _ ⟨_, rfl, rfl⟩ F8 N8⟩
    · rw [hq]
      k_extra "n_steps"
      with_reducible rename Fr g' _ _ _ => F7
      with_reducible rename News g' _ _ _ => N7
      exact ⟨_, _, _, F7, Mine.News.drop1 N7, fun F8 N8 => hret _ _ _ _ ⟨_, rfl, rfl⟩ F8 N8⟩
end
theorem walk_off19 : True := by
  w_top off
  trivial
section
theorem say25 : True := by
  k_with "n_calls" => ((with_reducible show wpN _ _ (call (Value.ref 551) [Value.str _ _]) _ _); k_dflt (refine' ClN.use (c_name_part _ _ _ _ ?e1 ?e2) ?k1 ?k2 ?k3 ?k4 ?k5 ?kK ?kd ?ku ?_; k_extra "U"; (case e1 => assumption); (case e2 => assumption); ); rintro _ _ _ _ ⟨_, ev'₉, en'₉⟩ _ N'₉; rw [en'₉] at N'₉; clear en'₉; subst ev'₉; (try dsimp only))
  k_with "n_calls" => ((with_reducible show wpN _ _ (call (Value.ref 556) [Value.str _ _]) _ _); k_dflt (refine' ClN.use (c_pattern_part _ _ _ _ _ ?e1 ?e2 ?e3) ?k1 ?k2 ?k3 ?k4 ?k5 ?kK ?kd ?ku ?_; k_extra "U"; (case e1 => assumption); (case e2 => assumption); (case e3 => assumption); ); rintro _ _ _ _ ⟨_, ev'₉, en'₉⟩ _ N'₉; rw [en'₉] at N'₉; clear en'₉; subst ev'₉; (try dsimp only))
  k_with "n_calls" => ((with_reducible show wpN _ _ (call (Value.ref 544) [Value.bytes _ _, Value.bool _]) _ _); k_dflt (refine' ClN.use (c_astring_octets _ _ _ _ _ ?e1) ?k1 ?k2 ?k3 ?k4 ?k5 ?kK ?kd ?ku ?_; k_extra "U"; (case e1 => assumption); ); rintro _ _ _ _ ⟨_, ev'₉, en'₉⟩ _ N'₉; rw [en'₉] at N'₉; clear en'₉; subst ev'₉; (try dsimp only))
  k_with "call ref" => ((with_reducible show wpAny _ _ (call (Value.ref 563) [Value.ref _]) _ _ _); k_dflt (refine' Cl.useY (c_words_part _ _ _ _ ?e1 ?e2 ?e3 ?e4) ?k1 ?k2 ?k3 ?k4 ?k5 ?kK ?kd ?ku ?_; k_extra "my_use"; (case e1 => first | assumption | exact .tail _ (by assumption)); (case e2 => assumption); (case e3 => assumption); (case e4 => assumption)); intro _ _ _ _ _; (try dsimp only); (try k_fold))
  trivial
theorem c_write_status {w : World} {mean : ExcName → Option Value} {mg mb : Str → Option Value} (aa u : Addr) (rest : List (Addr × Obj)) (cs0 : List Nat) (o : List UInt8) (t : Tok) (vs : List Value) (cw : List (List Nat)) (hp : PlainS cs0) (ho : AsO (cs0.map fun c ↦ c.toUInt8) o) (hm : (u, tpo vs) ∈ rest) (hS : StrsAre vs (cw.map mkS)) (hw : (cw.map List.length).sum + cw.length ≤ 60000) (ha : ∀ w ∈ cw, ∀ c ∈ w, c ≤ 127) :
   ClN w mean mg mb 598 11 ((aa, tpo [.str (mkS cs0) t, .ref u]) :: rest) [.ref aa] (BytesR ((32 :: o) ++ ([32, 40] ++ ((joinN cw).map fun (c : Nat) ↦ c.toUInt8) ++ [41])).toArray ((aa, tpo [.str (mkS cs0) t, .ref u]) :: rest)) := by
  unfold ClN
  k_fill
  intro dp un cn cs a ccd cl outer A₀ base h₀ L m s Q B F X N T hk hd hu hret
  refine wpN_call ?_
  k_dflt (refine' code_defN (binds := [(Str.ofString "args", Value.ref aa)]) ?k1 ?k2 ?k3 ?k4 ?k5 ?kA ?kF ?kK ?k6 ?k7 ?k8 ?k9 ?kB ?_ ?c2 ?c3 ?c4 ?c5; (case kA => exact rfl); (case kF => exact rfl); (case kK => assumption); (case k1 => k_asm); (case k2 => k_asm); (case k3 => k_asm); (case k4 => k_asm); (case k5 => k_asm); (case k6 => k_is); (case k7 => k_is); (case k8 => k_extra "my_room"); (case k9 => first | exact BindsTo.of_eq rfl | exact binds_K (by k_in) rfl (by k_is) rfl rfl rfl); (case c5 => decide); (case kB => exact locs rfl); (case c2 => exact rfl); (case c3 => exact rfl); (case c4 => exact rfl); k_whole; intro g' L' h' FG' F' N' B' X' T'; (try dsimp only); (try k_lift B'); (try k_fold))
  have hol := AsO_len ho
  have hjl := join_len cw
  k_extra "n_steps"
  with_reducible rename Fr g' _ _ _ => F7
  with_reducible rename News g' _ _ _ => N7
  exact ⟨_, _, _, F7, N7, fun F8 N8 => hret _ _ _ _ ⟨_, rfl, rfl⟩ F8 N8⟩
theorem c_write_rename {w : World} {mean : ExcName → Option Value} {mg mb : Str → Option Value} (aa : Addr) (rest : List (Addr × Obj)) (cs0 cs1 : List Nat) (o o1 : List UInt8) (t t1 : Tok) (hp : PlainS cs0) (ho : AsO (cs0.map fun c ↦ c.toUInt8) o) (hp1 : PlainS cs1) (ho1 : AsO (cs1.map fun c ↦ c.toUInt8) o1) :
   ClN w mean mg mb 584 11 ((aa, tpo [.str (mkS cs0) t, .str (mkS cs1) t1]) :: rest) [.ref aa] (BytesR ((32 :: o) ++ (32 :: o1)).toArray ((aa, tpo [.str (mkS cs0) t, .str (mkS cs1) t1]) :: rest)) := by
  unfold ClN
  k_fill
  intro dp un cn cs a ccd cl outer A₀ base h₀ L m s Q B F X N T hk hd hu hret
  refine wpN_call ?_
  k_dflt (refine' code_defN (binds := [(Str.ofString "args", Value.ref aa)]) ?k1 ?k2 ?k3 ?k4 ?k5 ?kA ?kF ?kK ?k6 ?k7 ?k8 ?k9 ?kB ?_ ?c2 ?c3 ?c4 ?c5; (case kA => exact rfl); (case kF => exact rfl); (case kK => assumption); (case k1 => k_asm); (case k2 => k_asm); (case k3 => k_asm); (case k4 => k_asm); (case k5 => k_asm); (case k6 => k_is); (case k7 => k_is); (case k8 => k_extra "my_room"); (case k9 => first | exact BindsTo.of_eq rfl | exact binds_K (by k_in) rfl (by k_is) rfl rfl rfl); (case c5 => decide); (case kB => exact locs rfl); (case c2 => exact rfl); (case c3 => exact rfl); (case c4 => exact rfl); k_whole; intro g' L' h' FG' F' N' B' X' T'; (try dsimp only); (try k_lift B'); (try k_fold))
  have hol := AsO_len ho
  have hol1 := AsO_len ho1
  k_extra "n_steps"
  with_reducible rename Fr g' _ _ _ => F7
  with_reducible rename News g' _ _ _ => N7
  exact ⟨_, _, _, F7, N7, fun F8 N8 => hret _ _ _ _ ⟨_, rfl, rfl⟩ F8 N8⟩
theorem c_write_list {w : World} {mean : ExcName → Option Value} {mg mb : Str → Option Value} (aa : Addr) (rest : List (Addr × Obj)) (cs0 cs1 : List Nat) (l1 o o1 : List UInt8) (t t1 : Tok) (hp : PlainS cs0) (ho : AsO (cs0.map fun c ↦ c.toUInt8) o) (hp1 : PlainS cs1) (el : (cs1.map fun c ↦ c.toUInt8) = l1) (ho1 : PatO l1 o1) :
   ClN w mean mg mb 591 11 ((aa, tpo [.str (mkS cs0) t, .str (mkS cs1) t1]) :: rest) [.ref aa] (BytesR ((32 :: o) ++ (32 :: o1)).toArray ((aa, tpo [.str (mkS cs0) t, .str (mkS cs1) t1]) :: rest)) := by
  unfold ClN
  k_fill
  intro dp un cn cs a ccd cl outer A₀ base h₀ L m s Q B F X N T hk hd hu hret
  refine wpN_call ?_
  k_dflt (refine' code_defN (binds := [(Str.ofString "args", Value.ref aa)]) ?k1 ?k2 ?k3 ?k4 ?k5 ?kA ?kF ?kK ?k6 ?k7 ?k8 ?k9 ?kB ?_ ?c2 ?c3 ?c4 ?c5; (case kA => exact rfl); (case kF => exact rfl); (case kK => assumption); (case k1 => k_asm); (case k2 => k_asm); (case k3 => k_asm); (case k4 => k_asm); (case k5 => k_asm); (case k6 => k_is); (case k7 => k_is); (case k8 => k_extra "my_room"); (case k9 => first | exact BindsTo.of_eq rfl | exact binds_K (by k_in) rfl (by k_is) rfl rfl rfl); (case c5 => decide); (case kB => exact locs rfl); (case c2 => exact rfl); (case c3 => exact rfl); (case c4 => exact rfl); k_whole; intro g' L' h' FG' F' N' B' X' T'; (try dsimp only); (try k_lift B'); (try k_fold))
  have hol := AsO_len ho
  have hol1 := PatO_len ho1
  k_extra "n_steps"
  with_reducible rename Fr g' _ _ _ => F7
  with_reducible rename News g' _ _ _ => N7
  exact ⟨_, _, _, F7, N7, fun F8 N8 => hret _ _ _ _ ⟨_, rfl, rfl⟩ F8 N8⟩
theorem c_write_login {w : World} {mean : ExcName → Option Value} {mg mb : Str → Option Value} (aa : Addr) (rest : List (Addr × Obj)) (l l1 o o1 : List UInt8) (t t1 : Tok) (ho : AsO l o) (ho1 : AsO l1 o1) :
   ClN w mean mg mb 570 9 ((aa, tpo [.bytes l.toArray t, .bytes l1.toArray t1]) :: rest) [.ref aa] (BytesR (([32] ++ o ++ [32]) ++ o1).toArray ((aa, tpo [.bytes l.toArray t, .bytes l1.toArray t1]) :: rest)) := by
  unfold ClN
  k_fill
  intro dp un cn cs a ccd cl outer A₀ base h₀ L m s Q B F X N T hk hd hu hret
  refine wpN_call ?_
  k_dflt (refine' code_defN (binds := [(Str.ofString "args", Value.ref aa)]) ?k1 ?k2 ?k3 ?k4 ?k5 ?kA ?kF ?kK ?k6 ?k7 ?k8 ?k9 ?kB ?_ ?c2 ?c3 ?c4 ?c5; (case kA => exact rfl); (case kF => exact rfl); (case kK => assumption); (case k1 => k_asm); (case k2 => k_asm); (case k3 => k_asm); (case k4 => k_asm); (case k5 => k_asm); (case k6 => k_is); (case k7 => k_is); (case k8 => k_extra "my_room"); (case k9 => first | exact BindsTo.of_eq rfl | exact binds_K (by k_in) rfl (by k_is) rfl rfl rfl); (case c5 => decide); (case kB => exact locs rfl); (case c2 => exact rfl); (case c3 => exact rfl); (case c4 => exact rfl); k_whole; intro g' L' h' FG' F' N' B' X' T'; (try dsimp only); (try k_lift B'); (try k_fold))
  have hol := AsO_len ho
  have hol1 := AsO_len ho1
  k_extra "n_steps"
  with_reducible rename Fr g' _ _ _ => F7
  with_reducible rename News g' _ _ _ => N7
  exact ⟨_, _, _, F7, N7, fun F8 N8 => hret _ _ _ _ ⟨_, rfl, rfl⟩ F8 N8⟩
end
theorem say26 : True := by
  k_with "call ref" => ((with_reducible show wpAny _ _ (call (Value.ref 371) [Value.ref _]) _ _ _); k_dflt (refine' Cl.useWN (c_space_t _ _ _ ?e1 ?e2 _ _ _ _ _ _ _ ?e3 ?e4) ?k1 ?k2 ?k3 ?k4 ?k5 ?kK ?kd ?ku ?_; k_extra "U"; (case e1 => k_extra "my_ne"); (case e2 => k_all); (case e3 => omega); (case e4 => k_extra "my_at"); ); intro _ _ _ _ _; (try dsimp only); (try k_fold))
  trivial
theorem walk_off20 : True := by
  w_top off
  trivial
section
theorem c_word_of {w : World} {mean : ExcName → Option Value} {mg mb : Str → Option Value} (x d : Addr) (rest : List (Addr × Obj)) (hxd : @Ne Nat x d) (hne : ∀ p ∈ rest, p.1 ≠ d) (l aw r : List UInt8) (td : Tok) (i : Nat) (tp k1 k2 : Tok) (msg : Str) (tm : Tok) (hl : l.length ≤ 65536) (hr : l.drop i = aw ++ r) (h0 : 0 < aw.length) (ha : ∀ c ∈ aw, isAtom c.toNat = true) (hs : ∀ c r', r = c :: r' → isAtom c.toNat = false) :
   Cl w mean mg mb 392 4 ((x, instObj 506 d) :: (d, wd w l td i tp k1 k2) :: rest) [.ref x, .ref 279, .str msg tm] (WR w l td k1 k2 x d rest (fun v => ∃ t, v = .str (mkS (aw.map UInt8.toNat)) t) (i + aw.length)) := by
  unfold Cl
  k_fill
  intro dp un gd cn cs a ccd cl outer A₀ base h₀ L m s Q E B F X N T hk hd hu hret
  refine wpAny_call ?_
  k_dflt (refine' code_def (binds := [(Str.ofString "self", Value.ref x), (Str.ofString "fits", Value.ref 279), (Str.ofString "what", Value.str msg tm)]) ?k1 ?k2 ?k3 ?k4 ?k5 ?kA ?kF ?kK ?k6 ?k7 ?k8 ?k9 ?kB ?_ ?c2 ?c3 ?c4 ?c5; (case kA => exact rfl); (case kF => exact rfl); (case kK => assumption); (case k1 => k_asm); (case k2 => k_asm); (case k3 => k_asm); (case k4 => k_asm); (case k5 => k_asm); (case k6 => k_is); (case k7 => k_is); (case k8 => k_extra "my_room"); (case k9 => first | exact BindsTo.of_eq rfl | exact binds_K (by k_in) rfl (by k_is) rfl rfl rfl); (case c5 => decide); (case kB => exact locs rfl); (case c2 => exact rfl); (case c3 => exact rfl); (case c4 => exact rfl); k_whole; intro g' L' h' FG' F' N' B' X' T'; (try dsimp only); (try k_lift B'); (try k_fold))
  have haa : ∀ c ∈ aw, c.toNat ≤ 127 := fun c hc => isAtom_le (ha c hc)
  have hlw : aw.length ≤ 65536 := drop_le hr hl
  k_extra "my_steps"
  exact hret _ _ _ _ (WR.mk ⟨_, rfl⟩ rfl) (by k_asm) (by k_asm)
theorem say27 : True := by
  k_with "call ref" => ((with_reducible show wpAny _ _ (call (Value.ref 392) [Value.ref _, Value.ref 279, Value.str _ _]) _ _ _); k_dflt (refine' Cl.useWS (c_word_of _ _ _ ?e1 ?e2 _ _ _ _ _ _ _ _ _ _ ?e3 ?e4 ?e5 ?e6 ?e7) ?k1 ?k2 ?k3 ?k4 ?k5 ?kK ?kd ?ku ?_; k_extra "U"; (case e1 => k_extra "my_ne"); (case e2 => k_all); (case e3 => omega); (case e4 => k_extra "my_at"); (case e5 => first | omega | assumption); (case e6 => assumption); (case e7 => assumption); ); intro _ _ _ _ _ _; (try dsimp only); (try k_fold))
  trivial
theorem c_atom {w : World} {mean : ExcName → Option Value} {mg mb : Str → Option Value} (x d : Addr) (rest : List (Addr × Obj)) (hxd : @Ne Nat x d) (hne : ∀ p ∈ rest, p.1 ≠ d) (l aw r : List UInt8) (td : Tok) (i : Nat) (tp k1 k2 : Tok) (hl : l.length ≤ 65536) (hr : l.drop i = aw ++ r) (h0 : 0 < aw.length) (ha : ∀ c ∈ aw, isAtom c.toNat = true) (hs : ∀ c r', r = c :: r' → isAtom c.toNat = false) :
   Cl w mean mg mb 399 5 ((x, instObj 506 d) :: (d, wd w l td i tp k1 k2) :: rest) [.ref x] (WR w l td k1 k2 x d rest (fun v => ∃ t, v = .str (mkS (aw.map UInt8.toNat)) t) (i + aw.length)) := by
  unfold Cl
  k_fill
  intro dp un gd cn cs a ccd cl outer A₀ base h₀ L m s Q E B F X N T hk hd hu hret
  refine wpAny_call ?_
  k_dflt (refine' code_def (binds := [(Str.ofString "self", Value.ref x)]) ?k1 ?k2 ?k3 ?k4 ?k5 ?kA ?kF ?kK ?k6 ?k7 ?k8 ?k9 ?kB ?_ ?c2 ?c3 ?c4 ?c5; (case kA => exact rfl); (case kF => exact rfl); (case kK => assumption); (case k1 => k_asm); (case k2 => k_asm); (case k3 => k_asm); (case k4 => k_asm); (case k5 => k_asm); (case k6 => k_is); (case k7 => k_is); (case k8 => k_extra "my_room"); (case k9 => first | exact BindsTo.of_eq rfl | exact binds_K (by k_in) rfl (by k_is) rfl rfl rfl); (case c5 => decide); (case kB => exact locs rfl); (case c2 => exact rfl); (case c3 => exact rfl); (case c4 => exact rfl); k_whole; intro g' L' h' FG' F' N' B' X' T'; (try dsimp only); (try k_lift B'); (try k_fold))
  k_extra "my_steps"
  exact hret _ _ _ _ (WR.mk ⟨_, rfl⟩ rfl) (by k_asm) (by k_asm)
theorem say28 : True := by
  k_with "call ref" => ((with_reducible show wpAny _ _ (call (Value.ref 399) [Value.ref _]) _ _ _); k_dflt (refine' Cl.useWS (c_atom _ _ _ ?e1 ?e2 _ _ _ _ _ _ _ _ ?e3 ?e4 ?e5 ?e6 ?e7) ?k1 ?k2 ?k3 ?k4 ?k5 ?kK ?kd ?ku ?_; k_extra "U"; (case e1 => k_extra "my_ne"); (case e2 => k_all); (case e3 => omega); (case e4 => k_extra "my_at"); (case e5 => first | omega | assumption); (case e6 => assumption); (case e7 => assumption); ); intro _ _ _ _ _ _; (try dsimp only); (try k_fold))
  trivial
theorem c_wordC {w : World} {mean : ExcName → Option Value} {mg mb : Str → Option Value} (x d : Addr) (rest : List (Addr × Obj)) (hxd : @Ne Nat x d) (hne : ∀ p ∈ rest, p.1 ≠ d) (l aw r : List UInt8) (td : Tok) (i : Nat) (tp k1 k2 : Tok) (hl : l.length ≤ 65536) (hr : l.drop i = aw ++ r) (h0 : 0 < aw.length) (ha : ∀ c ∈ aw, isAtom c.toNat = true) (hs : ∀ c r', r = c :: r' → isAtom c.toNat = false) :
   ClC w mean mg mb 406 6 ((x, instObj 506 d) :: (d, wd w l td i tp k1 k2) :: rest) [.ref x] (WR w l td k1 k2 x d rest (fun v => ∃ t, v = .str (mkS ((aw.map UInt8.toNat).map upC)) t) (i + aw.length)) := by
  unfold ClC
  k_fill
  intro dp un gd cn cs a ccd cl outer A₀ base h₀ L m s RR B F X N T hk hd hu hret
  k_dflt (refine' code_def (binds := [(Str.ofString "self", Value.ref x)]) ?k1 ?k2 ?k3 ?k4 ?k5 ?kA ?kF ?kK ?k6 ?k7 ?k8 ?k9 ?kB ?_ ?c2 ?c3 ?c4 ?c5; (case kA => exact rfl); (case kF => exact rfl); (case kK => assumption); (case k1 => k_asm); (case k2 => k_asm); (case k3 => k_asm); (case k4 => k_asm); (case k5 => k_asm); (case k6 => k_is); (case k7 => k_is); (case k8 => k_extra "my_room"); (case k9 => first | exact BindsTo.of_eq rfl | exact binds_K (by k_in) rfl (by k_is) rfl rfl rfl); (case c5 => decide); (case kB => exact locs rfl); (case c2 => exact rfl); (case c3 => exact rfl); (case c4 => exact rfl); k_whole; intro g' L' h' FG' F' N' B' X' T'; (try dsimp only); (try k_lift B'); (try k_fold))
  have hlw : aw.length ≤ 65536 := drop_le hr hl
  k_extra "my_steps"
  exact hret _ _ _ _ (WR.mk ⟨_, rfl⟩ rfl) (by k_asm) (by k_asm)
theorem c_word {w : World} {mean : ExcName → Option Value} {mg mb : Str → Option Value} (x d : Addr) (rest : List (Addr × Obj)) (hxd : @Ne Nat x d) (hne : ∀ p ∈ rest, p.1 ≠ d) (l aw r : List UInt8) (td : Tok) (i : Nat) (tp k1 k2 : Tok) (hl : l.length ≤ 65536) (hr : l.drop i = aw ++ r) (h0 : 0 < aw.length) (ha : ∀ c ∈ aw, isAtom c.toNat = true) (hs : ∀ c r', r = c :: r' → isAtom c.toNat = false) :
   Cl w mean mg mb 406 6 ((x, instObj 506 d) :: (d, wd w l td i tp k1 k2) :: rest) [.ref x] (WR w l td k1 k2 x d rest (fun v => ∃ t, v = .str (mkS ((aw.map UInt8.toNat).map upC)) t) (i + aw.length)) :=
  (c_wordC x d rest hxd hne l aw r td i tp k1 k2 hl hr h0 ha hs).toCl
theorem say29 : True := by
  k_with "call ref" => ((with_reducible show wpAny _ _ (call (Value.ref 406) [Value.ref _]) _ _ _); k_dflt (refine' Cl.useWS (c_word _ _ _ ?e1 ?e2 _ _ _ _ _ _ _ _ ?e3 ?e4 ?e5 ?e6 ?e7) ?k1 ?k2 ?k3 ?k4 ?k5 ?kK ?kd ?ku ?_; k_extra "U"; (case e1 => k_extra "my_ne"); (case e2 => k_all); (case e3 => omega); (case e4 => k_extra "my_at"); (case e5 => first | omega | assumption); (case e6 => assumption); (case e7 => assumption); ); intro _ _ _ _ _ _; (try dsimp only); (try k_fold))
  trivial
end
theorem say30 : True := by
  k_with "call ref" => ((with_reducible show wpAny _ _ (call (Value.ref 462) [Value.ref _, Value.ref 286]) _ _ _); k_dflt (refine' Cl.useWYW (c_string_or_a _ _ _ ?e1 ?e2 _ _ _ _ _ _ _ _ ?e3 ?e4 ?e5 ?e6 ?e7) ?k1 ?k2 ?k3 ?k4 ?k5 ?kK ?kd ?ku ?_; k_extra "U"; (case e1 => k_extra "my_ne"); (case e2 => k_all); (case e3 => omega); (case e4 => k_extra "my_at"); (case e5 => first | omega | assumption); (case e6 => assumption); (case e7 => assumption); ); intro _ _ _ _ _ _; (try dsimp only); (try k_fold))
  k_with "call ref" => ((with_reducible show wpAny _ _ (call (Value.ref 462) [Value.ref _, Value.ref 293]) _ _ _); k_dflt (refine' Cl.useWYW (c_string_or_p _ _ _ ?e1 ?e2 _ _ _ _ _ _ _ _ ?e3 ?e4 ?e5 ?e6 ?e7) ?k1 ?k2 ?k3 ?k4 ?k5 ?kK ?kd ?ku ?_; k_extra "U"; (case e1 => k_extra "my_ne"); (case e2 => k_all); (case e3 => omega); (case e4 => k_extra "my_at"); (case e5 => first | omega | assumption); (case e6 => assumption); (case e7 => assumption); ); intro _ _ _ _ _ _; (try dsimp only); (try k_fold))
  trivial
theorem walk_off21 : True := by
  w_top off
  trivial
section
theorem c_astring_a {w : World} {mean : ExcName → Option Value} {mg mb : Str → Option Value} (x d : Addr) (rest : List (Addr × Obj)) (hxd : @Ne Nat x d) (hne : ∀ p ∈ rest, p.1 ≠ d) (l aw r : List UInt8) (td : Tok) (i : Nat) (tp k1 k2 : Tok) (hl : l.length ≤ 65536) (hr : l.drop i = aw ++ r) (h0 : 0 < aw.length) (ha : ∀ c ∈ aw, isAstring c.toNat = true) (hs : ∀ c r', r = c :: r' → isAstring c.toNat = false) :
   ClC w mean mg mb 469 7 ((x, instObj 506 d) :: (d, wd w l td i tp k1 k2) :: rest) [.ref x] (WY w l td k1 k2 x d rest aw (i + aw.length)) := by
  unfold ClC
  k_fill
  intro dp un gd cn cs a ccd cl outer A₀ base h₀ L m s RR B F X N T hk hd hu hret
  k_dflt (refine' code_def (binds := [(Str.ofString "self", Value.ref x)]) ?k1 ?k2 ?k3 ?k4 ?k5 ?kA ?kF ?kK ?k6 ?k7 ?k8 ?k9 ?kB ?_ ?c2 ?c3 ?c4 ?c5; (case kA => exact rfl); (case kF => exact rfl); (case kK => assumption); (case k1 => k_asm); (case k2 => k_asm); (case k3 => k_asm); (case k4 => k_asm); (case k5 => k_asm); (case k6 => k_is); (case k7 => k_is); (case k8 => k_extra "my_room"); (case k9 => first | exact BindsTo.of_eq rfl | exact binds_K (by k_in) rfl (by k_is) rfl rfl rfl); (case c5 => decide); (case kB => exact locs rfl); (case c2 => exact rfl); (case c3 => exact rfl); (case c4 => exact rfl); k_whole; intro g' L' h' FG' F' N' B' X' T'; (try dsimp only); (try k_lift B'); (try k_fold))
  k_extra "my_steps"
  exact hret _ _ _ _ ⟨_, _, rfl, rfl⟩ (by k_asm) (by k_asm)
theorem c_pattern_p {w : World} {mean : ExcName → Option Value} {mg mb : Str → Option Value} (x d : Addr) (rest : List (Addr × Obj)) (hxd : @Ne Nat x d) (hne : ∀ p ∈ rest, p.1 ≠ d) (l aw r : List UInt8) (td : Tok) (i : Nat) (tp k1 k2 : Tok) (hl : l.length ≤ 65536) (hr : l.drop i = aw ++ r) (h0 : 0 < aw.length) (ha : ∀ c ∈ aw, isPattern c.toNat = true) (hs : ∀ c r', r = c :: r' → isPattern c.toNat = false) :
   ClC w mean mg mb 476 8 ((x, instObj 506 d) :: (d, wd w l td i tp k1 k2) :: rest) [.ref x] (WY w l td k1 k2 x d rest aw (i + aw.length)) := by
  unfold ClC
  k_fill
  intro dp un gd cn cs a ccd cl outer A₀ base h₀ L m s RR B F X N T hk hd hu hret
  k_dflt (refine' code_def (binds := [(Str.ofString "self", Value.ref x)]) ?k1 ?k2 ?k3 ?k4 ?k5 ?kA ?kF ?kK ?k6 ?k7 ?k8 ?k9 ?kB ?_ ?c2 ?c3 ?c4 ?c5; (case kA => exact rfl); (case kF => exact rfl); (case kK => assumption); (case k1 => k_asm); (case k2 => k_asm); (case k3 => k_asm); (case k4 => k_asm); (case k5 => k_asm); (case k6 => k_is); (case k7 => k_is); (case k8 => k_extra "my_room"); (case k9 => first | exact BindsTo.of_eq rfl | exact binds_K (by k_in) rfl (by k_is) rfl rfl rfl); (case c5 => decide); (case kB => exact locs rfl); (case c2 => exact rfl); (case c3 => exact rfl); (case c4 => exact rfl); k_whole; intro g' L' h' FG' F' N' B' X' T'; (try dsimp only); (try k_lift B'); (try k_fold))
  k_extra "my_steps"
  exact hret _ _ _ _ ⟨_, _, rfl, rfl⟩ (by k_asm) (by k_asm)
end
theorem say31 : True := by
  k_with "call ref" => ((with_reducible show wpAny _ _ (call (Value.ref 469) [Value.ref _]) _ _ _); k_dflt (refine' Cl.useWYW (ClC.toCl (c_astring_a _ _ _ ?e1 ?e2 _ _ _ _ _ _ _ _ ?e3 ?e4 ?e5 ?e6 ?e7)) ?k1 ?k2 ?k3 ?k4 ?k5 ?kK ?kd ?ku ?_; k_extra "U"; (case e1 => k_extra "my_ne"); (case e2 => k_all); (case e3 => omega); (case e4 => k_extra "my_at"); (case e5 => first | omega | assumption); (case e6 => assumption); (case e7 => assumption); ); intro _ _ _ _ _ _; (try dsimp only); (try k_fold))
  k_with "call ref" => ((with_reducible show wpAny _ _ (call (Value.ref 223) [Value.bytes _ _]) _ _ _); k_dflt (refine' Cl.useS (c_utf7_text _ _ _ (by k_extra "my_size") (by assumption)) ?k1 ?k2 ?k3 ?k4 ?k5 ?kK ?kd ?ku ?_; k_extra "my_use"); intro _ _ _ _ _; (try dsimp only); (try k_fold))
  k_with "call ref" => ((with_reducible show wpAny _ _ (call (Value.ref 237) [Value.str _ _]) _ _ _); k_dflt (refine' Cl.useS (c_normalP _ _ _ _ (by k_extra "my_size") (by assumption)) ?k1 ?k2 ?k3 ?k4 ?k5 ?kK ?kd ?ku ?_; k_extra "my_use"); intro _ _ _ _ _; (try dsimp only); (try k_fold))
  trivial
theorem walk_off22 : True := by
  w_top off
  trivial
section
theorem c_name_a {w : World} {mean : ExcName → Option Value} {mg mb : Str → Option Value} (x d : Addr) (rest : List (Addr × Obj)) (hxd : @Ne Nat x d) (hne : ∀ p ∈ rest, p.1 ≠ d) (l aw r : List UInt8) (y : Str) (td : Tok) (i : Nat) (tp k1 k2 : Tok) (hl : l.length ≤ 65536) (hr : l.drop i = aw ++ r) (h0 : 0 < aw.length) (ha : ∀ c ∈ aw, isAstring c.toNat = true) (hs : ∀ c r', r = c :: r' → isAstring c.toNat = false) (hpl : ∀ c ∈ aw, isPlain c.toNat = true ∧ c ≠ 38) (hy : NormP (aw.map UInt8.toNat) y) :
   Cl w mean mg mb 612 9 ((x, instObj 506 d) :: (d, wd w l td i tp k1 k2) :: rest) [.ref x] (WR w l td k1 k2 x d rest (StrV y) (i + aw.length)) := by
  unfold Cl
  k_fill
  intro dp un gd cn cs a ccd cl outer A₀ base h₀ L m s Q E B F X N T hk hd hu hret
  refine wpAny_call ?_
  k_dflt (refine' code_def (binds := [(Str.ofString "wire", Value.ref x)]) ?k1 ?k2 ?k3 ?k4 ?k5 ?kA ?kF ?kK ?k6 ?k7 ?k8 ?k9 ?kB ?_ ?c2 ?c3 ?c4 ?c5; (case kA => exact rfl); (case kF => exact rfl); (case kK => assumption); (case k1 => k_asm); (case k2 => k_asm); (case k3 => k_asm); (case k4 => k_asm); (case k5 => k_asm); (case k6 => k_is); (case k7 => k_is); (case k8 => k_extra "my_room"); (case k9 => first | exact BindsTo.of_eq rfl | exact binds_K (by k_in) rfl (by k_is) rfl rfl rfl); (case c5 => decide); (case kB => exact locs rfl); (case c2 => exact rfl); (case c3 => exact rfl); (case c4 => exact rfl); k_whole; intro g' L' h' FG' F' N' B' X' T'; (try dsimp only); (try k_lift B'); (try k_fold))
  have hlw : aw.length ≤ 65536 := drop_le hr hl
  k_extra "my_steps"
  exact hret _ _ _ _ (WR.mk ⟨_, rfl⟩ rfl) (by k_asm) (by k_asm)
theorem say32 : True := by
  k_with "call ref" => ((with_reducible show wpAny _ _ (call (Value.ref _) []) _ _ _); k_dflt (refine' ClC.useM (c_pattern_p _ _ _ ?e1 ?e2 _ _ _ _ _ _ _ _ ?e3 ?e4 ?e5 ?e6 ?e7) ?hq ?k1 ?k2 ?k3 ?k4 ?k5 ?kK ?kd ?ku ?_; k_extra "U"; (case hq => k_extra "my_mem"); (case e1 => k_extra "my_ne"); (case e2 => k_all); (case e3 => omega); (case e4 => k_extra "my_at"); (case e5 => first | omega | assumption); (case e6 => assumption); (case e7 => assumption)); rintro _ _ _ _ ⟨_, _, ev'₉, en'₉⟩ _ _; subst ev'₉ en'₉; (try dsimp only); (try k_fold))
  trivial
theorem c_patt_p {w : World} {mean : ExcName → Option Value} {mg mb : Str → Option Value} (x d q : Addr) (rest : List (Addr × Obj)) (hxd : @Ne Nat x d) (hqd : @Ne Nat q d) (hne : ∀ p ∈ rest, p.1 ≠ d) (l aw r : List UInt8) (td : Tok) (i : Nat) (tp k1 k2 : Tok) (hl : l.length ≤ 65536) (hr : l.drop i = aw ++ r) (h0 : 0 < aw.length) (ha : ∀ c ∈ aw, isPattern c.toNat = true) (hs : ∀ c r', r = c :: r' → isPattern c.toNat = false) (hpl : ∀ c ∈ aw, isPlain c.toNat = true ∧ c ≠ 38) :
   Cl w mean mg mb 619 10 ((x, instObj 506 d) :: (d, wd w l td i tp k1 k2) :: (q, methodObj (.ref 476) (.ref x)) :: rest) [.ref x, .ref q] (WR w l td k1 k2 x d ((q, methodObj (.ref 476) (.ref x)) :: rest) (StrV (mkS (aw.map UInt8.toNat))) (i + aw.length)) := by
  unfold Cl
  k_fill
  intro dp un gd cn cs a ccd cl outer A₀ base h₀ L m s Q E B F X N T hk hd hu hret
  refine wpAny_call ?_
  k_dflt (refine' code_def (binds := [(Str.ofString "wire", Value.ref x), (Str.ofString "read", Value.ref q)]) ?k1 ?k2 ?k3 ?k4 ?k5 ?kA ?kF ?kK ?k6 ?k7 ?k8 ?k9 ?kB ?_ ?c2 ?c3 ?c4 ?c5; (case kA => exact rfl); (case kF => exact rfl); (case kK => assumption); (case k1 => k_asm); (case k2 => k_asm); (case k3 => k_asm); (case k4 => k_asm); (case k5 => k_asm); (case k6 => k_is); (case k7 => k_is); (case k8 => k_extra "my_room"); (case k9 => first | exact BindsTo.of_eq rfl | exact binds_K (by k_in) rfl (by k_is) rfl rfl rfl); (case c5 => decide); (case kB => exact locs rfl); (case c2 => exact rfl); (case c3 => exact rfl); (case c4 => exact rfl); k_whole; intro g' L' h' FG' F' N' B' X' T'; (try dsimp only); (try k_lift B'); (try k_fold))
  have hlw : aw.length ≤ 65536 := drop_le hr hl
  have hne' : ∀ p ∈ (q, methodObj (.ref 476) (.ref x)) :: rest, p.1 ≠ d := fun p hp => by
    rcases List.mem_cons.mp hp with rfl | hp
    · exact hqd
    · exact hne p hp
  k_extra "my_steps"
  exact hret _ _ _ _ (WR.mk ⟨_, rfl⟩ rfl) (by k_asm) (by k_asm)
end
theorem walk_off23 : True := by
  w_top off
  trivial
section
theorem say33 : True := by
  k_with "n_calls" => ((with_reducible show wpN _ _ (call (Value.ref 469) [Value.ref _]) _ _); k_dflt (refine' ClN.use (ClNC.toN (c_astring_qC _ _ _ ?e1 ?e2 _ _ _ _ _ _ _ _ ?e3 ?e5 ?e4 ?e6)) ?k1 ?k2 ?k3 ?k4 ?k5 ?kK ?kd ?ku ?_; k_extra "U"; (case e1 => k_extra "my_ne"); (case e2 => k_all); (case e3 => omega); (case e4 => k_extra "my_at"); (case e5 => first | omega | assumption); (case e6 => assumption); ); rintro _ _ _ _ ⟨_, _, ev'₉, en'₉⟩ _ _; subst ev'₉ en'₉; (try dsimp only))
  trivial
theorem c_name_q {w : World} {mean : ExcName → Option Value} {mg mb : Str → Option Value} (x d : Addr) (rest : List (Addr × Obj)) (hxd : @Ne Nat x d) (hne : ∀ p ∈ rest, p.1 ≠ d) (l b r : List UInt8) (y : Str) (td : Tok) (i : Nat) (tp k1 k2 : Tok) (hl : l.length ≤ 65536) (hb : b.length ≤ 1000) (hr : l.drop i = 34 :: (b.flatMap qItem ++ 34 :: r)) (ha : ∀ c ∈ b, 1 ≤ c.toNat ∧ c.toNat ≤ 127 ∧ c.toNat ≠ 13 ∧ c.toNat ≠ 10) (hpl : ∀ c ∈ b, isPlain c.toNat = true ∧ c ≠ 38) (hy : NormP (b.map UInt8.toNat) y) :
   ClN w mean mg mb 612 9 ((x, instObj 506 d) :: (d, wd w l td i tp k1 k2) :: rest) [.ref x] (WR w l td k1 k2 x d rest (StrV y) (l.length - r.length)) := by
  unfold ClN
  k_fill
  intro dp un cn cs a ccd cl outer A₀ base h₀ L m s Q B F X N T hk hd hu hret
  refine wpN_call ?_
  k_dflt (refine' code_defN (binds := [(Str.ofString "wire", Value.ref x)]) ?k1 ?k2 ?k3 ?k4 ?k5 ?kA ?kF ?kK ?k6 ?k7 ?k8 ?k9 ?kB ?_ ?c2 ?c3 ?c4 ?c5; (case kA => exact rfl); (case kF => exact rfl); (case kK => assumption); (case k1 => k_asm); (case k2 => k_asm); (case k3 => k_asm); (case k4 => k_asm); (case k5 => k_asm); (case k6 => k_is); (case k7 => k_is); (case k8 => k_extra "my_room"); (case k9 => first | exact BindsTo.of_eq rfl | exact binds_K (by k_in) rfl (by k_is) rfl rfl rfl); (case c5 => decide); (case kB => exact locs rfl); (case c2 => exact rfl); (case c3 => exact rfl); (case c4 => exact rfl); k_whole; intro g' L' h' FG' F' N' B' X' T'; (try dsimp only); (try k_lift B'); (try k_fold))
  k_extra "n_steps"
  with_reducible rename Fr _ _ _ _ => F7
  with_reducible rename News _ _ _ _ => N7
  exact ⟨_, _, _, F7, N7, fun F8 N8 => hret _ _ _ _ (WR.mk ⟨_, rfl⟩ rfl) F8 N8⟩
theorem say34 : True := by
  k_with "n_calls" => ((with_reducible show wpN _ _ (call (Value.ref _) []) _ _); k_dflt (refine' ClNC.useM (c_astring_qC _ _ _ ?e1 ?e2 _ _ _ _ _ _ _ _ ?e3 ?e5 ?e4 ?e6) ?hq ?k1 ?k2 ?k3 ?k4 ?k5 ?kK ?kd ?ku ?_; k_extra "U"; (case hq => k_extra "my_mem"); (case e1 => k_extra "my_ne"); (case e2 => k_all); (case e3 => omega); (case e4 => k_extra "my_at"); (case e5 => first | omega | assumption); (case e6 => assumption)); rintro _ _ _ _ ⟨_, _, ev'₉, en'₉⟩ _ _; subst ev'₉ en'₉; (try dsimp only))
  trivial
theorem c_patt_q {w : World} {mean : ExcName → Option Value} {mg mb : Str → Option Value} (x d q : Addr) (rest : List (Addr × Obj)) (hxd : @Ne Nat x d) (hqd : @Ne Nat q d) (hne : ∀ p ∈ rest, p.1 ≠ d) (l b r : List UInt8) (td : Tok) (i : Nat) (tp k1 k2 : Tok) (hl : l.length ≤ 65536) (hb : b.length ≤ 1000) (hr : l.drop i = 34 :: (b.flatMap qItem ++ 34 :: r)) (ha : ∀ c ∈ b, 1 ≤ c.toNat ∧ c.toNat ≤ 127 ∧ c.toNat ≠ 13 ∧ c.toNat ≠ 10) (hpl : ∀ c ∈ b, isPlain c.toNat = true ∧ c ≠ 38) :
   ClN w mean mg mb 619 10 ((x, instObj 506 d) :: (d, wd w l td i tp k1 k2) :: (q, methodObj (.ref 469) (.ref x)) :: rest) [.ref x, .ref q] (WR w l td k1 k2 x d ((q, methodObj (.ref 469) (.ref x)) :: rest) (StrV (mkS (b.map UInt8.toNat))) (l.length - r.length)) := by
  unfold ClN
  k_fill
  intro dp un cn cs a ccd cl outer A₀ base h₀ L m s Q B F X N T hk hd hu hret
  refine wpN_call ?_
  k_dflt (refine' code_defN (binds := [(Str.ofString "wire", Value.ref x), (Str.ofString "read", Value.ref q)]) ?k1 ?k2 ?k3 ?k4 ?k5 ?kA ?kF ?kK ?k6 ?k7 ?k8 ?k9 ?kB ?_ ?c2 ?c3 ?c4 ?c5; (case kA => exact rfl); (case kF => exact rfl); (case kK => assumption); (case k1 => k_asm); (case k2 => k_asm); (case k3 => k_asm); (case k4 => k_asm); (case k5 => k_asm); (case k6 => k_is); (case k7 => k_is); (case k8 => k_extra "my_room"); (case k9 => first | exact BindsTo.of_eq rfl | exact binds_K (by k_in) rfl (by k_is) rfl rfl rfl); (case c5 => decide); (case kB => exact locs rfl); (case c2 => exact rfl); (case c3 => exact rfl); (case c4 => exact rfl); k_whole; intro g' L' h' FG' F' N' B' X' T'; (try dsimp only); (try k_lift B'); (try k_fold))
  have hne' : ∀ p ∈ (q, methodObj (.ref 469) (.ref x)) :: rest, p.1 ≠ d := fun p hp => by
    rcases List.mem_cons.mp hp with rfl | hp
    · exact hqd
    · exact hne p hp
  k_extra "n_steps"
  with_reducible rename Fr _ _ _ _ => F7
  with_reducible rename News _ _ _ _ => N7
  exact ⟨_, _, _, F7, N7, fun F8 N8 => hret _ _ _ _ (WR.mk ⟨_, rfl⟩ rfl) F8 N8⟩
end
theorem say35 : True := by
  k_with "call ref" => ((with_reducible show wpAny _ _ (call (Value.ref 392) [Value.ref _, Value.ref 279, Value.str _ _]) _ _ _); k_dflt (refine' Cl.useWS (c_word_of _ _ _ ?e1 ?e2 _ _ _ _ _ _ _ _ _ _ ?e3 ?e4 ?e5 ?e6 ?e7) ?k1 ?k2 ?k3 ?k4 ?k5 ?kK ?kd ?ku ?_; k_extra "U"; (case e1 => k_extra "my_ne"); (case e2 => k_all); (case e3 => omega); (case e4 => k_extra "my_at"); (case e5 => first | omega | assumption); (case e6 => assumption); (case e7 => assumption); ); intro _ _ _ _ _ _; (try dsimp only); (try k_fold))
  k_with "call ref" => ((with_reducible show wpAny _ _ (call (Value.ref 399) [Value.ref _]) _ _ _); k_dflt (refine' Cl.useWS (c_atom _ _ _ ?e1 ?e2 _ _ _ _ _ _ _ _ ?e3 ?e4 ?e5 ?e6 ?e7) ?k1 ?k2 ?k3 ?k4 ?k5 ?kK ?kd ?ku ?_; k_extra "U"; (case e1 => k_extra "my_ne"); (case e2 => k_all); (case e3 => omega); (case e4 => k_extra "my_at"); (case e5 => first | omega | assumption); (case e6 => assumption); (case e7 => assumption); ); intro _ _ _ _ _ _; (try dsimp only); (try k_fold))
  k_with "call ref" => ((with_reducible show wpAny _ _ (call (Value.ref 406) [Value.ref _]) _ _ _); k_dflt (refine' Cl.useWS (c_word _ _ _ ?e1 ?e2 _ _ _ _ _ _ _ _ ?e3 ?e4 ?e5 ?e6 ?e7) ?k1 ?k2 ?k3 ?k4 ?k5 ?kK ?kd ?ku ?_; k_extra "U"; (case e1 => k_extra "my_ne"); (case e2 => k_all); (case e3 => omega); (case e4 => k_extra "my_at"); (case e5 => first | omega | assumption); (case e6 => assumption); (case e7 => assumption); ); intro _ _ _ _ _ _; (try dsimp only); (try k_fold))
  trivial
theorem walk_off24 : True := by
  w_top off
  trivial
section
theorem say36 : True := by
  k_with "call ref" => ((with_reducible show wpAny _ _ (call (Value.ref _) []) _ _ _); k_dflt (refine' ClC.useMWS (c_wordC _ _ _ ?e1 ?e2 _ _ _ _ _ _ _ _ ?e3 ?e4 ?e5 ?e6 ?e7) ?hq ?k1 ?k2 ?k3 ?k4 ?k5 ?kK ?kd ?ku ?_; k_extra "U"; (case hq => k_extra "my_mem"); (case e1 => k_extra "my_ne"); (case e2 => k_all); (case e3 => omega); (case e4 => k_extra "my_at"); (case e5 => first | omega | assumption); (case e6 => assumption); (case e7 => assumption); ); intro _ _ _ _ _ _; (try dsimp only); (try k_fold))
  trivial
theorem c_list_of {w : World} {mean : ExcName → Option Value} {mg mb : Str → Option Value} (x d q : Addr) (rest : List (Addr × Obj)) (hxd : @Ne Nat x d) (hqd : @Ne Nat q d) (hqx : @Ne Nat q x) (hne : ∀ p ∈ rest, p.1 ≠ d) (l r w0 : List UInt8) (ws : List (List UInt8)) (td : Tok) (i : Nat) (tp k1 k2 : Tok) (hl : l.length ≤ 65536) (hr : l.drop i = 40 :: (w0 ++ (sepW ws ++ 41 :: r))) (h0 : ∀ w ∈ w0 :: ws, 0 < w.length ∧ ∀ c ∈ w, isAtom c.toNat = true) (hw : (w0 :: ws).length ≤ 100) :
   Cl w mean mg mb 490 8 ((x, instObj 506 d) :: (d, wd w l td i tp k1 k2) :: (q, methodObj (.ref 406) (.ref x)) :: rest) [.ref x, .ref q] (fun v news' => ∃ ls vs nn tp', v = .ref ls ∧ news' = (ls, listOf vs.toArray nn) :: (x, instObj 506 d) :: (d, wd w l td ((l.length - r.length : Nat) : Int) tp' k1 k2) :: (q, methodObj (.ref 406) (.ref x)) :: rest ∧ StrsAre vs ((w0 :: ws).map strW)) := by
  unfold Cl
  k_fill
  intro dp un gd cn cs a ccd cl outer A₀ base h₀ L m s Q E B F X N T hk hd hu hret
  refine wpAny_call ?_
  k_dflt (refine' code_def (binds := [(Str.ofString "self", Value.ref x), (Str.ofString "read", Value.ref q)]) ?k1 ?k2 ?k3 ?k4 ?k5 ?kA ?kF ?kK ?k6 ?k7 ?k8 ?k9 ?kB ?_ ?c2 ?c3 ?c4 ?c5; (case kA => exact rfl); (case kF => exact rfl); (case kK => assumption); (case k1 => k_asm); (case k2 => k_asm); (case k3 => k_asm); (case k4 => k_asm); (case k5 => k_asm); (case k6 => k_is); (case k7 => k_is); (case k8 => k_extra "my_room"); (case k9 => first | exact BindsTo.of_eq rfl | exact binds_K (by k_in) rfl (by k_is) rfl rfl rfl); (case c5 => decide); (case kB => exact locs rfl); (case c2 => exact rfl); (case c3 => exact rfl); (case c4 => exact rfl); k_whole; intro g' L' h' FG' F' N' B' X' T'; (try dsimp only); (try k_lift B'); (try k_fold))
  have hr1 : l.drop (i + 1) = w0 ++ (sepW ws ++ 41 :: r) := drop_one hr
  obtain ⟨hw0, hw1⟩ := h0 w0 (.head _)
  have hst : ∀ c r', sepW ws ++ 41 :: r = c :: r' → isAtom c.toNat = false := sep_stop
  have hh1 : (w0 ++ (sepW ws ++ 41 :: r)).head? ≠ some 41 := by
    cases w0 with
    | nil => simp at hw0
    | cons c w0 =>
      have := hw1 c (.head _)
      rintro h
      simp only [List.cons_append, List.head?_cons, Option.some.injEq] at h
      rw [h] at this
      exact absurd this (by decide +kernel)
  have hne' : ∀ p ∈ (q, methodObj (.ref 406) (.ref x)) :: rest, p.1 ≠ d := fun p hp => by
    rcases List.mem_cons.mp hp with rfl | hp
    · exact hqd
    · exact hne p hp
  k_extra "my_steps"
  with_reducible rename Fr _ _ _ _ => F9
  with_reducible rename News _ _ _ _ => N9
  obtain ⟨ls9, e9⟩ := nm3 N9
  dsimp only at e9
  subst e9
  refine While_K (fun n ns => ∃ (done rem : List (List UInt8)) (vs : List Value) (nn : Nat) (pos : Nat) (tp' : Tok), n = rem.length ∧ done ++ rem = w0 :: ws ∧ StrsAre vs (done.map strW) ∧ l.drop pos = sepW rem ++ 41 :: r ∧ ns = (x, instObj 506 d) :: (d, wd w l td (pos : Int) tp' k1 k2) :: (ls9, listOf vs.toArray nn) :: (q, methodObj (.ref 406) (.ref x)) :: rest) ws.length F9 N9 ⟨[w0], ws, [_], 0 + 1, i + 1 + w0.length, _, rfl, rfl, .cons (strW w0) _ .nil, drop_more hr1, rfl⟩ ?_ (by passes_own)
  rintro n ns h₁ tk₁ F1 N1 ⟨done, rem, vs, nn, pos, tp', rfl, hdr, hvs, hpos, rfl⟩
  clear F9 N9
  have hlw := strs_len hvs
  have hlw2 := congrArg List.length hdr
  rw [List.length_append] at hlw2
  rw [List.length_map] at hlw
  cases rem with
  | nil =>
    have hr3 : l.drop pos = 41 :: r := hpos
    k_extra "my_steps"
    have e1 : l.length - r.length = pos + 1 := drop_end hr3
    rw [List.append_nil] at hdr
    rw [hdr] at hvs
    with_reducible rename News _ _ _ (_ :: _ :: _ :: _) => N7
    have N8 := Mine.News.unrot1 N7
    rw [← e1] at N8
    exact hret _ _ _ _ ⟨ls9, vs, nn, _, rfl, rfl, hvs⟩ (by k_asm) N8
  | cons w rem =>
    have hr3 : l.drop pos = 32 :: (w ++ (sepW rem ++ 41 :: r)) := by simpa [sepW_cons] using hpos
    have hr4 : l.drop (pos + 1) = w ++ (sepW rem ++ 41 :: r) := drop_one hr3
    obtain ⟨hwa, hwb⟩ := h0 w (hdr ▸ List.mem_append_right _ (.head _))
    have hst2 : ∀ c r', sepW rem ++ 41 :: r = c :: r' → isAtom c.toNat = false := sep_stop
    k_extra "my_steps"
    with_reducible rename News _ _ _ (_ :: _ :: _ :: _) => N7
    rw [List.push_toArray] at N7
    exact ⟨_, _, _, _, rem.length, rfl, by assumption, N7, Nat.lt_succ_self _, rfl, done ++ [w], rem, _, _, _, _, rfl, by simp [hdr], by rw [List.map_append]; exact strs_snoc hvs, drop_more hr4, rfl⟩
end
theorem walk_off25 : True := by
  w_top off
  trivial
section
theorem c_read_enable {w : World} {mean : ExcName → Option Value} {mg mb : Str → Option Value} (x d : Addr) (rest : List (Addr × Obj)) (hxd : @Ne Nat x d) (hne : ∀ p ∈ rest, p.1 ≠ d) (l r w0 : List UInt8) (ws : List (List UInt8)) (td : Tok) (tp k1 k2 : Tok) (hl : l.length ≤ 65536) (hr : l = 32 :: (w0 ++ (sepW ws ++ r))) (h0 : ∀ w ∈ w0 :: ws, 0 < w.length ∧ ∀ c ∈ w, isAtom c.toNat = true) (hw : (w0 :: ws).length ≤ 100) (hs : ∀ c r', r = c :: r' → isAtom c.toNat = false) (hrh : r.head? ≠ some 32) :
   Cl w mean mg mb 638 8 ((x, instObj 506 d) :: (d, wd w l td (0 : Nat) tp k1 k2) :: rest) [.ref x] (fun v news' ↦ ∃ a u vs tp', v = .ref a ∧ news' = (a, tpo [.ref u]) :: (u, tpo vs) :: (x, instObj 506 d) :: (d, wd w l td ((l.length - r.length : Nat) : Int) tp' k1 k2) :: rest ∧ StrsAre vs ((w0 :: ws).map strW)) := by
  unfold Cl
  k_fill
  intro dp un gd cn cs a ccd cl outer A₀ base h₀ L m s Q E B F X N T hk hd hu hret
  refine wpAny_call ?_
  k_dflt (refine' code_def (binds := [(Str.ofString "wire", Value.ref x)]) ?k1 ?k2 ?k3 ?k4 ?k5 ?kA ?kF ?kK ?k6 ?k7 ?k8 ?k9 ?kB ?_ ?c2 ?c3 ?c4 ?c5; (case kA => exact rfl); (case kF => exact rfl); (case kK => assumption); (case k1 => k_asm); (case k2 => k_asm); (case k3 => k_asm); (case k4 => k_asm); (case k5 => k_asm); (case k6 => k_is); (case k7 => k_is); (case k8 => k_extra "my_room"); (case k9 => first | exact BindsTo.of_eq rfl | exact binds_K (by k_in) rfl (by k_is) rfl rfl rfl); (case c5 => decide); (case kB => exact locs rfl); (case c2 => exact rfl); (case c3 => exact rfl); (case c4 => exact rfl); k_whole; intro g' L' h' FG' F' N' B' X' T'; (try dsimp only); (try k_lift B'); (try k_fold))
  have r0 : l.drop 0 = 32 :: (w0 ++ (sepW ws ++ r)) := hr
  have hr1 : l.drop (0 + 1) = w0 ++ (sepW ws ++ r) := drop_one r0
  obtain ⟨hw0, hw1⟩ := h0 w0 (.head _)
  have hst : ∀ c r', sepW ws ++ r = c :: r' → isAtom c.toNat = false := sep_stop2 hs
  k_extra "my_steps"
  with_reducible rename Fr _ _ _ _ => F9
  with_reducible rename News _ _ _ _ => N9
  obtain ⟨ls9, e9⟩ := nm1 N9
  dsimp only at e9
  subst e9
  refine While_K (fun n ns => ∃ (done rem : List (List UInt8)) (vs : List Value) (nn : Nat) (pos : Nat) (tp' : Tok), n = rem.length ∧ done ++ rem = w0 :: ws ∧ StrsAre vs (done.map strW) ∧ l.drop pos = sepW rem ++ r ∧ pos + (sepW rem).length = 0 + 1 + w0.length + (sepW ws).length ∧ ns = (ls9, listOf vs.toArray nn) :: (x, instObj 506 d) :: (d, wd w l td (pos : Int) tp' k1 k2) :: rest) ws.length F9 N9 ⟨[w0], ws, [_], 0, 0 + 1 + w0.length, _, rfl, rfl, .cons (strW w0) _ .nil, drop_more hr1, rfl, rfl⟩ ?_ (by passes_own)
  rintro n ns h₁ tk₁ F1 N1 ⟨done, rem, vs, nn, pos, tp', rfl, hdr, hvs, hpos, hposl, rfl⟩
  clear F9 N9
  have hlw := strs_len hvs
  have hlw2 := congrArg List.length hdr
  rw [List.length_append] at hlw2
  rw [List.length_map] at hlw
  cases rem with
  | nil =>
    have hr3 : l.drop pos = r := hpos
    have e1 : l.length - r.length = pos := by
      have e2 := congrArg List.length hr
      simp only [List.length_cons, List.length_append] at e2
      simp only [sepW, List.flatMap_nil, List.length_nil] at hposl
      simp only [sepW] at e2
      omega
    rw [List.append_nil] at hdr
    rw [hdr] at hvs
    k_extra "my_steps"
    with_reducible rename News h₀ L _ _ => N7
    subst e1
    exact hret _ _ _ _ ⟨_, _, _, _, rfl, rfl, hvs⟩ (by k_asm) (Mine.News.drop5 N7)
  | cons w rem =>
    have hr3 : l.drop pos = 32 :: (w ++ (sepW rem ++ r)) := by simpa [sepW_cons] using hpos
    have hr4 : l.drop (pos + 1) = w ++ (sepW rem ++ r) := drop_one hr3
    obtain ⟨hwa, hwb⟩ := h0 w (hdr ▸ List.mem_append_right _ (.head _))
    have hst2 : ∀ c r', sepW rem ++ r = c :: r' → isAtom c.toNat = false := sep_stop2 hs
    k_extra "my_steps"
    with_reducible rename News _ _ _ (_ :: _ :: _ :: _) => N7
    rw [List.push_toArray] at N7
    rw [sepW_cons] at hposl
    simp only [List.length_cons, List.length_append] at hposl
    exact ⟨_, _, _, _, rem.length, rfl, by assumption, Mine.News.unrot1 N7, Nat.lt_succ_self _, rfl, done ++ [w], rem, _, _, _, _, rfl, by simp [hdr], by rw [List.map_append]; exact strs_snoc hvs, drop_more hr4, by omega, rfl⟩
end
theorem say37 : True := by
  k_with "getMethod type:Exception" => (k_here; refine' method_type ?F ?X ?m (by decide +kernel) ?e ?h ?_; (case F => k_asm); (case X => k_asm); (case m => exact kitMeta_of (by decide +kernel)); (case e => k_dflt k_is); (case h => k_handed))
  k_with "call builtin:Exception.__init__" => (refine' wf_init ?F ?X ?N ?ne ?_; (case F => k_asm); (case X => k_asm); (case N => k_asm); (case ne => assumption); intro _ _ _ _; (try dsimp only))
  k_with "setAttr ref" => (first | (refine' setx_new ?F ?X ?N ?ne ?_; (case F => k_asm); (case X => k_asm); (case N => k_asm); (case ne => assumption); intro h'₉ _ _ _ F'₉ N'₉ _ _; (try dsimp only)) | (refine' setx_old ?F ?X ?N ?xd ?rd ?_; (case F => k_asm); (case X => k_asm); (case N => k_asm); (case xd => assumption); (case rd => assumption); intro h'₉ _ _ F'₉ N'₉; (try dsimp only)))
  k_with "call ref" => ((with_reducible show wpAny _ _ (call (Value.ref 95) _) _ _ _); k_dflt (refine' wf_call ?F ?X ?N ?z ?hi ?hf ?_; (case F => k_asm); (case X => k_asm); (case N => k_asm); (case z => exact Nat.le_of_ble_eq_true rfl); (case hi => k_is); (case hf => k_is); k_whole; intro _ _ _ _ _ _; k_extra "my_enter"))
  trivial
theorem walk_off26 : True := by
  w_top off
  trivial
section
theorem c_fault {w : World} {mean : ExcName → Option Value} {mg mb : Str → Option Value} (x d : Addr) (rest : List (Addr × Obj)) (l : List UInt8) (td : Tok) (i : Nat) (tp k1 k2 : Tok) (msg : Str) (tm : Tok) :
   Cl w mean mg mb 343 2 ((x, instObj 506 d) :: (d, wd w l td i tp k1 k2) :: rest) [.ref x, .str msg tm] (fun v news' => ∃ e t dd, v = .ref e ∧ news' = (e, exo t dd) :: (x, instObj 506 d) :: (d, wd w l td i tp k1 k2) :: rest ∧ ∀ p ∈ (x, instObj 506 d) :: (d, wd w l td i tp k1 k2) :: rest, p.1 ≠ e) := by
  unfold Cl
  k_fill
  intro dp un gd cn cs a ccd cl outer A₀ base h₀ L m s Q E B F X N T hk hd hu hret
  refine wpAny_call ?_
  k_dflt (refine' code_def (binds := [(Str.ofString "self", Value.ref x), (Str.ofString "what", Value.str msg tm)]) ?k1 ?k2 ?k3 ?k4 ?k5 ?kA ?kF ?kK ?k6 ?k7 ?k8 ?k9 ?kB ?_ ?c2 ?c3 ?c4 ?c5; (case kA => exact rfl); (case kF => exact rfl); (case kK => assumption); (case k1 => k_asm); (case k2 => k_asm); (case k3 => k_asm); (case k4 => k_asm); (case k5 => k_asm); (case k6 => k_is); (case k7 => k_is); (case k8 => k_extra "my_room"); (case k9 => first | exact BindsTo.of_eq rfl | exact binds_K (by k_in) rfl (by k_is) rfl rfl rfl); (case c5 => decide); (case kB => exact locs rfl); (case c2 => exact rfl); (case c3 => exact rfl); (case c4 => exact rfl); k_whole; intro g' L' h' FG' F' N' B' X' T'; (try dsimp only); (try k_lift B'); (try k_fold))
  k_extra "my_steps"
  rename News h₀ L _ ((_, exo _ (some _)) :: (_, _) :: _) => N7
  refine hret _ _ _ _ ⟨_, _, _, rfl, rfl, ?_⟩ (by k_asm) (Mine.News.drop2 N7)
  intro p hp
  rename ∀ p ∈ (x, instObj 506 d) :: (d, wd w l td i tp k1 k2) :: rest, p.1 < _ => hlt
  exact Nat.ne_of_lt (hlt p hp)
end
theorem walk_off27 : True := by
  w_top off
  trivial
section
theorem Cl.useF {w : World} {mean : ExcName → Option Value} {mg mb : Str → Option Value} {f : Addr} {k : Nat} {news : List (Addr × Obj)} {vs : List Value}
    {dp un : Nat} {gd : Option (List Code)} {cn : Str} {cs : Scope} {a : Addr} {ccd : Value} {cl : List (Str × Addr)} {outer : List Env} {A₀ : Around} {base h₀ : Heap} {L : Addr} {m : Str → Option Value} {s : Shared} {Q E : Value → Shared → Prop}
    (C : Cl w mean mg mb f k news vs (fun v news' => ∃ e t dd, v = .ref e ∧ news' = (e, exo t dd) :: news ∧ ∀ p ∈ news, p.1 ≠ e))
    (B : Below A₀ base outer h₀) (F : Fr h₀ L s.heap m) (X : (Mine.hd.heap_39 w.params).In h₀) (N : News h₀ L s.heap news)
    (T : Top Mine.hd.view_39 (looseW Mine.hd.view_39 [Str.ofString "PostError", Str.ofString "literal_octets", Str.ofString "string_octets", Str.ofString "astring_octets"]) mean mg mb h₀)
    (hk : cs.kind = .function) (hd : dp + k < recursionLimit) (hu : un + 8 * k < cLine)
    (ret : ∀ e t dd h' tk', Fr h₀ L h' m → News h₀ L h' ((e, exo t dd) :: news) → (∀ p ∈ news, p.1 ≠ e) → Q (.ref e) { s with heap := h', toks := tk' }) : wpAny (model PySem.Challenge.rw_pq0950_01.prog w) (ktrTop dp un gd cn cs L a ccd cl outer) (call (.ref f) vs) Q E s :=
  C.use B F X N T hk hd hu fun _ _ h' tk' ⟨e, t, dd, e1, e2, hne⟩ F' N' => by subst e1 e2; exact ret e t dd h' tk' F' N' hne
theorem say38 : True := by
  k_with "call ref" => ((with_reducible show wpAny _ _ (call (Value.ref 343) [Value.ref _, Value.str _ _]) _ _ _); k_dflt (refine' Cl.useF (c_fault _ _ _ _ _ _ _ _ _ _ _) ?k1 ?k2 ?k3 ?k4 ?k5 ?kK ?kd ?ku ?_; k_extra "U"); intro _ _ _ _ _ _ _ _; (try dsimp only))
  trivial
theorem c_need_x {w : World} {mean : ExcName → Option Value} {mg mb : Str → Option Value} (x d : Addr) (rest : List (Addr × Obj)) (hxd : @Ne Nat x d) (hne : ∀ p ∈ rest, p.1 ≠ d) (l r : List UInt8) (td : Tok) (i : Nat) (tp k1 k2 : Tok) (c : UInt8) (to : Tok) (msg : Str) (tm : Tok) (hl : l.length ≤ 16777216) (hr : l.drop i = r) (hq : r.head? ≠ some c) :
   ClX w mean mg mb 364 4 ((x, instObj 506 d) :: (d, wd w l td i tp k1 k2) :: rest) [.ref x, .bytes [c].toArray to, .str msg tm] rest := by
  unfold ClX
  k_fill
  intro dp un gd cn cs a ccd cl outer A₀ base h₀ L m s Q E B F X N T hk hd hu hret
  refine wpAny_call ?_
  k_dflt (refine' code_def (binds := [(Str.ofString "self", Value.ref x), (Str.ofString "octets", Value.bytes [c].toArray to), (Str.ofString "what", Value.str msg tm)]) ?k1 ?k2 ?k3 ?k4 ?k5 ?kA ?kF ?kK ?k6 ?k7 ?k8 ?k9 ?kB ?_ ?c2 ?c3 ?c4 ?c5; (case kA => exact rfl); (case kF => exact rfl); (case kK => assumption); (case k1 => k_asm); (case k2 => k_asm); (case k3 => k_asm); (case k4 => k_asm); (case k5 => k_asm); (case k6 => k_is); (case k7 => k_is); (case k8 => k_extra "my_room"); (case k9 => first | exact BindsTo.of_eq rfl | exact binds_K (by k_in) rfl (by k_is) rfl rfl rfl); (case c5 => decide); (case kB => exact locs rfl); (case c2 => exact rfl); (case c3 => exact rfl); (case c4 => exact rfl); k_whole; intro g' L' h' FG' F' N' B' X' T'; (try dsimp only); (try k_lift B'); (try k_fold))
  k_extra "my_steps"
  refine raise_x rfl ?_
  k_extra "my_steps"
  with_reducible rename Fr _ _ _ _ => F9
  with_reducible rename News _ _ _ (_ :: _ :: _ :: _) => N9
  with_reducible rename Frag.In _ _ => X9
  refine ⟨_, _, _, rfl, X9.keeps F9.keep, (N9 _ (.head _)).1, ?_⟩
  refine leave_firstX (keep := rest) (by assumption) F9 N9 (by assumption) (fun q hq => .tail _ (.tail _ hq)) ?_
  intro h9 R9 U9
  exact hret _ _ _ _ (by assumption) R9 U9
end
theorem say39 : True := by
  k_with "my_raise" => (refine raise_x rfl ?_; k_extra "my_steps"; (with_reducible rename Fr _ _ _ _ => F9₉); (with_reducible rename News _ _ _ (_ :: _ :: _ :: _) => N9₉); (with_reducible rename Frag.In _ _ => X9₉); refine ⟨_, _, _, rfl, X9₉.keeps F9₉.keep, (N9₉ _ (.head _)).1, ?_⟩)
  k_with "my_leave1" => ((with_reducible rename Fr _ _ _ _ => F9₉); (with_reducible rename News _ _ _ (_ :: _ :: _ :: _) => N9₉); refine leave_firstX (by assumption) F9₉ N9₉ (by assumption) (fun _ hq₉ => by first | exact .tail _ (.tail _ hq₉) | (simp only [List.mem_cons]; simp [hq₉])) ?_; intro _ _ _)
  k_with "my_leave" => (refine leave_onX (by assumption) (by assumption) (by assumption) (by assumption) (fun _ hq₉ => by first | exact hq₉ | (simp only [List.mem_cons]; simp [hq₉])) ?_; intro _ _ _)
  k_with "call ref" => ((with_reducible show wpAny _ _ (call (Value.ref 343) [Value.ref _, Value.str _ _]) _ _ _); k_dflt (refine' Cl.useF (c_fault _ _ _ _ _ _ _ _ _ _ _) ?k1 ?k2 ?k3 ?k4 ?k5 ?kK ?kd ?ku ?_; k_extra "U"); intro _ _ _ _ _ _ _ _; (try dsimp only))
  trivial
theorem walk_off28 : True := by
  w_top off
  trivial
section
theorem c_one_of {w : World} {mean : ExcName → Option Value} {mg mb : Str → Option Value} (news : List (Addr × Obj)) (y : Str) (ty tw : Tok) (x : Addr) (hm : (SWc.any (· == y)) = true) :
   Cl w mean mg mb 605 2 news [.str y ty, .str SW tw, .ref x] (StrR y news) := by
  unfold Cl
  k_fill
  intro dp un gd cn cs a ccd cl outer A₀ base h₀ L m s Q E B F X N T hk hd hu hret
  refine wpAny_call ?_
  k_dflt (refine' code_def (binds := [(Str.ofString "word", Value.str y ty), (Str.ofString "words", Value.str SW tw), (Str.ofString "wire", Value.ref x)]) ?k1 ?k2 ?k3 ?k4 ?k5 ?kA ?kF ?kK ?k6 ?k7 ?k8 ?k9 ?kB ?_ ?c2 ?c3 ?c4 ?c5; (case kA => exact rfl); (case kF => exact rfl); (case kK => assumption); (case k1 => k_asm); (case k2 => k_asm); (case k3 => k_asm); (case k4 => k_asm); (case k5 => k_asm); (case k6 => k_is); (case k7 => k_is); (case k8 => k_extra "my_room"); (case k9 => first | exact BindsTo.of_eq rfl | exact binds_K (by k_in) rfl (by k_is) rfl rfl rfl); (case c5 => decide); (case kB => exact locs rfl); (case c2 => exact rfl); (case c3 => exact rfl); (case c4 => exact rfl); k_whole; intro g' L' h' FG' F' N' B' X' T'; (try dsimp only); (try k_lift B'); (try k_fold))
  k_extra "my_steps"
  exact hret _ _ _ _ ⟨_, rfl, rfl⟩ (by k_asm) (fun p hp => by rename News h₀ L _ _ => N7; exact N7 p (.tail _ hp))
theorem c_one_of_x {w : World} {mean : ExcName → Option Value} {mg mb : Str → Option Value} (x d : Addr) (rest : List (Addr × Obj)) (hxd : @Ne Nat x d) (hne : ∀ p ∈ rest, p.1 ≠ d) (l : List UInt8) (td : Tok) (i : Nat) (tp k1 k2 : Tok) (y : Str) (ty tw : Tok) (hm : (SWc.any (· == y)) = false) :
   ClX w mean mg mb 605 5 ((x, instObj 506 d) :: (d, wd w l td i tp k1 k2) :: rest) [.str y ty, .str SW tw, .ref x] rest := by
  unfold ClX
  k_fill
  intro dp un gd cn cs a ccd cl outer A₀ base h₀ L m s Q E B F X N T hk hd hu hret
  refine wpAny_call ?_
  k_dflt (refine' code_def (binds := [(Str.ofString "word", Value.str y ty), (Str.ofString "words", Value.str SW tw), (Str.ofString "wire", Value.ref x)]) ?k1 ?k2 ?k3 ?k4 ?k5 ?kA ?kF ?kK ?k6 ?k7 ?k8 ?k9 ?kB ?_ ?c2 ?c3 ?c4 ?c5; (case kA => exact rfl); (case kF => exact rfl); (case kK => assumption); (case k1 => k_asm); (case k2 => k_asm); (case k3 => k_asm); (case k4 => k_asm); (case k5 => k_asm); (case k6 => k_is); (case k7 => k_is); (case k8 => k_extra "my_room"); (case k9 => first | exact BindsTo.of_eq rfl | exact binds_K (by k_in) rfl (by k_is) rfl rfl rfl); (case c5 => decide); (case kB => exact locs rfl); (case c2 => exact rfl); (case c3 => exact rfl); (case c4 => exact rfl); k_whole; intro g' L' h' FG' F' N' B' X' T'; (try dsimp only); (try k_lift B'); (try k_fold))
  k_extra "my_steps"
  refine raise_x rfl ?_
  k_extra "my_steps"
  with_reducible rename Fr _ _ _ _ => F9
  with_reducible rename News _ _ _ (_ :: _ :: _ :: _) => N9
  with_reducible rename Frag.In _ _ => X9
  refine ⟨_, _, _, rfl, X9.keeps F9.keep, (N9 _ (.head _)).1, ?_⟩
  refine leave_firstX (keep := rest) (by assumption) F9 N9 (by assumption) (fun q hq => by simp [hq]) ?_
  intro h9 R9 U9
  exact hret _ _ _ _ (by assumption) (by assumption) (by assumption)
end
theorem say40 : True := by
  k_with "call ref" => ((with_reducible show wpAny _ _ (call (Value.ref 490) [Value.ref _, Value.ref _]) _ _ _); k_dflt (refine' Cl.use (c_list_of _ _ _ _ ?e1 ?e2 ?e3 ?e4 _ _ _ _ _ _ _ _ _ ?e5 ?e6 ?e7 ?e8) ?k1 ?k2 ?k3 ?k4 ?k5 ?kK ?kd ?ku ?_; k_extra "U"; (case e1 => k_extra "my_neq"); (case e2 => k_extra "my_neq"); (case e3 => k_extra "my_neq"); (case e4 => k_all); (case e5 => omega); (case e6 => k_extra "my_at"); (case e7 => assumption); (case e8 => assumption)); rintro _ _ _ _ ⟨_, _, _, _, ev'₉, en'₉, _⟩ _ _; subst ev'₉ en'₉; (try dsimp only); (try k_fold))
  k_with "my_neq" => first | assumption | omega | exact Ne.symm (by assumption)
  k_with "call ref" => ((with_reducible show wpAny _ _ (call (Value.ref 605) [Value.str _ _, Value.str _ _, Value.ref _]) _ _ _); k_dflt (refine' Cl.useS (c_one_of _ _ _ _ _ ?hm) ?k1 ?k2 ?k3 ?k4 ?k5 ?kK ?kd ?ku ?_; k_extra "my_use"; (case hm => assumption)); intro _ _ _ _ _; (try dsimp only); (try k_fold))
  trivial
theorem walk_off29 : True := by
  w_top off
  trivial
section
theorem c_words_here {w : World} {mean : ExcName → Option Value} {mg mb : Str → Option Value} (x d : Addr) (rest : List (Addr × Obj)) (hxd : @Ne Nat x d) (hne : ∀ p ∈ rest, p.1 ≠ d) (l r w0 : List UInt8) (ws : List (List UInt8)) (td : Tok) (i : Nat) (tp k1 k2 tw : Tok) (hl : l.length ≤ 65536) (hr : l.drop i = 40 :: (w0 ++ (sepW ws ++ 41 :: r))) (h0 : ∀ w ∈ w0 :: ws, 0 < w.length ∧ ∀ c ∈ w, isAtom c.toNat = true) (hw : (w0 :: ws).length ≤ 100) (hm : ∀ w ∈ w0 :: ws, (SWc.any (· == strW w)) = true) :
   Cl w mean mg mb 624 10 ((x, instObj 506 d) :: (d, wd w l td i tp k1 k2) :: rest) [.ref x, .str SW tw] (fun v news' => ∃ t vs tp', v = .ref t ∧ news' = (t, tpo vs) :: (x, instObj 506 d) :: (d, wd w l td ((l.length - r.length : Nat) : Int) tp' k1 k2) :: rest ∧ StrsAre vs ((w0 :: ws).map strW)) := by
  unfold Cl
  k_fill
  intro dp un gd cn cs a ccd cl outer A₀ base h₀ L m s Q E B F X N T hk hd hu hret
  refine wpAny_call ?_
  k_dflt (refine' code_defC (binds := [(Str.ofString "wire", Value.ref x), (Str.ofString "words", Value.str SW tw)]) ?k1 ?k2 ?k3 ?k4 ?k5 ?kA ?kF ?kK ?k6 ?k7 ?k8 ?k9 ?kB ?kD ?_ ?c2 ?c3 ?c4; (case kA => exact rfl); (case kF => exact rfl); (case kK => assumption); (case k1 => k_asm); (case k2 => k_asm); (case k3 => k_asm); (case k4 => k_asm); (case k5 => k_asm); (case k6 => k_is); (case k7 => k_is); (case k8 => k_extra "my_room"); (case k9 => first | exact BindsTo.of_eq rfl | exact binds_K (by k_in) rfl (by k_is) rfl rfl rfl); (case kB => exact rfl); (case kD => decide +kernel); (case c2 => exact rfl); (case c3 => exact rfl); (case c4 => exact rfl); k_whole; intro g' L' h' tk' cells' FG' F' N' Y' B' X' T' l1; (try k_lt l1); k_cells Y'; (try simp only [List.cons_append, List.nil_append] at N'); (try dsimp only); (try k_lift B'); (try k_fold))
  k_extra "my_steps"
  with_reducible rename Fr _ _ _ _ => F9
  refine ListComp_L (cl := _) F9 (by with_unfolding_all rfl) (by decide) rfl (by decide) rfl ?_
  k_extra "my_steps"
  with_reducible rename News _ _ _ _ => N9
  rename StrsAre _ _ => S9
  have hln := strs_len S9
  refine ⟨_, _, _, _, rfl, rfl, by k_asm, N9, .head _, ?_, ?_⟩
  · rw [hln, sizeLine_eq, List.length_map]; omega
  rintro s₂ ⟨hh, rfl⟩
  refine rest_all (fun i v => ∃ n t, ((w0 :: ws).map strW)[i]? = some n ∧ v = .str n t) ?_ (.head _) ?_
  · intro i v I oI C oC D m₂ ys h tk E' hi hP hC hx F8 N8 off ne
    obtain ⟨y, ty, hy, rfl⟩ := strs_at S9 hP
    have hmy : (SWc.any (· == y)) = true := by
      obtain ⟨w', hw', rfl⟩ := List.mem_map.mp (List.mem_of_getElem? hy)
      exact hm w' hw'
    k_extra "my_steps"
    exact ⟨_, _, rfl, by k_asm, by k_asm, _, _, hy, rfl⟩
  · intro ys hl' hR D h tk F8 N8 o1
    k_extra "my_steps"
    with_reducible rename News h₀ L _ _ => N7
    exact hret _ _ _ _ ⟨_, ys, _, rfl, rfl, strs_of (by rw [hl', hln]) hR⟩ (by k_asm) (Mine.News.pickW N7)
end
theorem walk_off30 : True := by
  w_top off
  trivial
section
theorem c_name {w : World} {mean : ExcName → Option Value} {mg mb : Str → Option Value} (x d : Addr) (rest : List (Addr × Obj)) (hxd : @Ne Nat x d) (hne : ∀ p ∈ rest, p.1 ≠ d) (l told r : List UInt8) (y : Str) (td : Tok) (i : Nat) (tp k1 k2 : Tok) (hl : l.length ≤ 65536) (hr : l.drop i = told ++ r) (hs : ∀ c r', r = c :: r' → isAstring c.toNat = false) (ht : TokN told y) :
   ClN w mean mg mb 612 9 ((x, instObj 506 d) :: (d, wd w l td i tp k1 k2) :: rest) [.ref x] (WR w l td k1 k2 x d rest (StrV y) (i + told.length)) := by
  rcases ht with ⟨h0, h1, h2, h3⟩ | ⟨b, rfl, h0, h1, h2, h3⟩
  · exact (c_name_a x d rest hxd hne l told r y td i tp k1 k2 hl hr h0 h1 hs h2 h3).toN
  · rw [← pos_end hr (by simp [quoteB])]
    rw [quote_split] at hr
    exact c_name_q x d rest hxd hne l b r y td i tp k1 k2 hl h0 hr h1 h2 h3
theorem say41 : True := by
  k_with "n_calls" => ((with_reducible show wpN _ _ (call (Value.ref 612) [Value.ref _]) _ _); k_dflt (refine' ClN.use (c_name _ _ _ ?e1 ?e2 _ _ _ _ _ _ _ _ _ ?e3 ?e4 ?e5 ?e6) ?k1 ?k2 ?k3 ?k4 ?k5 ?kK ?kd ?ku ?_; k_extra "U"; (case e1 => k_extra "my_ne"); (case e2 => k_all); (case e3 => omega); (case e4 => k_extra "my_at"); (case e5 => assumption); (case e6 => assumption); ); rintro _ _ _ _ ⟨⟨_, ev'₉⟩, _, en'₉⟩ _ _; subst ev'₉ en'₉; (try dsimp only))
  k_with "call ref" => ((with_reducible show wpAny _ _ (call (Value.ref 624) [Value.ref _, Value.str _ _]) _ _ _); k_dflt (refine' Cl.use (c_words_here _ _ _ ?e1 ?e2 _ _ _ _ _ _ _ _ _ _ ?e3 ?e4 ?e5 ?e6 ?e7) ?k1 ?k2 ?k3 ?k4 ?k5 ?kK ?kd ?ku ?_; k_extra "U"; (case e1 => k_extra "my_ne"); (case e2 => k_all); (case e3 => omega); (case e4 => k_extra "my_at"); (case e5 => assumption); (case e6 => assumption); (case e7 => assumption)); rintro _ _ _ _ ⟨_, _, _, ev'₉, en'₉, _⟩ _ _; subst ev'₉ en'₉; (try dsimp only); (try k_fold))
  trivial
theorem c_read_status {w : World} {mean : ExcName → Option Value} {mg mb : Str → Option Value} (x d : Addr) (rest : List (Addr × Obj)) (hxd : @Ne Nat x d) (hne : ∀ p ∈ rest, p.1 ≠ d) (l told w0 r : List UInt8) (ws : List (List UInt8)) (y : Str) (td : Tok) (tp k1 k2 : Tok) (hl : l.length ≤ 65536) (hr : l = 32 :: (told ++ 32 :: 40 :: (w0 ++ (sepW ws ++ 41 :: r)))) (ht : TokN told y) (h0 : ∀ w ∈ w0 :: ws, 0 < w.length ∧ ∀ c ∈ w, isAtom c.toNat = true) (hw : (w0 :: ws).length ≤ 100) (hm : ∀ w ∈ w0 :: ws, (SWc.any (· == strW w)) = true) :
   ClN w mean mg mb 659 12 ((x, instObj 506 d) :: (d, wd w l td (0 : Nat) tp k1 k2) :: rest) [.ref x] (fun v news' ↦ ∃ a u vs t tp', v = .ref a ∧ news' = (a, tpo [.str y t, .ref u]) :: (u, tpo vs) :: (x, instObj 506 d) :: (d, wd w l td ((l.length - r.length : Nat) : Int) tp' k1 k2) :: rest ∧ StrsAre vs ((w0 :: ws).map strW)) := by
  unfold ClN
  k_fill
  intro dp un cn cs a ccd cl outer A₀ base h₀ L m s Q B F X N T hk hd hu hret
  refine wpN_call ?_
  k_dflt (refine' code_defN (binds := [(Str.ofString "wire", Value.ref x)]) ?k1 ?k2 ?k3 ?k4 ?k5 ?kA ?kF ?kK ?k6 ?k7 ?k8 ?k9 ?kB ?_ ?c2 ?c3 ?c4 ?c5; (case kA => exact rfl); (case kF => exact rfl); (case kK => assumption); (case k1 => k_asm); (case k2 => k_asm); (case k3 => k_asm); (case k4 => k_asm); (case k5 => k_asm); (case k6 => k_is); (case k7 => k_is); (case k8 => k_extra "my_room"); (case k9 => first | exact BindsTo.of_eq rfl | exact binds_K (by k_in) rfl (by k_is) rfl rfl rfl); (case c5 => decide); (case kB => exact locs rfl); (case c2 => exact rfl); (case c3 => exact rfl); (case c4 => exact rfl); k_whole; intro g' L' h' FG' F' N' B' X' T'; (try dsimp only); (try k_lift B'); (try k_fold))
  have r0 : l.drop 0 = 32 :: (told ++ 32 :: 40 :: (w0 ++ (sepW ws ++ 41 :: r))) := hr
  have r1 : l.drop (0 + 1) = told ++ 32 :: 40 :: (w0 ++ (sepW ws ++ 41 :: r)) := drop_one r0
  have r2 : l.drop (0 + 1 + told.length) = 32 :: 40 :: (w0 ++ (sepW ws ++ 41 :: r)) := drop_more r1
  have r3 : l.drop (0 + 1 + told.length + 1) = 40 :: (w0 ++ (sepW ws ++ 41 :: r)) := drop_one r2
  have hst : ∀ c r', 32 :: 40 :: (w0 ++ (sepW ws ++ 41 :: r)) = c :: r' → isAstring c.toNat = false := fun c r' e => by
    rw [← (List.cons.inj e).1]; decide +kernel
  have hok : ∀ z ∈ (w0 :: ws).map strW, PyData.strOk z = true := fun z hz => by
    obtain ⟨w', hw', rfl⟩ := List.mem_map.mp hz
    exact sw_ok (hm w' hw')
  k_extra "n_steps"
  rename StrsAre _ _ => S9
  refine wpN_of (tup_eq_nil (by k_asm) (.tail _ (.head _)) (.head _) S9 hok (by ke_room) ?_)
  k_extra "n_steps"
  with_reducible rename Fr g' _ _ _ => F7
  with_reducible rename News g' _ _ _ => N7
  exact ⟨_, _, _, F7, Mine.News.drop2 N7, fun F8 N8 => hret _ _ _ _ ⟨_, _, _, _, _, rfl, rfl, S9⟩ F8 N8⟩
end
theorem walk_off31 : True := by
  w_top off
  trivial
section
theorem say42 : True := by
  k_with "n_calls" => ((with_reducible show wpN _ _ (call (Value.ref 612) [Value.ref _]) _ _); k_dflt (refine' ClN.use (c_name _ _ _ ?e1 ?e2 _ _ _ _ _ _ _ _ _ ?e3 ?e4 ?e5 ?e6) ?k1 ?k2 ?k3 ?k4 ?k5 ?kK ?kd ?ku ?_; k_extra "U"; (case e1 => k_extra "my_ne"); (case e2 => k_all); (case e3 => omega); (case e4 => k_extra "my_at"); (case e5 => assumption); (case e6 => assumption); ); rintro _ _ _ _ ⟨⟨_, ev'₉⟩, _, en'₉⟩ _ _; subst ev'₉ en'₉; (try dsimp only))
  trivial
theorem c_read_rename {w : World} {mean : ExcName → Option Value} {mg mb : Str → Option Value} (x d : Addr) (rest : List (Addr × Obj)) (hxd : @Ne Nat x d) (hne : ∀ p ∈ rest, p.1 ≠ d) (l told told2 r : List UInt8) (y y2 : Str) (td : Tok) (tp k1 k2 : Tok) (hl : l.length ≤ 65536) (hr : l = 32 :: (told ++ 32 :: (told2 ++ r))) (hs : ∀ c r', r = c :: r' → isAstring c.toNat = false) (ht : TokN told y) (ht2 : TokN told2 y2) :
   ClN w mean mg mb 645 12 ((x, instObj 506 d) :: (d, wd w l td (0 : Nat) tp k1 k2) :: rest) [.ref x] (fun v news' ↦ ∃ a t t2 tp', v = .ref a ∧ news' = (a, tpo [.str y t, .str y2 t2]) :: (x, instObj 506 d) :: (d, wd w l td ((0 + 1 + told.length + 1 + told2.length : Nat) : Int) tp' k1 k2) :: rest) := by
  unfold ClN
  k_fill
  intro dp un cn cs a ccd cl outer A₀ base h₀ L m s Q B F X N T hk hd hu hret
  refine wpN_call ?_
  k_dflt (refine' code_defN (binds := [(Str.ofString "wire", Value.ref x)]) ?k1 ?k2 ?k3 ?k4 ?k5 ?kA ?kF ?kK ?k6 ?k7 ?k8 ?k9 ?kB ?_ ?c2 ?c3 ?c4 ?c5; (case kA => exact rfl); (case kF => exact rfl); (case kK => assumption); (case k1 => k_asm); (case k2 => k_asm); (case k3 => k_asm); (case k4 => k_asm); (case k5 => k_asm); (case k6 => k_is); (case k7 => k_is); (case k8 => k_extra "my_room"); (case k9 => first | exact BindsTo.of_eq rfl | exact binds_K (by k_in) rfl (by k_is) rfl rfl rfl); (case c5 => decide); (case kB => exact locs rfl); (case c2 => exact rfl); (case c3 => exact rfl); (case c4 => exact rfl); k_whole; intro g' L' h' FG' F' N' B' X' T'; (try dsimp only); (try k_lift B'); (try k_fold))
  have r0 : l.drop 0 = 32 :: (told ++ 32 :: (told2 ++ r)) := hr
  have r1 : l.drop (0 + 1) = told ++ 32 :: (told2 ++ r) := drop_one r0
  have r2 : l.drop (0 + 1 + told.length) = 32 :: (told2 ++ r) := drop_more r1
  have r3 : l.drop (0 + 1 + told.length + 1) = told2 ++ r := drop_one r2
  have hst : ∀ c r', 32 :: (told2 ++ r) = c :: r' → isAstring c.toNat = false := fun c r' e => by
    rw [← (List.cons.inj e).1]; decide +kernel
  k_extra "n_steps"
  with_reducible rename Fr g' _ _ _ => F7
  with_reducible rename News g' _ _ _ => N7
  exact ⟨_, _, _, F7, N7, fun F8 N8 => hret _ _ _ _ ⟨_, _, _, _, rfl, rfl⟩ F8 N8⟩
theorem say43 : True := by
  k_with "n_calls" => ((with_reducible show wpN _ _ (call (Value.ref 469) [Value.ref _]) _ _); k_dflt (refine' ClN.use (ClNC.toN (c_astring_qC _ _ _ ?e1 ?e2 _ _ _ _ _ _ _ _ ?e3 ?e5 ?e4 ?e6)) ?k1 ?k2 ?k3 ?k4 ?k5 ?kK ?kd ?ku ?_; k_extra "U"; (case e1 => k_extra "my_ne"); (case e2 => k_all); (case e3 => omega); (case e4 => k_extra "my_at"); (case e5 => first | omega | assumption); (case e6 => assumption); ); rintro _ _ _ _ ⟨_, _, ev'₉, en'₉⟩ _ _; subst ev'₉ en'₉; (try dsimp only))
  k_with "call ref" => ((with_reducible show wpAny _ _ (call (Value.ref 469) [Value.ref _]) _ _ _); k_dflt (refine' Cl.useWYW (ClC.toCl (c_astring_a _ _ _ ?e1 ?e2 _ _ _ _ _ _ _ _ ?e3 ?e4 ?e5 ?e6 ?e7)) ?k1 ?k2 ?k3 ?k4 ?k5 ?kK ?kd ?ku ?_; k_extra "U"; (case e1 => k_extra "my_ne"); (case e2 => k_all); (case e3 => omega); (case e4 => k_extra "my_at"); (case e5 => first | omega | assumption); (case e6 => assumption); (case e7 => assumption); ); intro _ _ _ _ _ _; (try dsimp only); (try k_fold))
  trivial
theorem c_read_login {w : World} {mean : ExcName → Option Value} {mg mb : Str → Option Value} (x d : Addr) (rest : List (Addr × Obj)) (hxd : @Ne Nat x d) (hne : ∀ p ∈ rest, p.1 ≠ d) (l aw b r : List UInt8) (td : Tok) (tp k1 k2 : Tok) (hl : l.length ≤ 65536) (hr : l = 32 :: (aw ++ 32 :: (quoteB b ++ r))) (h0 : 0 < aw.length) (ha : ∀ c ∈ aw, isAstring c.toNat = true) (hb : b.length ≤ 1000) (hq : ∀ c ∈ b, 1 ≤ c.toNat ∧ c.toNat ≤ 127 ∧ c.toNat ≠ 13 ∧ c.toNat ≠ 10) :
   ClN w mean mg mb 631 12 ((x, instObj 506 d) :: (d, wd w l td (0 : Nat) tp k1 k2) :: rest) [.ref x] (fun v news' ↦ ∃ a t t2 tp', v = .ref a ∧ news' = (a, tpo [.bytes aw.toArray t, .bytes b.toArray t2]) :: (x, instObj 506 d) :: (d, wd w l td ((l.length - r.length : Nat) : Int) tp' k1 k2) :: rest) := by
  unfold ClN
  k_fill
  intro dp un cn cs a ccd cl outer A₀ base h₀ L m s Q B F X N T hk hd hu hret
  refine wpN_call ?_
  k_dflt (refine' code_defN (binds := [(Str.ofString "wire", Value.ref x)]) ?k1 ?k2 ?k3 ?k4 ?k5 ?kA ?kF ?kK ?k6 ?k7 ?k8 ?k9 ?kB ?_ ?c2 ?c3 ?c4 ?c5; (case kA => exact rfl); (case kF => exact rfl); (case kK => assumption); (case k1 => k_asm); (case k2 => k_asm); (case k3 => k_asm); (case k4 => k_asm); (case k5 => k_asm); (case k6 => k_is); (case k7 => k_is); (case k8 => k_extra "my_room"); (case k9 => first | exact BindsTo.of_eq rfl | exact binds_K (by k_in) rfl (by k_is) rfl rfl rfl); (case c5 => decide); (case kB => exact locs rfl); (case c2 => exact rfl); (case c3 => exact rfl); (case c4 => exact rfl); k_whole; intro g' L' h' FG' F' N' B' X' T'; (try dsimp only); (try k_lift B'); (try k_fold))
  rw [quote_split] at hr
  have r0 : l.drop 0 = 32 :: (aw ++ 32 :: (34 :: (b.flatMap qItem ++ 34 :: r))) := hr
  have r1 : l.drop (0 + 1) = aw ++ 32 :: (34 :: (b.flatMap qItem ++ 34 :: r)) := drop_one r0
  have r2 : l.drop (0 + 1 + aw.length) = 32 :: (34 :: (b.flatMap qItem ++ 34 :: r)) := drop_more r1
  have r3 : l.drop (0 + 1 + aw.length + 1) = 34 :: (b.flatMap qItem ++ 34 :: r) := drop_one r2
  have hst : ∀ c r', 32 :: (34 :: (b.flatMap qItem ++ 34 :: r)) = c :: r' → isAstring c.toNat = false := fun c r' e => by
    rw [← (List.cons.inj e).1]; decide +kernel
  k_extra "n_steps"
  with_reducible rename Fr g' _ _ _ => F7
  with_reducible rename News g' _ _ _ => N7
  exact ⟨_, _, _, F7, N7, fun F8 N8 => hret _ _ _ _ ⟨_, _, _, _, rfl, rfl⟩ F8 N8⟩
end
theorem walk_off32 : True := by
  w_top off
  trivial
section
theorem say44 : True := by
  k_with "n_calls" => ((with_reducible show wpN _ _ (call (Value.ref 619) [Value.ref _, Value.ref _]) _ _); k_dflt (refine' ClN.use (c_patt_q _ _ _ _ ?e1 ?e0 ?e2 _ _ _ _ _ _ _ _ ?e3 ?e5 ?e4 ?e6 ?e7) ?k1 ?k2 ?k3 ?k4 ?k5 ?kK ?kd ?ku ?_; k_extra "U"; (case e1 => k_extra "my_ne"); (case e0 => k_extra "my_neq"); (case e2 => k_all); (case e3 => omega); (case e4 => k_extra "my_at"); (case e5 => first | omega | assumption); (case e6 => assumption); (case e7 => assumption)); rintro _ _ _ _ ⟨⟨_, ev'₉⟩, _, en'₉⟩ _ _; subst ev'₉ en'₉; (try dsimp only))
  k_with "call ref" => ((with_reducible show wpAny _ _ (call (Value.ref 619) [Value.ref _, Value.ref _]) _ _ _); k_dflt (refine' Cl.useWS (c_patt_p _ _ _ _ ?e1 ?e0 ?e2 _ _ _ _ _ _ _ _ ?e3 ?e4 ?e5 ?e6 ?e7 ?e8) ?k1 ?k2 ?k3 ?k4 ?k5 ?kK ?kd ?ku ?_; k_extra "U"; (case e1 => k_extra "my_ne"); (case e0 => k_extra "my_neq"); (case e2 => k_all); (case e3 => omega); (case e4 => k_extra "my_at"); (case e5 => first | omega | assumption); (case e6 => assumption); (case e7 => assumption); (case e8 => assumption)); intro _ _ _ _ _ _; (try dsimp only))
  trivial
theorem c_read_list {w : World} {mean : ExcName → Option Value} {mg mb : Str → Option Value} (x d : Addr) (rest : List (Addr × Obj)) (hxd : @Ne Nat x d) (hne : ∀ p ∈ rest, p.1 ≠ d) (l b aw r : List UInt8) (td : Tok) (tp k1 k2 : Tok) (hl : l.length ≤ 65536) (hr : l = 32 :: (quoteB b ++ 32 :: (aw ++ r))) (hb : b.length ≤ 1000) (hq : ∀ c ∈ b, 1 ≤ c.toNat ∧ c.toNat ≤ 127 ∧ c.toNat ≠ 13 ∧ c.toNat ≠ 10) (hpl : ∀ c ∈ b, isPlain c.toNat = true ∧ c ≠ 38) (h0 : 0 < aw.length) (ha : ∀ c ∈ aw, isPattern c.toNat = true) (hs : ∀ c r', r = c :: r' → isPattern c.toNat = false) (hpl2 : ∀ c ∈ aw, isPlain c.toNat = true ∧ c ≠ 38) :
   ClN w mean mg mb 652 13 ((x, instObj 506 d) :: (d, wd w l td (0 : Nat) tp k1 k2) :: rest) [.ref x] (fun v news' ↦ ∃ a t t2 tp', v = .ref a ∧ news' = (a, tpo [.str (mkS (b.map UInt8.toNat)) t, .str (mkS (aw.map UInt8.toNat)) t2]) :: (x, instObj 506 d) :: (d, wd w l td ((l.length - (32 :: (aw ++ r)).length + 1 + aw.length : Nat) : Int) tp' k1 k2) :: rest) := by
  unfold ClN
  k_fill
  intro dp un cn cs a ccd cl outer A₀ base h₀ L m s Q B F X N T hk hd hu hret
  refine wpN_call ?_
  k_dflt (refine' code_defN (binds := [(Str.ofString "wire", Value.ref x)]) ?k1 ?k2 ?k3 ?k4 ?k5 ?kA ?kF ?kK ?k6 ?k7 ?k8 ?k9 ?kB ?_ ?c2 ?c3 ?c4 ?c5; (case kA => exact rfl); (case kF => exact rfl); (case kK => assumption); (case k1 => k_asm); (case k2 => k_asm); (case k3 => k_asm); (case k4 => k_asm); (case k5 => k_asm); (case k6 => k_is); (case k7 => k_is); (case k8 => k_extra "my_room"); (case k9 => first | exact BindsTo.of_eq rfl | exact binds_K (by k_in) rfl (by k_is) rfl rfl rfl); (case c5 => decide); (case kB => exact locs rfl); (case c2 => exact rfl); (case c3 => exact rfl); (case c4 => exact rfl); k_whole; intro g' L' h' FG' F' N' B' X' T'; (try dsimp only); (try k_lift B'); (try k_fold))
  rw [quote_split] at hr
  have r0 : l.drop 0 = 32 :: (34 :: (b.flatMap qItem ++ 34 :: 32 :: (aw ++ r))) := hr
  have r1 : l.drop (0 + 1) = 34 :: (b.flatMap qItem ++ 34 :: 32 :: (aw ++ r)) := drop_one r0
  have r2 : l.drop (l.length - (32 :: (aw ++ r)).length) = 32 :: (aw ++ r) := by
    have := drop_more (a := quoteB b) (by rw [quote_split]; exact r1)
    have e := pos_end (told := quoteB b) (by rw [quote_split]; exact r1) (by simp [quoteB])
    rw [e]; exact this
  have r3 : l.drop (l.length - (32 :: (aw ++ r)).length + 1) = aw ++ r := drop_one r2
  k_extra "n_steps"
  with_reducible rename Fr g' _ _ _ => F7
  with_reducible rename News g' _ _ _ => N7
  exact ⟨_, _, _, F7, Mine.News.keep3 N7, fun F8 N8 => hret _ _ _ _ ⟨_, _, _, _, rfl, rfl⟩ F8 N8⟩
end
theorem say45 : True := by
  k_with "call ref" => ((with_reducible show wpAny _ _ (call (Value.ref 364) [Value.ref _, Value.bytes _ _, Value.str _ _]) _ _ _); k_dflt (refine' ClX.use (c_need_x _ _ _ ?e1 ?e2 _ _ _ _ _ _ _ _ _ _ _ ?e3 ?e4 ?e5) ?k1 ?k2 ?k3 ?k4 ?k5 ?kK ?kd ?ku ?_; k_extra "U"; (case e1 => k_extra "my_ne"); (case e2 => k_all); (case e3 => omega); (case e4 => k_extra "my_at"); (case e5 => k_extra "my_head"); ); intro _ _ _ _ _ _ _; (try dsimp only))
  trivial
theorem walk_off33 : True := by
  w_top off
  trivial
section
theorem c_space_x {w : World} {mean : ExcName → Option Value} {mg mb : Str → Option Value} (x d : Addr) (rest : List (Addr × Obj)) (hxd : @Ne Nat x d) (hne : ∀ p ∈ rest, p.1 ≠ d) (l r : List UInt8) (td : Tok) (i : Nat) (tp k1 k2 : Tok) (hl : l.length ≤ 16777216) (hr : l.drop i = r) (hq : r.head? ≠ some 32) :
   ClX w mean mg mb 371 5 ((x, instObj 506 d) :: (d, wd w l td i tp k1 k2) :: rest) [.ref x] rest := by
  unfold ClX
  k_fill
  intro dp un gd cn cs a ccd cl outer A₀ base h₀ L m s Q E B F X N T hk hd hu hret
  refine wpAny_call ?_
  k_dflt (refine' code_def (binds := [(Str.ofString "self", Value.ref x)]) ?k1 ?k2 ?k3 ?k4 ?k5 ?kA ?kF ?kK ?k6 ?k7 ?k8 ?k9 ?kB ?_ ?c2 ?c3 ?c4 ?c5; (case kA => exact rfl); (case kF => exact rfl); (case kK => assumption); (case k1 => k_asm); (case k2 => k_asm); (case k3 => k_asm); (case k4 => k_asm); (case k5 => k_asm); (case k6 => k_is); (case k7 => k_is); (case k8 => k_extra "my_room"); (case k9 => first | exact BindsTo.of_eq rfl | exact binds_K (by k_in) rfl (by k_is) rfl rfl rfl); (case c5 => decide); (case kB => exact locs rfl); (case c2 => exact rfl); (case c3 => exact rfl); (case c4 => exact rfl); k_whole; intro g' L' h' FG' F' N' B' X' T'; (try dsimp only); (try k_lift B'); (try k_fold))
  k_extra "my_steps"
  k_extra "my_leave"
  exact hret _ _ _ _ (by assumption) (by assumption) (by assumption)
theorem c_run0 {w : World} {mean : ExcName → Option Value} {mg mb : Str → Option Value} (x d : Addr) (rest : List (Addr × Obj)) (hxd : @Ne Nat x d) (hne : ∀ p ∈ rest, p.1 ≠ d) (l r : List UInt8) (td : Tok) (i : Nat) (tp k1 k2 : Tok) (hl : l.length ≤ 65536) (hr : l.drop i = r) (hs : ∀ c r', r = c :: r' → isAtom c.toNat = false) :
   Cl w mean mg mb 385 3 ((x, instObj 506 d) :: (d, wd w l td i tp k1 k2) :: rest) [.ref x, .ref 279] (WR w l td k1 k2 x d rest (fun v ↦ ∃ t, v = .bytes ([] : List UInt8).toArray t) (i + ([] : List UInt8).length)) :=
  c_run279 x d rest hxd hne l [] r td i tp k1 k2 (by omega) hr (fun _ h => nomatch h) hs
theorem say46 : True := by
  k_with "call ref" => ((with_reducible show wpAny _ _ (call (Value.ref 385) [Value.ref _, Value.ref 279]) _ _ _); k_dflt (refine' Cl.useWY (c_run0 _ _ _ ?e1 ?e2 _ _ _ _ _ _ _ ?e3 ?e4 ?e5) ?k1 ?k2 ?k3 ?k4 ?k5 ?kK ?kd ?ku ?_; k_extra "U"; (case e1 => k_extra "my_ne"); (case e2 => k_all); (case e3 => omega); (case e4 => k_extra "my_at"); (case e5 => assumption); ); intro _ _ _ _ _ _; (try dsimp only); (try k_fold))
  trivial
theorem c_word_of_x {w : World} {mean : ExcName → Option Value} {mg mb : Str → Option Value} (x d : Addr) (rest : List (Addr × Obj)) (hxd : @Ne Nat x d) (hne : ∀ p ∈ rest, p.1 ≠ d) (l r : List UInt8) (td : Tok) (i : Nat) (tp k1 k2 : Tok) (msg : Str) (tm : Tok) (hl : l.length ≤ 65536) (hr : l.drop i = r) (hs : ∀ c r', r = c :: r' → isAtom c.toNat = false) :
   ClX w mean mg mb 392 6 ((x, instObj 506 d) :: (d, wd w l td i tp k1 k2) :: rest) [.ref x, .ref 279, .str msg tm] rest := by
  unfold ClX
  k_fill
  intro dp un gd cn cs a ccd cl outer A₀ base h₀ L m s Q E B F X N T hk hd hu hret
  refine wpAny_call ?_
  k_dflt (refine' code_def (binds := [(Str.ofString "self", Value.ref x), (Str.ofString "fits", Value.ref 279), (Str.ofString "what", Value.str msg tm)]) ?k1 ?k2 ?k3 ?k4 ?k5 ?kA ?kF ?kK ?k6 ?k7 ?k8 ?k9 ?kB ?_ ?c2 ?c3 ?c4 ?c5; (case kA => exact rfl); (case kF => exact rfl); (case kK => assumption); (case k1 => k_asm); (case k2 => k_asm); (case k3 => k_asm); (case k4 => k_asm); (case k5 => k_asm); (case k6 => k_is); (case k7 => k_is); (case k8 => k_extra "my_room"); (case k9 => first | exact BindsTo.of_eq rfl | exact binds_K (by k_in) rfl (by k_is) rfl rfl rfl); (case c5 => decide); (case kB => exact locs rfl); (case c2 => exact rfl); (case c3 => exact rfl); (case c4 => exact rfl); k_whole; intro g' L' h' FG' F' N' B' X' T'; (try dsimp only); (try k_lift B'); (try k_fold))
  k_extra "my_steps"
  refine raise_x rfl ?_
  k_extra "my_steps"
  with_reducible rename Fr _ _ _ _ => F9
  with_reducible rename News _ _ _ (_ :: _ :: _ :: _) => N9
  with_reducible rename Frag.In _ _ => X9
  refine ⟨_, _, _, rfl, X9.keeps F9.keep, (N9 _ (.head _)).1, ?_⟩
  refine leave_firstX (keep := rest) (by assumption) F9 N9 (by assumption) (fun q hq => by simp [hq]) ?_
  intro h9 R9 U9
  exact hret _ _ _ _ (by assumption) R9 U9
theorem say47 : True := by
  k_with "call ref" => ((with_reducible show wpAny _ _ (call (Value.ref 392) [Value.ref _, Value.ref 279, Value.str _ _]) _ _ _); k_dflt (refine' ClX.use (c_word_of_x _ _ _ ?e1 ?e2 _ _ _ _ _ _ _ _ _ ?e3 ?e4 ?e5) ?k1 ?k2 ?k3 ?k4 ?k5 ?kK ?kd ?ku ?_; k_extra "U"; (case e1 => k_extra "my_ne"); (case e2 => k_all); (case e3 => omega); (case e4 => k_extra "my_at"); (case e5 => assumption); ); intro _ _ _ _ _ _ _; (try dsimp only))
  trivial
theorem c_atom_x {w : World} {mean : ExcName → Option Value} {mg mb : Str → Option Value} (x d : Addr) (rest : List (Addr × Obj)) (hxd : @Ne Nat x d) (hne : ∀ p ∈ rest, p.1 ≠ d) (l r : List UInt8) (td : Tok) (i : Nat) (tp k1 k2 : Tok) (hl : l.length ≤ 65536) (hr : l.drop i = r) (hs : ∀ c r', r = c :: r' → isAtom c.toNat = false) :
   ClX w mean mg mb 399 7 ((x, instObj 506 d) :: (d, wd w l td i tp k1 k2) :: rest) [.ref x] rest := by
  unfold ClX
  k_fill
  intro dp un gd cn cs a ccd cl outer A₀ base h₀ L m s Q E B F X N T hk hd hu hret
  refine wpAny_call ?_
  k_dflt (refine' code_def (binds := [(Str.ofString "self", Value.ref x)]) ?k1 ?k2 ?k3 ?k4 ?k5 ?kA ?kF ?kK ?k6 ?k7 ?k8 ?k9 ?kB ?_ ?c2 ?c3 ?c4 ?c5; (case kA => exact rfl); (case kF => exact rfl); (case kK => assumption); (case k1 => k_asm); (case k2 => k_asm); (case k3 => k_asm); (case k4 => k_asm); (case k5 => k_asm); (case k6 => k_is); (case k7 => k_is); (case k8 => k_extra "my_room"); (case k9 => first | exact BindsTo.of_eq rfl | exact binds_K (by k_in) rfl (by k_is) rfl rfl rfl); (case c5 => decide); (case kB => exact locs rfl); (case c2 => exact rfl); (case c3 => exact rfl); (case c4 => exact rfl); k_whole; intro g' L' h' FG' F' N' B' X' T'; (try dsimp only); (try k_lift B'); (try k_fold))
  k_extra "my_steps"
  k_extra "my_leave"
  exact hret _ _ _ _ (by assumption) (by assumption) (by assumption)
theorem say48 : True := by
  k_with "call ref" => ((with_reducible show wpAny _ _ (call (Value.ref 399) [Value.ref _]) _ _ _); k_dflt (refine' ClX.use (c_atom_x _ _ _ ?e1 ?e2 _ _ _ _ _ _ _ ?e3 ?e4 ?e5) ?k1 ?k2 ?k3 ?k4 ?k5 ?kK ?kd ?ku ?_; k_extra "U"; (case e1 => k_extra "my_ne"); (case e2 => k_all); (case e3 => omega); (case e4 => k_extra "my_at"); (case e5 => assumption); ); intro _ _ _ _ _ _ _; (try dsimp only))
  trivial
theorem c_word_xC {w : World} {mean : ExcName → Option Value} {mg mb : Str → Option Value} (x d : Addr) (rest : List (Addr × Obj)) (hxd : @Ne Nat x d) (hne : ∀ p ∈ rest, p.1 ≠ d) (l r : List UInt8) (td : Tok) (i : Nat) (tp k1 k2 : Tok) (hl : l.length ≤ 65536) (hr : l.drop i = r) (hs : ∀ c r', r = c :: r' → isAtom c.toNat = false) :
   ClXC w mean mg mb 406 8 ((x, instObj 506 d) :: (d, wd w l td i tp k1 k2) :: rest) [.ref x] rest := by
  unfold ClXC
  k_fill
  intro dp un gd cn cs a ccd cl outer A₀ base h₀ L m s RR B F X N T hk hd hu hret
  k_dflt (refine' code_def (binds := [(Str.ofString "self", Value.ref x)]) ?k1 ?k2 ?k3 ?k4 ?k5 ?kA ?kF ?kK ?k6 ?k7 ?k8 ?k9 ?kB ?_ ?c2 ?c3 ?c4 ?c5; (case kA => exact rfl); (case kF => exact rfl); (case kK => assumption); (case k1 => k_asm); (case k2 => k_asm); (case k3 => k_asm); (case k4 => k_asm); (case k5 => k_asm); (case k6 => k_is); (case k7 => k_is); (case k8 => k_extra "my_room"); (case k9 => first | exact BindsTo.of_eq rfl | exact binds_K (by k_in) rfl (by k_is) rfl rfl rfl); (case c5 => decide); (case kB => exact locs rfl); (case c2 => exact rfl); (case c3 => exact rfl); (case c4 => exact rfl); k_whole; intro g' L' h' FG' F' N' B' X' T'; (try dsimp only); (try k_lift B'); (try k_fold))
  k_extra "my_steps"
  k_extra "my_leave"
  exact hret _ _ _ _ (by assumption) (by assumption) (by assumption)
end
theorem walk_off34 : True := by
  w_top off
  trivial
section
theorem say49 : True := by
  k_with "call ref" => ((with_reducible show wpAny _ _ (call (Value.ref _) []) _ _ _); k_dflt (refine' ClXC.useM (c_word_xC _ _ _ ?e1 ?e2 _ _ _ _ _ _ _ ?e3 ?e4 ?e5) ?hq ?k1 ?k2 ?k3 ?k4 ?k5 ?kK ?kd ?ku ?_; k_extra "U"; (case hq => k_extra "my_mem"); (case e1 => k_extra "my_ne"); (case e2 => k_all); (case e3 => omega); (case e4 => k_extra "my_at"); (case e5 => assumption)); intro _ _ _ _ _ _ _; (try dsimp only))
  k_with "call ref" => ((with_reducible show wpAny _ _ (call (Value.ref _) []) _ _ _); k_dflt (refine' ClC.useMWS (c_wordC _ _ _ ?e1 ?e2 _ _ _ _ _ _ _ _ ?e3 ?e4 ?e5 ?e6 ?e7) ?hq ?k1 ?k2 ?k3 ?k4 ?k5 ?kK ?kd ?ku ?_; k_extra "U"; (case hq => k_extra "my_mem"); (case e1 => k_extra "my_ne"); (case e2 => k_all); (case e3 => omega); (case e4 => k_extra "my_at"); (case e5 => first | omega | assumption); (case e6 => assumption); (case e7 => assumption); ); intro _ _ _ _ _ _; (try dsimp only); (try k_fold))
  k_with "call ref" => ((with_reducible show wpAny _ _ (call (Value.ref 371) [Value.ref _]) _ _ _); k_dflt (refine' ClX.use (c_space_x _ _ _ ?e1 ?e2 _ _ _ _ _ _ _ ?e3 ?e4 ?e5) ?k1 ?k2 ?k3 ?k4 ?k5 ?kK ?kd ?ku ?_; k_extra "U"; (case e1 => k_extra "my_ne"); (case e2 => k_all); (case e3 => omega); (case e4 => k_extra "my_at"); (case e5 => k_extra "my_head"); ); intro _ _ _ _ _ _ _; (try dsimp only))
  trivial
theorem c_list_x1 {w : World} {mean : ExcName → Option Value} {mg mb : Str → Option Value} (x d q : Addr) (rest : List (Addr × Obj)) (hxd : @Ne Nat x d) (hqd : @Ne Nat q d) (hqx : @Ne Nat q x) (hne : ∀ p ∈ rest, p.1 ≠ d) (l : List UInt8) (td : Tok) (i : Nat) (tp k1 k2 : Tok) (r : List UInt8) (hl : l.length ≤ 65536) (hr : l.drop i = r) (hq1 : r.head? ≠ some 40) :
   ClX w mean mg mb 490 7 ((x, instObj 506 d) :: (d, wd w l td i tp k1 k2) :: (q, methodObj (.ref 406) (.ref x)) :: rest) [.ref x, .ref q] rest := by
  unfold ClX
  k_fill
  intro dp un gd cn cs a ccd cl outer A₀ base h₀ L m s Q E B F X N T hk hd hu hret
  refine wpAny_call ?_
  k_dflt (refine' code_def (binds := [(Str.ofString "self", Value.ref x), (Str.ofString "read", Value.ref q)]) ?k1 ?k2 ?k3 ?k4 ?k5 ?kA ?kF ?kK ?k6 ?k7 ?k8 ?k9 ?kB ?_ ?c2 ?c3 ?c4 ?c5; (case kA => exact rfl); (case kF => exact rfl); (case kK => assumption); (case k1 => k_asm); (case k2 => k_asm); (case k3 => k_asm); (case k4 => k_asm); (case k5 => k_asm); (case k6 => k_is); (case k7 => k_is); (case k8 => k_extra "my_room"); (case k9 => first | exact BindsTo.of_eq rfl | exact binds_K (by k_in) rfl (by k_is) rfl rfl rfl); (case c5 => decide); (case kB => exact locs rfl); (case c2 => exact rfl); (case c3 => exact rfl); (case c4 => exact rfl); k_whole; intro g' L' h' FG' F' N' B' X' T'; (try dsimp only); (try k_lift B'); (try k_fold))
  have hne' : ∀ p ∈ (q, methodObj (.ref 406) (.ref x)) :: rest, p.1 ≠ d := fun p hp => by
    rcases List.mem_cons.mp hp with rfl | hp
    · exact hqd
    · exact hne p hp
  k_extra "my_steps"
  refine leave_onX (keep := rest) (by assumption) (by assumption) (by assumption) (by assumption) (fun q hq => by simp [hq]) ?_
  intro h9 R9 U9
  exact hret _ _ _ _ (by assumption) R9 U9
theorem c_list_e {w : World} {mean : ExcName → Option Value} {mg mb : Str → Option Value} (x d q : Addr) (rest : List (Addr × Obj)) (hxd : @Ne Nat x d) (hqd : @Ne Nat q d) (hqx : @Ne Nat q x) (hne : ∀ p ∈ rest, p.1 ≠ d) (l : List UInt8) (td : Tok) (i : Nat) (tp k1 k2 : Tok) (r : List UInt8) (hl : l.length ≤ 65536) (hr : l.drop i = 40 :: 41 :: r) :
   Cl w mean mg mb 490 4 ((x, instObj 506 d) :: (d, wd w l td i tp k1 k2) :: (q, methodObj (.ref 406) (.ref x)) :: rest) [.ref x, .ref q] (fun v news' ↦ ∃ ls nn tp', v = .ref ls ∧ news' = (ls, listOf ([] : List Value).toArray nn) :: (x, instObj 506 d) :: (d, wd w l td ((i + 2 : Nat) : Int) tp' k1 k2) :: (q, methodObj (.ref 406) (.ref x)) :: rest) := by
  unfold Cl
  k_fill
  intro dp un gd cn cs a ccd cl outer A₀ base h₀ L m s Q E B F X N T hk hd hu hret
  refine wpAny_call ?_
  k_dflt (refine' code_def (binds := [(Str.ofString "self", Value.ref x), (Str.ofString "read", Value.ref q)]) ?k1 ?k2 ?k3 ?k4 ?k5 ?kA ?kF ?kK ?k6 ?k7 ?k8 ?k9 ?kB ?_ ?c2 ?c3 ?c4 ?c5; (case kA => exact rfl); (case kF => exact rfl); (case kK => assumption); (case k1 => k_asm); (case k2 => k_asm); (case k3 => k_asm); (case k4 => k_asm); (case k5 => k_asm); (case k6 => k_is); (case k7 => k_is); (case k8 => k_extra "my_room"); (case k9 => first | exact BindsTo.of_eq rfl | exact binds_K (by k_in) rfl (by k_is) rfl rfl rfl); (case c5 => decide); (case kB => exact locs rfl); (case c2 => exact rfl); (case c3 => exact rfl); (case c4 => exact rfl); k_whole; intro g' L' h' FG' F' N' B' X' T'; (try dsimp only); (try k_lift B'); (try k_fold))
  have hne' : ∀ p ∈ (q, methodObj (.ref 406) (.ref x)) :: rest, p.1 ≠ d := fun p hp => by
    rcases List.mem_cons.mp hp with rfl | hp
    · exact hqd
    · exact hne p hp
  have hr1 : l.drop (i + 1) = 41 :: r := drop_one hr
  k_extra "my_steps"
  with_reducible rename News h₀ L _ _ => N7
  exact hret _ _ _ _ ⟨_, _, _, rfl, rfl⟩ (by k_asm) (Mine.News.unrot1 N7)
theorem c_list_x2 {w : World} {mean : ExcName → Option Value} {mg mb : Str → Option Value} (x d q : Addr) (rest : List (Addr × Obj)) (hxd : @Ne Nat x d) (hqd : @Ne Nat q d) (hqx : @Ne Nat q x) (hne : ∀ p ∈ rest, p.1 ≠ d) (l : List UInt8) (td : Tok) (i : Nat) (tp k1 k2 : Tok) (w0 r : List UInt8) (hl : l.length ≤ 65536) (hr : l.drop i = 40 :: (w0 ++ r)) (h0 : 0 < w0.length) (ha : ∀ c ∈ w0, isAtom c.toNat = true) (hs : ∀ c r', r = c :: r' → isAtom c.toNat = false) (hq1 : r.head? ≠ some 41) (hq2 : r.head? ≠ some 32) :
   ClX w mean mg mb 490 9 ((x, instObj 506 d) :: (d, wd w l td i tp k1 k2) :: (q, methodObj (.ref 406) (.ref x)) :: rest) [.ref x, .ref q] rest := by
  unfold ClX
  k_fill
  intro dp un gd cn cs a ccd cl outer A₀ base h₀ L m s Q E B F X N T hk hd hu hret
  refine wpAny_call ?_
  k_dflt (refine' code_def (binds := [(Str.ofString "self", Value.ref x), (Str.ofString "read", Value.ref q)]) ?k1 ?k2 ?k3 ?k4 ?k5 ?kA ?kF ?kK ?k6 ?k7 ?k8 ?k9 ?kB ?_ ?c2 ?c3 ?c4 ?c5; (case kA => exact rfl); (case kF => exact rfl); (case kK => assumption); (case k1 => k_asm); (case k2 => k_asm); (case k3 => k_asm); (case k4 => k_asm); (case k5 => k_asm); (case k6 => k_is); (case k7 => k_is); (case k8 => k_extra "my_room"); (case k9 => first | exact BindsTo.of_eq rfl | exact binds_K (by k_in) rfl (by k_is) rfl rfl rfl); (case c5 => decide); (case kB => exact locs rfl); (case c2 => exact rfl); (case c3 => exact rfl); (case c4 => exact rfl); k_whole; intro g' L' h' FG' F' N' B' X' T'; (try dsimp only); (try k_lift B'); (try k_fold))
  have hne' : ∀ p ∈ (q, methodObj (.ref 406) (.ref x)) :: rest, p.1 ≠ d := fun p hp => by
    rcases List.mem_cons.mp hp with rfl | hp
    · exact hqd
    · exact hne p hp
  have hr1 : l.drop (i + 1) = w0 ++ r := drop_one hr
  have hr2 : l.drop (i + 1 + w0.length) = r := drop_more hr1
  have hh1 : (w0 ++ r).head? ≠ some 41 := head_atom h0 ha
  k_extra "my_steps"
  with_reducible rename Fr _ _ _ _ => F9
  with_reducible rename News _ _ _ _ => N9
  obtain ⟨ns9, en9⟩ := nmN N9
  rw [← en9] at N9
  refine While_K (fun n ns => ns = ns9) 1 F9 N9 rfl ?_ (by passes_own)
  rintro n ns h₁ tk₁ F1 N1 rfl
  clear F9 N9
  subst en9
  k_extra "my_steps"
  refine leave_onX (keep := rest) (by assumption) (by assumption) (by assumption) (by assumption) (fun q hq => by simp [hq]) ?_
  intro h9 R9 U9
  exact hret _ _ _ _ (by assumption) R9 U9
theorem c_list_x3 {w : World} {mean : ExcName → Option Value} {mg mb : Str → Option Value} (x d q : Addr) (rest : List (Addr × Obj)) (hxd : @Ne Nat x d) (hqd : @Ne Nat q d) (hqx : @Ne Nat q x) (hne : ∀ p ∈ rest, p.1 ≠ d) (l : List UInt8) (td : Tok) (i : Nat) (tp k1 k2 : Tok) (w0 r : List UInt8) (hl : l.length ≤ 65536) (hr : l.drop i = 40 :: (w0 ++ (32 :: r))) (h0 : 0 < w0.length) (ha : ∀ c ∈ w0, isAtom c.toNat = true) (hs : ∀ c r', r = c :: r' → isAtom c.toNat = false) :
   ClX w mean mg mb 490 11 ((x, instObj 506 d) :: (d, wd w l td i tp k1 k2) :: (q, methodObj (.ref 406) (.ref x)) :: rest) [.ref x, .ref q] rest := by
  unfold ClX
  k_fill
  intro dp un gd cn cs a ccd cl outer A₀ base h₀ L m s Q E B F X N T hk hd hu hret
  refine wpAny_call ?_
  k_dflt (refine' code_def (binds := [(Str.ofString "self", Value.ref x), (Str.ofString "read", Value.ref q)]) ?k1 ?k2 ?k3 ?k4 ?k5 ?kA ?kF ?kK ?k6 ?k7 ?k8 ?k9 ?kB ?_ ?c2 ?c3 ?c4 ?c5; (case kA => exact rfl); (case kF => exact rfl); (case kK => assumption); (case k1 => k_asm); (case k2 => k_asm); (case k3 => k_asm); (case k4 => k_asm); (case k5 => k_asm); (case k6 => k_is); (case k7 => k_is); (case k8 => k_extra "my_room"); (case k9 => first | exact BindsTo.of_eq rfl | exact binds_K (by k_in) rfl (by k_is) rfl rfl rfl); (case c5 => decide); (case kB => exact locs rfl); (case c2 => exact rfl); (case c3 => exact rfl); (case c4 => exact rfl); k_whole; intro g' L' h' FG' F' N' B' X' T'; (try dsimp only); (try k_lift B'); (try k_fold))
  have hne' : ∀ p ∈ (q, methodObj (.ref 406) (.ref x)) :: rest, p.1 ≠ d := fun p hp => by
    rcases List.mem_cons.mp hp with rfl | hp
    · exact hqd
    · exact hne p hp
  have hr1 : l.drop (i + 1) = w0 ++ (32 :: r) := drop_one hr
  have hr2 : l.drop (i + 1 + w0.length) = (32 :: r) := drop_more hr1
  have hh1 : (w0 ++ (32 :: r)).head? ≠ some 41 := head_atom h0 ha
  have hs2 : ∀ c r', 32 :: r = c :: r' → isAtom c.toNat = false := fun c r' e => by
    rw [← (List.cons.inj e).1]; decide +kernel
  have hr3 : l.drop (i + 1 + w0.length + 1) = r := drop_one hr2
  k_extra "my_steps"
  with_reducible rename Fr _ _ _ _ => F9
  with_reducible rename News _ _ _ _ => N9
  obtain ⟨ns9, en9⟩ := nmN N9
  rw [← en9] at N9
  refine While_K (fun n ns => ns = ns9) 1 F9 N9 rfl ?_ (by passes_own)
  rintro n ns h₁ tk₁ F1 N1 rfl
  clear F9 N9
  subst en9
  k_extra "my_steps"
  refine leave_onX (keep := rest) (by assumption) (by assumption) (by assumption) (by assumption) (fun q hq => by simp [hq]) ?_
  intro h9 R9 U9
  exact hret _ _ _ _ (by assumption) R9 U9
end
theorem walk_off35 : True := by
  w_top off
  trivial
section
theorem c_list_x {w : World} {mean : ExcName → Option Value} {mg mb : Str → Option Value} (x d q : Addr) (rest : List (Addr × Obj)) (hxd : @Ne Nat x d) (hqd : @Ne Nat q d) (hqx : @Ne Nat q x) (hne : ∀ p ∈ rest, p.1 ≠ d) (l : List UInt8) (td : Tok) (i : Nat) (tp k1 k2 : Tok) (hl : l.length ≤ 65536) (hx : LX l i) :
   ClX w mean mg mb 490 11 ((x, instObj 506 d) :: (d, wd w l td i tp k1 k2) :: (q, methodObj (.ref 406) (.ref x)) :: rest) [.ref x, .ref q] rest := by
  rcases hx with ⟨r, h1, h2⟩ | ⟨w0, r, h1, h2, h3, h4, h5, h6⟩ | ⟨w0, r, h1, h2, h3, h4⟩
  · exact (c_list_x1 x d q rest hxd hqd hqx hne l td i tp k1 k2 r hl h1 h2).up (by omega)
  · exact (c_list_x2 x d q rest hxd hqd hqx hne l td i tp k1 k2 w0 r hl h1 h2 h3 h4 h5 h6).up (by omega)
  · exact c_list_x3 x d q rest hxd hqd hqx hne l td i tp k1 k2 w0 r hl h1 h2 h3 h4
theorem say50 : True := by
  k_with "my_neq" => first | assumption | omega | exact Ne.symm (by assumption)
  k_with "call ref" => ((with_reducible show wpAny _ _ (call (Value.ref 490) [Value.ref _, Value.ref _]) _ _ _); k_dflt (refine' Cl.use (c_list_e _ _ _ _ ?e1 ?e2 ?e3 ?e4 _ _ _ _ _ _ _ ?e5 ?e6) ?k1 ?k2 ?k3 ?k4 ?k5 ?kK ?kd ?ku ?_; k_extra "U"; (case e1 => k_extra "my_neq"); (case e2 => k_extra "my_neq"); (case e3 => k_extra "my_neq"); (case e4 => k_all); (case e5 => omega); (case e6 => k_extra "my_at")); rintro _ _ _ _ ⟨_, _, _, ev'₉, en'₉⟩ _ _; subst ev'₉ en'₉; (try dsimp only); (try k_fold))
  k_with "call ref" => ((with_reducible show wpAny _ _ (call (Value.ref 490) [Value.ref _, Value.ref _]) _ _ _); k_dflt (refine' ClX.use (c_list_x _ _ _ _ ?e1 ?e2 ?e3 ?e4 _ _ _ _ _ _ ?e5 ?e6) ?k1 ?k2 ?k3 ?k4 ?k5 ?kK ?kd ?ku ?_; k_extra "U"; (case e1 => k_extra "my_neq"); (case e2 => k_extra "my_neq"); (case e3 => k_extra "my_neq"); (case e4 => k_all); (case e5 => omega); (case e6 => assumption)); intro _ _ _ _ _ _ _; (try dsimp only))
  trivial
theorem c_words_x {w : World} {mean : ExcName → Option Value} {mg mb : Str → Option Value} (x d : Addr) (rest : List (Addr × Obj)) (hxd : @Ne Nat x d) (hne : ∀ p ∈ rest, p.1 ≠ d) (l : List UInt8) (td : Tok) (i : Nat) (tp k1 k2 tw : Tok) (hl : l.length ≤ 65536) (hx : LX l i) :
   ClX w mean mg mb 624 13 ((x, instObj 506 d) :: (d, wd w l td i tp k1 k2) :: rest) [.ref x, .str SW tw] rest := by
  unfold ClX
  k_fill
  intro dp un gd cn cs a ccd cl outer A₀ base h₀ L m s Q E B F X N T hk hd hu hret
  refine wpAny_call ?_
  k_dflt (refine' code_defC (binds := [(Str.ofString "wire", Value.ref x), (Str.ofString "words", Value.str SW tw)]) ?k1 ?k2 ?k3 ?k4 ?k5 ?kA ?kF ?kK ?k6 ?k7 ?k8 ?k9 ?kB ?kD ?_ ?c2 ?c3 ?c4; (case kA => exact rfl); (case kF => exact rfl); (case kK => assumption); (case k1 => k_asm); (case k2 => k_asm); (case k3 => k_asm); (case k4 => k_asm); (case k5 => k_asm); (case k6 => k_is); (case k7 => k_is); (case k8 => k_extra "my_room"); (case k9 => first | exact BindsTo.of_eq rfl | exact binds_K (by k_in) rfl (by k_is) rfl rfl rfl); (case kB => exact rfl); (case kD => decide +kernel); (case c2 => exact rfl); (case c3 => exact rfl); (case c4 => exact rfl); k_whole; intro g' L' h' tk' cells' FG' F' N' Y' B' X' T' l1; (try k_lt l1); k_cells Y'; (try simp only [List.cons_append, List.nil_append] at N'); (try dsimp only); (try k_lift B'); (try k_fold))
  k_extra "my_steps"
  with_reducible rename Fr _ _ _ _ => F9
  refine ListComp_L (cl := _) F9 (by with_unfolding_all rfl) (by decide) rfl (by decide) rfl ?_
  k_extra "my_steps"
  refine leave_onXC (keep := rest) (by assumption) (by assumption) (by assumption) (by assumption) (fun q hq => by simp [hq]) ?_
  intro h9 R9 U9
  exact hret _ _ _ _ (by assumption) R9 U9
theorem c_words_e {w : World} {mean : ExcName → Option Value} {mg mb : Str → Option Value} (x d : Addr) (rest : List (Addr × Obj)) (hxd : @Ne Nat x d) (hne : ∀ p ∈ rest, p.1 ≠ d) (l : List UInt8) (td : Tok) (i : Nat) (tp k1 k2 tw : Tok) (r : List UInt8) (hl : l.length ≤ 65536) (hr : l.drop i = 40 :: 41 :: r) :
   Cl w mean mg mb 624 10 ((x, instObj 506 d) :: (d, wd w l td i tp k1 k2) :: rest) [.ref x, .str SW tw] (fun v news' ↦ ∃ t tp', v = .ref t ∧ news' = (t, tpo []) :: (x, instObj 506 d) :: (d, wd w l td ((i + 2 : Nat) : Int) tp' k1 k2) :: rest) := by
  unfold Cl
  k_fill
  intro dp un gd cn cs a ccd cl outer A₀ base h₀ L m s Q E B F X N T hk hd hu hret
  refine wpAny_call ?_
  k_dflt (refine' code_defC (binds := [(Str.ofString "wire", Value.ref x), (Str.ofString "words", Value.str SW tw)]) ?k1 ?k2 ?k3 ?k4 ?k5 ?kA ?kF ?kK ?k6 ?k7 ?k8 ?k9 ?kB ?kD ?_ ?c2 ?c3 ?c4; (case kA => exact rfl); (case kF => exact rfl); (case kK => assumption); (case k1 => k_asm); (case k2 => k_asm); (case k3 => k_asm); (case k4 => k_asm); (case k5 => k_asm); (case k6 => k_is); (case k7 => k_is); (case k8 => k_extra "my_room"); (case k9 => first | exact BindsTo.of_eq rfl | exact binds_K (by k_in) rfl (by k_is) rfl rfl rfl); (case kB => exact rfl); (case kD => decide +kernel); (case c2 => exact rfl); (case c3 => exact rfl); (case c4 => exact rfl); k_whole; intro g' L' h' tk' cells' FG' F' N' Y' B' X' T' l1; (try k_lt l1); k_cells Y'; (try simp only [List.cons_append, List.nil_append] at N'); (try dsimp only); (try k_lift B'); (try k_fold))
  k_extra "my_steps"
  with_reducible rename Fr _ _ _ _ => F9
  refine ListComp_L (cl := _) F9 (by with_unfolding_all rfl) (by decide) rfl (by decide) rfl ?_
  k_extra "my_steps"
  with_reducible rename News _ _ _ _ => N9
  refine ⟨_, _, _, _, rfl, rfl, by k_asm, N9, .head _, Nat.zero_le _, ?_⟩
  rintro s₂ ⟨hh, rfl⟩
  refine LCg.CompRest.zero ?_
  intro D h tk F8 N8 o1
  k_extra "my_steps"
  with_reducible rename News h₀ L _ _ => N7
  exact hret _ _ _ _ ⟨_, _, rfl, rfl⟩ (by k_asm) (Mine.News.pickW N7)
end
theorem walk_off36 : True := by
  w_top off
  trivial
section
theorem say51 : True := by
  k_with "call ref" => ((with_reducible show wpAny _ _ (call (Value.ref 612) [Value.ref _]) _ _ _); k_dflt (refine' Cl.useWS (c_name_a _ _ _ ?e1 ?e2 _ _ _ _ _ _ _ _ _ ?e3 ?e4 ?e5 ?e6 ?e7 ?e8 ?e9) ?k1 ?k2 ?k3 ?k4 ?k5 ?kK ?kd ?ku ?_; k_extra "U"; (case e1 => k_extra "my_ne"); (case e2 => k_all); (case e3 => omega); (case e4 => k_extra "my_at"); (case e5 => assumption); (case e6 => assumption); (case e7 => assumption); (case e8 => assumption); (case e9 => assumption); ); intro _ _ _ _ _ _; (try dsimp only); (try k_fold))
  k_with "call ref" => ((with_reducible show wpAny _ _ (call (Value.ref 371) [Value.ref _]) _ _ _); k_dflt (refine' ClX.use (c_space_x _ _ _ ?e1 ?e2 _ _ _ _ _ _ _ ?e3 ?e4 ?e5) ?k1 ?k2 ?k3 ?k4 ?k5 ?kK ?kd ?ku ?_; k_extra "U"; (case e1 => k_extra "my_ne"); (case e2 => k_all); (case e3 => omega); (case e4 => k_extra "my_at"); (case e5 => k_extra "my_head"); ); intro _ _ _ _ _ _ _; (try dsimp only))
  k_with "call ref" => ((with_reducible show wpAny _ _ (call (Value.ref 624) [Value.ref _, Value.str _ _]) _ _ _); k_dflt (refine' Cl.use (c_words_e _ _ _ ?e1 ?e2 _ _ _ _ _ _ _ _ ?e3 ?e4) ?k1 ?k2 ?k3 ?k4 ?k5 ?kK ?kd ?ku ?_; k_extra "U"; (case e1 => k_extra "my_ne"); (case e2 => k_all); (case e3 => omega); (case e4 => k_extra "my_at")); rintro _ _ _ _ ⟨_, _, ev'₉, en'₉⟩ _ _; subst ev'₉ en'₉; (try dsimp only); (try k_fold))
  k_with "call ref" => ((with_reducible show wpAny _ _ (call (Value.ref 624) [Value.ref _, Value.str _ _]) _ _ _); k_dflt (refine' ClX.use (c_words_x _ _ _ ?e1 ?e2 _ _ _ _ _ _ _ ?e3 ?e4) ?k1 ?k2 ?k3 ?k4 ?k5 ?kK ?kd ?ku ?_; k_extra "U"; (case e1 => k_extra "my_ne"); (case e2 => k_all); (case e3 => omega); (case e4 => assumption)); intro _ _ _ _ _ _ _; (try dsimp only))
  trivial
theorem c_rs_x1 {w : World} {mean : ExcName → Option Value} {mg mb : Str → Option Value} (x d : Addr) (rest : List (Addr × Obj)) (hxd : @Ne Nat x d) (hne : ∀ p ∈ rest, p.1 ≠ d) (l : List UInt8) (td : Tok) (tp k1 k2 : Tok) (hl : l.length ≤ 65536) (h : l.head? ≠ some 32) :
   ClX w mean mg mb 659 6 ((x, instObj 506 d) :: (d, wd w l td (0 : Nat) tp k1 k2) :: rest) [.ref x] rest := by
  unfold ClX
  k_fill
  intro dp un gd cn cs a ccd cl outer A₀ base h₀ L m s Q E B F X N T hk hd hu hret
  refine wpAny_call ?_
  k_dflt (refine' code_def (binds := [(Str.ofString "wire", Value.ref x)]) ?k1 ?k2 ?k3 ?k4 ?k5 ?kA ?kF ?kK ?k6 ?k7 ?k8 ?k9 ?kB ?_ ?c2 ?c3 ?c4 ?c5; (case kA => exact rfl); (case kF => exact rfl); (case kK => assumption); (case k1 => k_asm); (case k2 => k_asm); (case k3 => k_asm); (case k4 => k_asm); (case k5 => k_asm); (case k6 => k_is); (case k7 => k_is); (case k8 => k_extra "my_room"); (case k9 => first | exact BindsTo.of_eq rfl | exact binds_K (by k_in) rfl (by k_is) rfl rfl rfl); (case c5 => decide); (case kB => exact locs rfl); (case c2 => exact rfl); (case c3 => exact rfl); (case c4 => exact rfl); k_whole; intro g' L' h' FG' F' N' B' X' T'; (try dsimp only); (try k_lift B'); (try k_fold))
  have r0 : l.drop 0 = l := rfl
  k_extra "my_steps"
  refine leave_onX (keep := rest) (by assumption) (by assumption) (by assumption) (by assumption) (fun q hq => by simp [hq]) ?_
  intro h9 R9 U9
  exact hret _ _ _ _ (by assumption) R9 U9
theorem c_rs_x2 {w : World} {mean : ExcName → Option Value} {mg mb : Str → Option Value} (x d : Addr) (rest : List (Addr × Obj)) (hxd : @Ne Nat x d) (hne : ∀ p ∈ rest, p.1 ≠ d) (l : List UInt8) (td : Tok) (tp k1 k2 : Tok) (hl : l.length ≤ 65536) (told r : List UInt8) (y : Str) (h0 : 0 < told.length) (ha : ∀ c ∈ told, isAstring c.toNat = true) (hpl : ∀ c ∈ told, isPlain c.toNat = true ∧ c ≠ 38) (hy : NormP (told.map UInt8.toNat) y) (hr : l = 32 :: (told ++ r)) (hs : ∀ c r', r = c :: r' → isAstring c.toNat = false) (hh : r.head? ≠ some 32) :
   ClX w mean mg mb 659 12 ((x, instObj 506 d) :: (d, wd w l td (0 : Nat) tp k1 k2) :: rest) [.ref x] rest := by
  unfold ClX
  k_fill
  intro dp un gd cn cs a ccd cl outer A₀ base h₀ L m s Q E B F X N T hk hd hu hret
  refine wpAny_call ?_
  k_dflt (refine' code_def (binds := [(Str.ofString "wire", Value.ref x)]) ?k1 ?k2 ?k3 ?k4 ?k5 ?kA ?kF ?kK ?k6 ?k7 ?k8 ?k9 ?kB ?_ ?c2 ?c3 ?c4 ?c5; (case kA => exact rfl); (case kF => exact rfl); (case kK => assumption); (case k1 => k_asm); (case k2 => k_asm); (case k3 => k_asm); (case k4 => k_asm); (case k5 => k_asm); (case k6 => k_is); (case k7 => k_is); (case k8 => k_extra "my_room"); (case k9 => first | exact BindsTo.of_eq rfl | exact binds_K (by k_in) rfl (by k_is) rfl rfl rfl); (case c5 => decide); (case kB => exact locs rfl); (case c2 => exact rfl); (case c3 => exact rfl); (case c4 => exact rfl); k_whole; intro g' L' h' FG' F' N' B' X' T'; (try dsimp only); (try k_lift B'); (try k_fold))
  have r0 : l.drop 0 = 32 :: (told ++ r) := hr
  have r1 : l.drop (0 + 1) = told ++ r := drop_one r0
  have r2 : l.drop (0 + 1 + told.length) = r := drop_more r1
  k_extra "my_steps"
  refine leave_onX (keep := rest) (by assumption) (by assumption) (by assumption) (by assumption) (fun q hq => by simp [hq]) ?_
  intro h9 R9 U9
  exact hret _ _ _ _ (by assumption) R9 U9
theorem c_rs_x3 {w : World} {mean : ExcName → Option Value} {mg mb : Str → Option Value} (x d : Addr) (rest : List (Addr × Obj)) (hxd : @Ne Nat x d) (hne : ∀ p ∈ rest, p.1 ≠ d) (l : List UInt8) (td : Tok) (tp k1 k2 : Tok) (hl : l.length ≤ 65536) (told r : List UInt8) (y : Str) (h0 : 0 < told.length) (ha : ∀ c ∈ told, isAstring c.toNat = true) (hpl : ∀ c ∈ told, isPlain c.toNat = true ∧ c ≠ 38) (hy : NormP (told.map UInt8.toNat) y) (hr : l = 32 :: (told ++ 32 :: r)) (hx : LX l (0 + 1 + told.length + 1)) :
   ClX w mean mg mb 659 15 ((x, instObj 506 d) :: (d, wd w l td (0 : Nat) tp k1 k2) :: rest) [.ref x] rest := by
  unfold ClX
  k_fill
  intro dp un gd cn cs a ccd cl outer A₀ base h₀ L m s Q E B F X N T hk hd hu hret
  refine wpAny_call ?_
  k_dflt (refine' code_def (binds := [(Str.ofString "wire", Value.ref x)]) ?k1 ?k2 ?k3 ?k4 ?k5 ?kA ?kF ?kK ?k6 ?k7 ?k8 ?k9 ?kB ?_ ?c2 ?c3 ?c4 ?c5; (case kA => exact rfl); (case kF => exact rfl); (case kK => assumption); (case k1 => k_asm); (case k2 => k_asm); (case k3 => k_asm); (case k4 => k_asm); (case k5 => k_asm); (case k6 => k_is); (case k7 => k_is); (case k8 => k_extra "my_room"); (case k9 => first | exact BindsTo.of_eq rfl | exact binds_K (by k_in) rfl (by k_is) rfl rfl rfl); (case c5 => decide); (case kB => exact locs rfl); (case c2 => exact rfl); (case c3 => exact rfl); (case c4 => exact rfl); k_whole; intro g' L' h' FG' F' N' B' X' T'; (try dsimp only); (try k_lift B'); (try k_fold))
  have r0 : l.drop 0 = 32 :: (told ++ 32 :: r) := hr
  have r1 : l.drop (0 + 1) = told ++ 32 :: r := drop_one r0
  have r2 : l.drop (0 + 1 + told.length) = 32 :: r := drop_more r1
  have hst : ∀ c r', 32 :: r = c :: r' → isAstring c.toNat = false := fun c r' e => by
    rw [← (List.cons.inj e).1]; decide +kernel
  k_extra "my_steps"
  refine leave_onX (keep := rest) (by assumption) (by assumption) (by assumption) (by assumption) (fun q hq => by simp [hq]) ?_
  intro h9 R9 U9
  exact hret _ _ _ _ (by assumption) R9 U9
theorem c_rs_x4 {w : World} {mean : ExcName → Option Value} {mg mb : Str → Option Value} (x d : Addr) (rest : List (Addr × Obj)) (hxd : @Ne Nat x d) (hne : ∀ p ∈ rest, p.1 ≠ d) (l : List UInt8) (td : Tok) (tp k1 k2 : Tok) (hl : l.length ≤ 65536) (told r : List UInt8) (y : Str) (h0 : 0 < told.length) (ha : ∀ c ∈ told, isAstring c.toNat = true) (hpl : ∀ c ∈ told, isPlain c.toNat = true ∧ c ≠ 38) (hy : NormP (told.map UInt8.toNat) y) (hr : l = 32 :: (told ++ 32 :: 40 :: 41 :: r)) :
   ClX w mean mg mb 659 12 ((x, instObj 506 d) :: (d, wd w l td (0 : Nat) tp k1 k2) :: rest) [.ref x] rest := by
  unfold ClX
  k_fill
  intro dp un gd cn cs a ccd cl outer A₀ base h₀ L m s Q E B F X N T hk hd hu hret
  refine wpAny_call ?_
  k_dflt (refine' code_def (binds := [(Str.ofString "wire", Value.ref x)]) ?k1 ?k2 ?k3 ?k4 ?k5 ?kA ?kF ?kK ?k6 ?k7 ?k8 ?k9 ?kB ?_ ?c2 ?c3 ?c4 ?c5; (case kA => exact rfl); (case kF => exact rfl); (case kK => assumption); (case k1 => k_asm); (case k2 => k_asm); (case k3 => k_asm); (case k4 => k_asm); (case k5 => k_asm); (case k6 => k_is); (case k7 => k_is); (case k8 => k_extra "my_room"); (case k9 => first | exact BindsTo.of_eq rfl | exact binds_K (by k_in) rfl (by k_is) rfl rfl rfl); (case c5 => decide); (case kB => exact locs rfl); (case c2 => exact rfl); (case c3 => exact rfl); (case c4 => exact rfl); k_whole; intro g' L' h' FG' F' N' B' X' T'; (try dsimp only); (try k_lift B'); (try k_fold))
  have r0 : l.drop 0 = 32 :: (told ++ 32 :: 40 :: 41 :: r) := hr
  have r1 : l.drop (0 + 1) = told ++ 32 :: 40 :: 41 :: r := drop_one r0
  have r2 : l.drop (0 + 1 + told.length) = 32 :: 40 :: 41 :: r := drop_more r1
  have r3 : l.drop (0 + 1 + told.length + 1) = 40 :: 41 :: r := drop_one r2
  have hst : ∀ c r', 32 :: 40 :: 41 :: r = c :: r' → isAstring c.toNat = false := fun c r' e => by
    rw [← (List.cons.inj e).1]; decide +kernel
  k_extra "my_steps"
  refine raise_x rfl ?_
  k_extra "my_steps"
  with_reducible rename Fr _ _ _ _ => F9
  with_reducible rename News _ _ _ (_ :: _ :: _ :: _) => N9
  with_reducible rename Frag.In _ _ => X9
  refine ⟨_, _, _, rfl, X9.keeps F9.keep, (N9 _ (.head _)).1, ?_⟩
  refine leave_firstX (keep := rest) (by assumption) F9 N9 (by assumption) (fun q hq => by simp [hq]) ?_
  intro h9 R9 U9
  exact hret _ _ _ _ (by assumption) R9 U9
end
theorem walk_off37 : True := by
  w_top off
  trivial
section
theorem c_no_status {w : World} {mean : ExcName → Option Value} {mg mb : Str → Option Value} (news : List (Addr × Obj)) (l : List UInt8) (t : Tok) (hR : RSX w mean mg mb l) :
   Cl0 w mean mg mb 666 17 news [.bytes l.toArray t] (BoolR true news) := by
  unfold Cl0
  k_fill
  intro dp un gd cn cs a ccd cl A₀ base h₀ L m s Q E B F X N T hk hd hu hret
  refine wpAny_call ?_
  k_dflt (refine' code_defS0C (binds := [(Str.ofString "octets", Value.bytes l.toArray t)]) ?k1 ?k2 ?k3 ?k4 ?k5 ?kA ?k6 ?k7 ?k8 ?k9 ?kB ?_ ?cK ?c2 ?c3 ?c4 ?c5; (case kA => exact rfl); (case cK => assumption); (case k1 => k_asm); (case k2 => k_asm); (case k3 => k_asm); (case k4 => k_asm); (case k5 => k_asm); (case k6 => k_is); (case k7 => k_is); (case k8 => k_extra "my_room"); (case k9 => first | exact BindsTo.of_eq rfl | exact binds_K (by k_in) rfl (by k_is) rfl rfl rfl); (case c5 => decide); (case kB => exact locs rfl); (case c2 => exact rfl); (case c3 => exact rfl); (case c4 => exact rfl); k_whole; intro g' L' h' FG' F' N' B' X' T' XT0; (try dsimp only); (try k_fold))
  k_extra "my_steps"
  with_reducible rename Fr _ _ _ _ => F9
  with_reducible rename News _ _ _ (_ :: _ :: _) => N9
  rename ∀ p ∈ news, p.1 < _ => hlt9
  refine ClX.use (hR _ _ news (by omega) (fun p hp => Nat.ne_of_lt (hlt9 p hp)) _ _ _ _) B' F9 X' N9 T' rfl (by k_extra "my_room") (by k_extra "my_units") ?_
  intro e9 G9 h9 tk9 F8 R8 U8
  dsimp only
  refine caught_X R8 F8 B' U8 XT0.1 XT0.2 KtsTurn.refl (by k_is) (by first | k_is | rfl) ?_
  intro h7 g7 T7 F7 N7 B7 X7 P7
  k_extra "my_steps"
  exact hret _ _ _ _ ⟨rfl, rfl⟩ (by k_asm) (by k_asm)
end
theorem walk_off38 : True := by
  w_top off
  trivial
section
theorem c_words_x5 {w : World} {mean : ExcName → Option Value} {mg mb : Str → Option Value} (x d : Addr) (rest : List (Addr × Obj)) (hxd : @Ne Nat x d) (hne : ∀ p ∈ rest, p.1 ≠ d) (l r w0 : List UInt8) (ws : List (List UInt8)) (td : Tok) (i : Nat) (tp k1 k2 tw : Tok) (hl : l.length ≤ 65536) (hr : l.drop i = 40 :: (w0 ++ (sepW ws ++ 41 :: r))) (h0 : ∀ w ∈ w0 :: ws, 0 < w.length ∧ ∀ c ∈ w, isAtom c.toNat = true) (hw : (w0 :: ws).length ≤ 100) (hm : (SWc.any (· == strW w0)) = false) :
   ClX w mean mg mb 624 13 ((x, instObj 506 d) :: (d, wd w l td i tp k1 k2) :: rest) [.ref x, .str SW tw] rest := by
  unfold ClX
  k_fill
  intro dp un gd cn cs a ccd cl outer A₀ base h₀ L m s Q E B F X N T hk hd hu hret
  refine wpAny_call ?_
  k_dflt (refine' code_defC (binds := [(Str.ofString "wire", Value.ref x), (Str.ofString "words", Value.str SW tw)]) ?k1 ?k2 ?k3 ?k4 ?k5 ?kA ?kF ?kK ?k6 ?k7 ?k8 ?k9 ?kB ?kD ?_ ?c2 ?c3 ?c4; (case kA => exact rfl); (case kF => exact rfl); (case kK => assumption); (case k1 => k_asm); (case k2 => k_asm); (case k3 => k_asm); (case k4 => k_asm); (case k5 => k_asm); (case k6 => k_is); (case k7 => k_is); (case k8 => k_extra "my_room"); (case k9 => first | exact BindsTo.of_eq rfl | exact binds_K (by k_in) rfl (by k_is) rfl rfl rfl); (case kB => exact rfl); (case kD => decide +kernel); (case c2 => exact rfl); (case c3 => exact rfl); (case c4 => exact rfl); k_whole; intro g' L' h' tk' cells' FG' F' N' Y' B' X' T' l1; (try k_lt l1); k_cells Y'; (try simp only [List.cons_append, List.nil_append] at N'); (try dsimp only); (try k_lift B'); (try k_fold))
  k_extra "my_steps"
  with_reducible rename Fr _ _ _ _ => F9
  refine ListComp_X (keep := rest) B' F9 (Around.frames_deeper B'.stack) rfl (cl := _) (by with_unfolding_all rfl) (by decide) rfl (by decide) rfl ?_
  k_extra "my_steps"
  with_reducible rename News _ _ _ _ => N9
  rename StrsAre _ _ => S9
  have hln := strs_len S9
  refine ⟨_, _, _, _, rfl, rfl, by k_asm, N9, .head _, ?_, ?_, ?_, ?_, ?_⟩
  · rw [hln, sizeLine_eq, List.length_map]; omega
  · rw [hln]; simp
  · intro q hq; simp [hq]
  · intro v I oI C oC D m₂ h tk hv hC hx F8 N8 off ne
    obtain ⟨y, ty, hy, rfl⟩ := strs_at S9 hv
    have hmy : (SWc.any (· == y)) = false := by
      simp only [List.map_cons, List.getElem?_cons_zero, Option.some.injEq] at hy
      exact hy ▸ hm
    have hCd : ∀ p ∈ (C, oC) :: rest, p.1 ≠ d := fun p hp => by
      rcases List.mem_cons.mp hp with rfl | hp
      · exact Ne.symm off.2.2.1.2.1
      · exact hne p hp
    k_extra "my_steps"
    refine ClX.use (c_one_of_x x d ((C, oC) :: rest) hxd hCd l td _ _ _ _ y ty tw hmy) B' F8 X' (News.pickE N8) T' rfl (by k_extra "my_room") (by k_extra "my_units") ?_
    intro e9 G9 h9 tk9 F9 R9 U9
    exact ⟨_, _, _, _, rfl, rfl, F9, R9, U9⟩
  · intro e9 G9 h9 tk9 F8 R8 U8
    refine leave_heldX (keep := rest) (by assumption) F8 R8 U8 (fun q hq => hq) ?_
    intro h7 R7 U7
    exact hret _ _ _ _ (by assumption) R7 U7
end
theorem walk_off39 : True := by
  w_top off
  trivial
section
theorem a_stop {r : List UInt8} (h : (match r with | [] => true | c :: _ => !isAtom c.toNat) = true) : ∀ c r', r = c :: r' → isAtom c.toNat = false := by
  rintro c r' rfl
  simpa using h
theorem s_stop {r : List UInt8} (h : (match r with | [] => true | c :: _ => !isAstring c.toNat) = true) : ∀ c r', r = c :: r' → isAstring c.toNat = false := by
  rintro c r' rfl
  simpa using h
theorem a_all {w : List UInt8} (h : (w.all fun c => isAtom c.toNat) = true) : ∀ c ∈ w, isAtom c.toNat = true := List.all_eq_true.mp h
theorem s_all {w : List UInt8} (h : (w.all fun c => isAstring c.toNat) = true) : ∀ c ∈ w, isAstring c.toNat = true := List.all_eq_true.mp h
theorem p_all {w : List UInt8} (h : (w.all fun c => isPlain c.toNat && c != 38) = true) : ∀ c ∈ w, isPlain c.toNat = true ∧ c ≠ 38 := fun c hc => by
  have := List.all_eq_true.mp h c hc
  simpa using this
theorem norm_a : NormP (([97] : List UInt8).map UInt8.toNat) (mkS [97]) := ⟨[97], [], by decide, by decide, by decide +kernel, by decide +kernel⟩
theorem rsx_1 {w : World} {mean : ExcName → Option Value} {mg mb : Str → Option Value} : RSX w mean mg mb [] := fun x d rest hxd hne td tp k1 k2 => (c_rs_x1 x d rest hxd hne _ td tp k1 k2 (by decide) (by decide)).up (by omega)
theorem rsx_2 {w : World} {mean : ExcName → Option Value} {mg mb : Str → Option Value} : RSX w mean mg mb [32, 97] := fun x d rest hxd hne td tp k1 k2 => (c_rs_x2 x d rest hxd hne _ td tp k1 k2 (by decide) [97] [] (mkS [97]) (by decide) (s_all (by decide +kernel)) (p_all (by decide +kernel)) norm_a rfl (s_stop (by decide +kernel)) (by decide)).up (by omega)
theorem rsx_3 {w : World} {mean : ExcName → Option Value} {mg mb : Str → Option Value} : RSX w mean mg mb [32, 97, 32] := fun x d rest hxd hne td tp k1 k2 => c_rs_x3 x d rest hxd hne _ td tp k1 k2 (by decide) [97] [] (mkS [97]) (by decide) (s_all (by decide +kernel)) (p_all (by decide +kernel)) norm_a rfl (.inl ⟨_, rfl, by decide⟩)
theorem rsx_4 {w : World} {mean : ExcName → Option Value} {mg mb : Str → Option Value} : RSX w mean mg mb [32, 97, 32, 40, 41] := fun x d rest hxd hne td tp k1 k2 => (c_rs_x4 x d rest hxd hne _ td tp k1 k2 (by decide) [97] [] (mkS [97]) (by decide) (s_all (by decide +kernel)) (p_all (by decide +kernel)) norm_a rfl).up (by omega)
theorem rsx_6 {w : World} {mean : ExcName → Option Value} {mg mb : Str → Option Value} : RSX w mean mg mb [32, 97, 32, 40, 83, 73, 90, 69] := fun x d rest hxd hne td tp k1 k2 => c_rs_x3 x d rest hxd hne _ td tp k1 k2 (by decide) [97] [40, 83, 73, 90, 69] (mkS [97]) (by decide) (s_all (by decide +kernel)) (p_all (by decide +kernel)) norm_a rfl (.inr (.inl ⟨[83, 73, 90, 69], [], rfl, by decide, a_all (by decide +kernel), a_stop (by decide +kernel), by decide, by decide⟩))
theorem rsx_7 {w : World} {mean : ExcName → Option Value} {mg mb : Str → Option Value} : RSX w mean mg mb [32, 97, 32, 40, 83, 73, 90, 69, 32, 32, 85, 78, 83, 69, 69, 78, 41] := fun x d rest hxd hne td tp k1 k2 => c_rs_x3 x d rest hxd hne _ td tp k1 k2 (by decide) [97] [40, 83, 73, 90, 69, 32, 32, 85, 78, 83, 69, 69, 78, 41] (mkS [97]) (by decide) (s_all (by decide +kernel)) (p_all (by decide +kernel)) norm_a rfl (.inr (.inr ⟨[83, 73, 90, 69], [32, 85, 78, 83, 69, 69, 78, 41], rfl, by decide, a_all (by decide +kernel), a_stop (by decide +kernel)⟩))
theorem rsx_8 {w : World} {mean : ExcName → Option Value} {mg mb : Str → Option Value} : RSX w mean mg mb [32, 97, 32, 40, 83, 73, 90, 69, 32, 41] := fun x d rest hxd hne td tp k1 k2 => c_rs_x3 x d rest hxd hne _ td tp k1 k2 (by decide) [97] [40, 83, 73, 90, 69, 32, 41] (mkS [97]) (by decide) (s_all (by decide +kernel)) (p_all (by decide +kernel)) norm_a rfl (.inr (.inr ⟨[83, 73, 90, 69], [41], rfl, by decide, a_all (by decide +kernel), a_stop (by decide +kernel)⟩))
theorem rsx_9 {w : World} {mean : ExcName → Option Value} {mg mb : Str → Option Value} : RSX w mean mg mb [97, 32, 40, 83, 73, 90, 69, 41] := fun x d rest hxd hne td tp k1 k2 => (c_rs_x1 x d rest hxd hne _ td tp k1 k2 (by decide) (by decide)).up (by omega)
theorem rsx_10 {w : World} {mean : ExcName → Option Value} {mg mb : Str → Option Value} : RSX w mean mg mb [32, 97, 32, 83, 73, 90, 69] := fun x d rest hxd hne td tp k1 k2 => c_rs_x3 x d rest hxd hne _ td tp k1 k2 (by decide) [97] [83, 73, 90, 69] (mkS [97]) (by decide) (s_all (by decide +kernel)) (p_all (by decide +kernel)) norm_a rfl (.inl ⟨_, rfl, by decide⟩)
end
theorem walk_off40 : True := by
  w_top off
  trivial
section
theorem say52 : True := by
  k_with "call ref" => ((with_reducible show wpAny _ _ (call (Value.ref 612) [Value.ref _]) _ _ _); k_dflt (refine' Cl.useWS (c_name_a _ _ _ ?e1 ?e2 _ _ _ _ _ _ _ _ _ ?e3 ?e4 ?e5 ?e6 ?e7 ?e8 ?e9) ?k1 ?k2 ?k3 ?k4 ?k5 ?kK ?kd ?ku ?_; k_extra "U"; (case e1 => k_extra "my_ne"); (case e2 => k_all); (case e3 => omega); (case e4 => k_extra "my_at"); (case e5 => assumption); (case e6 => assumption); (case e7 => assumption); (case e8 => assumption); (case e9 => assumption); ); intro _ _ _ _ _ _; (try dsimp only); (try k_fold))
  k_with "call ref" => ((with_reducible show wpAny _ _ (call (Value.ref 371) [Value.ref _]) _ _ _); k_dflt (refine' ClX.use (c_space_x _ _ _ ?e1 ?e2 _ _ _ _ _ _ _ ?e3 ?e4 ?e5) ?k1 ?k2 ?k3 ?k4 ?k5 ?kK ?kd ?ku ?_; k_extra "U"; (case e1 => k_extra "my_ne"); (case e2 => k_all); (case e3 => omega); (case e4 => k_extra "my_at"); (case e5 => k_extra "my_head"); ); intro _ _ _ _ _ _ _; (try dsimp only))
  k_with "call ref" => ((with_reducible show wpAny _ _ (call (Value.ref 624) [Value.ref _, Value.str _ _]) _ _ _); k_dflt (refine' ClX.use (c_words_x5 _ _ _ ?e1 ?e2 _ _ _ _ _ _ _ _ _ _ ?e3 ?e4 ?e5 ?e6 ?e7) ?k1 ?k2 ?k3 ?k4 ?k5 ?kK ?kd ?ku ?_; k_extra "U"; (case e1 => k_extra "my_ne"); (case e2 => k_all); (case e3 => omega); (case e4 => k_extra "my_at"); (case e5 => assumption); (case e6 => assumption); (case e7 => assumption)); intro _ _ _ _ _ _ _; (try dsimp only))
  trivial
theorem c_rs_x5 {w : World} {mean : ExcName → Option Value} {mg mb : Str → Option Value} (x d : Addr) (rest : List (Addr × Obj)) (hxd : @Ne Nat x d) (hne : ∀ p ∈ rest, p.1 ≠ d) (l : List UInt8) (td : Tok) (tp k1 k2 : Tok) (hl : l.length ≤ 65536) (told r w0 : List UInt8) (ws : List (List UInt8)) (y : Str) (h0 : 0 < told.length) (ha : ∀ c ∈ told, isAstring c.toNat = true) (hpl : ∀ c ∈ told, isPlain c.toNat = true ∧ c ≠ 38) (hy : NormP (told.map UInt8.toNat) y) (hr : l = 32 :: (told ++ 32 :: 40 :: (w0 ++ (sepW ws ++ 41 :: r)))) (hw0 : ∀ w ∈ w0 :: ws, 0 < w.length ∧ ∀ c ∈ w, isAtom c.toNat = true) (hw : (w0 :: ws).length ≤ 100) (hm : (SWc.any (· == strW w0)) = false) :
   ClX w mean mg mb 659 15 ((x, instObj 506 d) :: (d, wd w l td (0 : Nat) tp k1 k2) :: rest) [.ref x] rest := by
  unfold ClX
  k_fill
  intro dp un gd cn cs a ccd cl outer A₀ base h₀ L m s Q E B F X N T hk hd hu hret
  refine wpAny_call ?_
  k_dflt (refine' code_def (binds := [(Str.ofString "wire", Value.ref x)]) ?k1 ?k2 ?k3 ?k4 ?k5 ?kA ?kF ?kK ?k6 ?k7 ?k8 ?k9 ?kB ?_ ?c2 ?c3 ?c4 ?c5; (case kA => exact rfl); (case kF => exact rfl); (case kK => assumption); (case k1 => k_asm); (case k2 => k_asm); (case k3 => k_asm); (case k4 => k_asm); (case k5 => k_asm); (case k6 => k_is); (case k7 => k_is); (case k8 => k_extra "my_room"); (case k9 => first | exact BindsTo.of_eq rfl | exact binds_K (by k_in) rfl (by k_is) rfl rfl rfl); (case c5 => decide); (case kB => exact locs rfl); (case c2 => exact rfl); (case c3 => exact rfl); (case c4 => exact rfl); k_whole; intro g' L' h' FG' F' N' B' X' T'; (try dsimp only); (try k_lift B'); (try k_fold))
  have r0 : l.drop 0 = 32 :: (told ++ 32 :: 40 :: (w0 ++ (sepW ws ++ 41 :: r))) := hr
  have r1 : l.drop (0 + 1) = told ++ 32 :: 40 :: (w0 ++ (sepW ws ++ 41 :: r)) := drop_one r0
  have r2 : l.drop (0 + 1 + told.length) = 32 :: 40 :: (w0 ++ (sepW ws ++ 41 :: r)) := drop_more r1
  have r3 : l.drop (0 + 1 + told.length + 1) = 40 :: (w0 ++ (sepW ws ++ 41 :: r)) := drop_one r2
  have hst : ∀ c r', 32 :: 40 :: (w0 ++ (sepW ws ++ 41 :: r)) = c :: r' → isAstring c.toNat = false := fun c r' e => by
    rw [← (List.cons.inj e).1]; decide +kernel
  k_extra "my_steps"
  refine leave_onX (keep := rest) (by assumption) (by assumption) (by assumption) (by assumption) (fun q hq => by simp [hq]) ?_
  intro h9 R9 U9
  exact hret _ _ _ _ (by assumption) R9 U9
theorem rsx_5 {w : World} {mean : ExcName → Option Value} {mg mb : Str → Option Value} : RSX w mean mg mb [32, 97, 32, 40, 83, 69, 69, 78, 41] := fun x d rest hxd hne td tp k1 k2 => c_rs_x5 x d rest hxd hne _ td tp k1 k2 (by decide) [97] [] [83, 69, 69, 78] [] (mkS [97]) (by decide) (s_all (by decide +kernel)) (p_all (by decide +kernel)) norm_a rfl (fun w hw => by
  rw [List.mem_singleton.mp hw]
  exact ⟨by decide, a_all (by decide +kernel)⟩) (by decide) (by decide +kernel)
end
theorem walk_off41 : True := by
  w_top off
  trivial
section
theorem say53 : True := by
  k_with "n_step" => ((with_reducible show wpN _ _ (callWith _ (Value.ref _) _ (backTo _ (starEach (_ :: _) _)) _) _ _); refine' nCallWith ?k1 ?k2 ?_; (case k1 => k_asm); (case k2 => assumption))
  k_with "n_calls" => ((with_reducible show wpN _ _ (call (Value.ref _) [Value.ref _]) _ _); k_dflt (refine' ClN.use (OneR.use (by assumption) ?e1 ?e2) ?k1 ?k2 ?k3 ?k4 ?k5 ?kK ?kd ?ku ?_; k_extra "U"; (case e1 => omega); (case e2 => exact fun p₉ hp₉ => Nat.ne_of_lt ((by assumption : ∀ p₉ ∈ _, p₉.1 < _) p₉ hp₉))); rintro _ _ _ _ ⟨_, _, _, en'₉⟩ _ N'₉; subst en'₉; (try dsimp only); have _ := Mine.News.dropA N'₉)
  k_with "compareOp Eq ref ref" => (refine GoodRead.use (by assumption) (by assumption) (by ke_room) ?_)
  k_with "my_cmpw" => ((with_reducible show wpAny _ _ (compareOp CmpOp.Eq _ (Value.ref _)) _ _ _); refine GoodRead.use (by assumption) (by assumption) (by ke_room) ?_)
  k_with "n_step" => ((with_reducible show wpN _ _ (compareOp CmpOp.Eq _ (Value.ref _)) _ _); refine wpN_of ?_; k_extra "my_cmpw")
  trivial
theorem c_one {w : World} {mean : ExcName → Option Value} {mg mb : Str → Option Value} (R b : Addr) (rest : List (Addr × Obj)) (l : List UInt8) (t : Tok) (hkR : keepIn (Mine.hd.heap_39 w.params) (.ref R) = true) (hl : l.length ≤ 60000) (hR : OneR w mean mg mb R l b rest) :
   ClN w mean mg mb 673 16 rest [.ref R, .bytes l.toArray t, .ref b] (BoolR true rest) := by
  unfold ClN
  k_fill
  intro dp un cn cs a ccd cl outer A₀ base h₀ L m s Q B F X N T hk hd hu hret
  refine wpN_call ?_
  k_dflt (refine' code_defN (binds := [(Str.ofString "read", Value.ref R), (Str.ofString "octets", Value.bytes l.toArray t), (Str.ofString "args", Value.ref b)]) ?k1 ?k2 ?k3 ?k4 ?k5 ?kA ?kF ?kK ?k6 ?k7 ?k8 ?k9 ?kB ?_ ?c2 ?c3 ?c4 ?c5; (case kA => exact rfl); (case kF => exact rfl); (case kK => assumption); (case k1 => k_asm); (case k2 => k_asm); (case k3 => k_asm); (case k4 => k_asm); (case k5 => k_asm); (case k6 => k_is); (case k7 => k_is); (case k8 => k_extra "my_room"); (case k9 => first | exact BindsTo.of_eq rfl | exact binds_K (by k_in) rfl (by k_is) rfl rfl rfl); (case c5 => decide); (case kB => exact locs rfl); (case c2 => exact rfl); (case c3 => exact rfl); (case c4 => exact rfl); k_whole; intro g' L' h' FG' F' N' B' X' T'; (try dsimp only); (try k_lift B'); (try k_fold))
  k_extra "n_steps"
  with_reducible rename Fr g' _ _ _ => F7
  with_reducible rename News g' _ _ ((_, _) :: (_, _) :: rest) => N7
  exact ⟨_, _, _, F7, Mine.News.drop1 (Mine.News.drop1 N7), fun F8 N8 => hret _ _ _ _ ⟨rfl, rfl⟩ F8 N8⟩
end
theorem walk_off42 : True := by
  w_top off
  trivial
section
theorem ClN.mono {w : World} {mean : ExcName → Option Value} {mg mb : Str → Option Value} {f : Addr} {k k' : Nat} {news : List (Addr × Obj)} {vs : List Value} {P P' : Value → List (Addr × Obj) → Prop} (C : ClN w mean mg mb f k news vs P) (hk : k ≤ k') (hP : ∀ v n, P v n → P' v n) : ClN w mean mg mb f k' news vs P' :=
  fun dp un cn cs a ccd cl outer A₀ base h₀ L m s Q B F X N T hkk hd hu ret => C dp un cn cs a ccd cl outer A₀ base h₀ L m s Q B F X N T hkk (by omega) (by omega) fun v n h' tk hp F' N' => ret v n h' tk (hP v n hp) F' N'
theorem as_all {w : List UInt8} (h : (w.all fun c => isAstring c.toNat) = true) : ∀ c ∈ w, isAstring c.toNat = true := List.all_eq_true.mp h
theorem at_all {w : List UInt8} (h : (w.all fun c => isAtom c.toNat) = true) : ∀ c ∈ w, isAtom c.toNat = true := List.all_eq_true.mp h
theorem pt_all {w : List UInt8} (h : (w.all fun c => isPattern c.toNat) = true) : ∀ c ∈ w, isPattern c.toNat = true := List.all_eq_true.mp h
theorem pl_all {w : List UInt8} (h : (w.all fun c => isPlain c.toNat && c != 38) = true) : ∀ c ∈ w, isPlain c.toNat = true ∧ c ≠ 38 := fun c hc => by
  have := List.all_eq_true.mp h c hc
  simpa using this
theorem pl_all0 {w : List UInt8} (h : (w.all fun c => isPlain c.toNat) = true) : ∀ c ∈ w, isPlain c.toNat = true := List.all_eq_true.mp h
theorem q_all {w : List UInt8} (h : (w.all fun c => decide (1 ≤ c.toNat) && decide (c.toNat ≤ 127) && decide (c.toNat ≠ 13) && decide (c.toNat ≠ 10)) = true) : ∀ c ∈ w, 1 ≤ c.toNat ∧ c.toNat ≤ 127 ∧ c.toNat ≠ 13 ∧ c.toNat ≠ 10 := fun c hc => by
  have := List.all_eq_true.mp h c hc
  simp only [Bool.and_eq_true, decide_eq_true_eq] at this
  exact ⟨this.1.1.1, this.1.1.2, this.1.2, this.2⟩
theorem ps_all {w : List Nat} (h : (decide (w.length ≤ 1000) && w.all fun (c : Nat) => isPlain (c : Int) && c != 38) = true) : PlainS w := by
  simp only [Bool.and_eq_true, decide_eq_true_eq] at h
  refine ⟨h.1, fun c hc => ?_⟩
  have := List.all_eq_true.mp h.2 c hc
  simpa using this
theorem stop_as : ∀ (c : UInt8) (r' : List UInt8), ([13, 10] : List UInt8) = c :: r' → isAstring c.toNat = false := fun c r' e => by rw [← (List.cons.inj e).1]; decide +kernel
theorem stop_at : ∀ (c : UInt8) (r' : List UInt8), ([13, 10] : List UInt8) = c :: r' → isAtom c.toNat = false := fun c r' e => by rw [← (List.cons.inj e).1]; decide +kernel
theorem stop_pt : ∀ (c : UInt8) (r' : List UInt8), ([13, 10] : List UInt8) = c :: r' → isPattern c.toNat = false := fun c r' e => by rw [← (List.cons.inj e).1]; decide +kernel
theorem tok_inbox : TokN [105, 110, 98, 111, 120] (Str.ofString "INBOX") := .inl ⟨by decide, as_all (by decide +kernel), pl_all (by decide +kernel), [105, 110, 98, 111, 120], [], by decide, by decide, by decide +kernel, by decide +kernel⟩
theorem tok_INBOX : TokN [73, 78, 66, 79, 88] (Str.ofString "INBOX") := .inl ⟨by decide, as_all (by decide +kernel), pl_all (by decide +kernel), [73, 78, 66, 79, 88], [], by decide, by decide, by decide +kernel, by decide +kernel⟩
theorem tok_ab : TokN [97, 47, 98] (Str.ofString "a/b") := .inl ⟨by decide, as_all (by decide +kernel), pl_all (by decide +kernel), [97], [47, 98], by decide, by decide, by decide +kernel, by decide +kernel⟩
theorem tok_two : TokN [34, 116, 119, 111, 32, 119, 111, 114, 100, 115, 34] (Str.ofString "two words") := .inr ⟨[116, 119, 111, 32, 119, 111, 114, 100, 115], by decide +kernel, by decide, q_all (by decide +kernel), pl_all (by decide +kernel), [116, 119, 111, 32, 119, 111, 114, 100, 115], [], by decide, by decide, by decide +kernel, by decide +kernel⟩
theorem tok_nil : TokN [34, 34] (Str.ofString "") := .inr ⟨[], by decide +kernel, by decide, q_all (by decide +kernel), pl_all (by decide +kernel), [], [], by decide, by decide, by decide +kernel, by decide +kernel⟩
theorem tok_bc : TokN [34, 98, 32, 99, 34] (Str.ofString "b c") := .inr ⟨[98, 32, 99], by decide +kernel, by decide, q_all (by decide +kernel), pl_all (by decide +kernel), [98, 32, 99], [], by decide, by decide, by decide +kernel, by decide +kernel⟩
theorem mem_one {p : Addr × Obj} {a x d : Addr × Obj} {rest : List (Addr × Obj)} (h : p ∈ rest) : p ∈ [a] ++ (x :: d :: rest) := by simp [h]
theorem mem_two {p : Addr × Obj} {a a2 x d : Addr × Obj} {rest : List (Addr × Obj)} (h : p ∈ rest) : p ∈ [a, a2] ++ (x :: d :: rest) := by simp [h]
section
variable {w : World} {mean : ExcName → Option Value} {mg mb : Str → Option Value} {b u : Addr} {rest : List (Addr × Obj)} {t1 t2 : Tok}
theorem one_rename (hb : (b, tpo [.str (Str.ofString "INBOX") t1, .str (Str.ofString "b c") t2]) ∈ rest) : OneR w mean mg mb 645 [32, 105, 110, 98, 111, 120, 32, 34, 98, 32, 99, 34] b rest := fun x d hxd hne td tp k1 k2 =>
  (c_read_rename x d rest hxd hne _ [105, 110, 98, 111, 120] [34, 98, 32, 99, 34] [13, 10] _ _ td tp k1 k2 (by decide) rfl stop_as tok_inbox tok_bc).mono (by decide) fun v n ⟨a, u, u2, tp', ev, en⟩ =>
    ⟨[(a, _)], tp', by subst ev en; exact fun A s h₀ L N hu => rcAt_tup2 N (.head _) (mem_one (a := (a, _)) hb) (by omega) (eqAt_str _ _ _) (eqAt_str _ _ _), en⟩
theorem one_list (hb : (b, tpo [.str (Str.ofString "") t1, .str (Str.ofString "a/%") t2]) ∈ rest) : OneR w mean mg mb 652 [32, 34, 34, 32, 97, 47, 37] b rest := fun x d hxd hne td tp k1 k2 =>
  (c_read_list x d rest hxd hne _ [] [97, 47, 37] [13, 10] td tp k1 k2 (by decide) rfl (by decide) (q_all (by decide +kernel)) (pl_all (by decide +kernel)) (by decide) (pt_all (by decide +kernel)) stop_pt (pl_all (by decide +kernel))).mono (by decide) fun v n ⟨a, u, u2, tp', ev, en⟩ =>
    ⟨[(a, _)], tp', by
      subst ev en
      refine fun A s h₀ L N hu => rcAt_tup2 N (.head _) (mem_one (a := (a, _)) hb) (by omega) ?_ ?_
      · have e : mkS (([] : List UInt8).map UInt8.toNat) = Str.ofString "" := by decide +kernel
        rw [e]; exact eqAt_str _ _ _
      · have e : mkS (([97, 47, 37] : List UInt8).map UInt8.toNat) = Str.ofString "a/%" := by decide +kernel
        rw [e]; exact eqAt_str _ _ _, en⟩
theorem one_enable {us : List Value} (hb : (b, tpo [.ref u]) ∈ rest) (hu : (u, tpo us) ∈ rest) (hS : StrsAre us [Str.ofString "CONDSTORE", Str.ofString "QRESYNC"]) : OneR w mean mg mb 638 [32, 99, 111, 110, 100, 115, 116, 111, 114, 101, 32, 81, 114, 101, 115, 121, 110, 99] b rest := fun x d hxd hne td tp k1 k2 =>
  (Cl.toN (c_read_enable x d rest hxd hne _ [13, 10] [99, 111, 110, 100, 115, 116, 111, 114, 101] [[81, 114, 101, 115, 121, 110, 99]] td tp k1 k2 (by decide) rfl (fun z hz => by
    simp only [List.mem_cons, List.not_mem_nil, or_false] at hz
    rcases hz with rfl | rfl <;> exact ⟨by decide, at_all (by decide +kernel)⟩) (by decide) stop_at (by decide))).mono (by decide) fun v n ⟨a, u2, vs, tp', ev, en, hT⟩ =>
    ⟨[(a, _), (u2, _)], tp', by
      subst ev en
      have e : ([[99, 111, 110, 100, 115, 116, 111, 114, 101], [81, 114, 101, 115, 121, 110, 99]] : List (List UInt8)).map strW = [Str.ofString "CONDSTORE", Str.ofString "QRESYNC"] := by decide +kernel
      rw [e] at hT
      have hok : ∀ y ∈ [Str.ofString "CONDSTORE", Str.ofString "QRESYNC"], PyData.strOk y = true := fun y hy => by
        have all : ([Str.ofString "CONDSTORE", Str.ofString "QRESYNC"].all fun z => PyData.strOk z) = true := by decide +kernel
        exact List.all_eq_true.mp all y hy
      exact fun A s h₀ L N hu' => rcAt_tup1 N (.head _) (mem_two (a := (a, _)) (a2 := (u2, _)) hb) (by omega) (eqAt_strs N (.tail _ (.head _)) (mem_two (a := (a, _)) (a2 := (u2, _)) hu) hT hS hok (by show A.units + 1 + 64 < cLine; omega)), en⟩
theorem one_login (hb : (b, tpo [.bytes #[109, 101] t1, .bytes #[112, 34, 119] t2]) ∈ rest) : OneR w mean mg mb 631 [32, 109, 101, 32, 34, 112, 92, 34, 119, 34] b rest := fun x d hxd hne td tp k1 k2 =>
  (c_read_login x d rest hxd hne _ [109, 101] [112, 34, 119] [13, 10] td tp k1 k2 (by decide) rfl (by decide) (as_all (by decide +kernel)) (by decide) (q_all (by decide +kernel))).mono (by decide) fun v n ⟨a, u, u2, tp', ev, en⟩ =>
    ⟨[(a, _)], tp', by subst ev en; exact fun A s h₀ L N hu => rcAt_tup2 N (.head _) (mem_one (a := (a, _)) hb) (by omega) (eqAt_bytes _ _ _) (eqAt_bytes _ _ _), en⟩
end
end
theorem walk_off43 : True := by
  w_top off
  trivial
section
def StatR (w : World) (mean : ExcName → Option Value) (mg mb : Str → Option Value) (l : List UInt8) (y : Str) (ps : List Str) (n : Nat) : Prop :=
  ∀ (x d : Addr) (rest : List (Addr × Obj)), (@Ne Nat x d) → (∀ p ∈ rest, p.1 ≠ d) → ∀ (td tp k1 k2 : Tok), ClN w mean mg mb 659 12 ((x, instObj 506 d) :: (d, wd w l td (0 : Nat) tp k1 k2) :: rest) [.ref x]
    (fun v news' => ∃ a u vs t tp', v = .ref a ∧ news' = (a, tpo [.str y t, .ref u]) :: (u, tpo vs) :: (x, instObj 506 d) :: (d, wd w l td ((n : Nat) : Int) tp' k1 k2) :: rest ∧ StrsAre vs ps)
theorem StatR.use {w : World} {mean : ExcName → Option Value} {mg mb : Str → Option Value} {l : List UInt8} {y : Str} {ps : List Str} {n : Nat} {x d : Addr} {rest : List (Addr × Obj)} {td tp k1 k2 : Tok} (h : StatR w mean mg mb l y ps n) (e1 : @Ne Nat x d) (e2 : ∀ p ∈ rest, p.1 ≠ d) :
    ClN w mean mg mb 659 12 ((x, instObj 506 d) :: (d, wd w l td (0 : Nat) tp k1 k2) :: rest) [.ref x]
      (fun v news' => ∃ a u vs t tp', v = .ref a ∧ news' = (a, tpo [.str y t, .ref u]) :: (u, tpo vs) :: (x, instObj 506 d) :: (d, wd w l td ((n : Nat) : Int) tp' k1 k2) :: rest ∧ StrsAre vs ps) := h x d rest e1 e2 td tp k1 k2
theorem menu_tok {y : Str} {told : List UInt8} (h : (y, told) ∈ MenuP) : TokN told y := by
  simp only [MenuP, List.mem_cons, List.not_mem_nil, or_false, Prod.mk.injEq] at h
  rcases h with ⟨rfl, rfl⟩ | ⟨rfl, rfl⟩ | ⟨rfl, rfl⟩ | ⟨rfl, rfl⟩
  · exact tok_INBOX
  · exact tok_ab
  · exact tok_two
  · exact tok_nil
theorem stat_r {w : World} {mean : ExcName → Option Value} {mg mb : Str → Option Value} {l told w0 : List UInt8} {ws : List (List UInt8)} {y : Str} {ps : List Str} {n : Nat} (hz : l.length ≤ 65536) (hl : l = 32 :: (told ++ 32 :: 40 :: (w0 ++ (sepW ws ++ 41 :: [41])))) (hn : n = l.length - 1) (ht : TokN told y)
    (hws : ∀ w ∈ w0 :: ws, 0 < w.length ∧ w.length ≤ 20 ∧ ∀ c ∈ w, isAtom c.toNat = true) (hw : (w0 :: ws).length ≤ 100) (hps : ps = (w0 :: ws).map strW) (hm : ∀ p ∈ ps, (SWc.any (· == p)) = true) : StatR w mean mg mb l y ps n := fun x d rest e1 e2 td tp k1 k2 => by
  subst hps hn
  exact c_read_status x d rest e1 e2 l told w0 [41] ws y td tp k1 k2 hz hl ht (fun v hv => ⟨(hws v hv).1, (hws v hv).2.2⟩) hw fun v hv => hm _ (List.mem_map_of_mem hv)
end
theorem walk_off44 : True := by
  w_top off
  trivial
section
theorem bad_all {w : World} {mean : ExcName → Option Value} {mg mb : Str → Option Value} {t0 t1 t2 t3 t4 t5 t6 t7 t8 t9 : Tok} : ∀ v ∈ ([.bytes ([] : List UInt8).toArray t0, .bytes ([32, 97] : List UInt8).toArray t1, .bytes ([32, 97, 32] : List UInt8).toArray t2, .bytes ([32, 97, 32, 40, 41] : List UInt8).toArray t3, .bytes ([32, 97, 32, 40, 83, 69, 69, 78, 41] : List UInt8).toArray t4, .bytes ([32, 97, 32, 40, 83, 73, 90, 69] : List UInt8).toArray t5, .bytes ([32, 97, 32, 40, 83, 73, 90, 69, 32, 32, 85, 78, 83, 69, 69, 78, 41] : List UInt8).toArray t6, .bytes ([32, 97, 32, 40, 83, 73, 90, 69, 32, 41] : List UInt8).toArray t7, .bytes ([97, 32, 40, 83, 73, 90, 69, 41] : List UInt8).toArray t8, .bytes ([32, 97, 32, 83, 73, 90, 69] : List UInt8).toArray t9] : List Value),
    ∃ l t, v = Value.bytes (List.toArray l) t ∧ RSX w mean mg mb l := fun v hv => by
  simp only [List.mem_cons, List.not_mem_nil, or_false] at hv
  rcases hv with rfl | rfl | rfl | rfl | rfl | rfl | rfl | rfl | rfl | rfl
  · exact ⟨_, _, rfl, rsx_1⟩
  · exact ⟨_, _, rfl, rsx_2⟩
  · exact ⟨_, _, rfl, rsx_3⟩
  · exact ⟨_, _, rfl, rsx_4⟩
  · exact ⟨_, _, rfl, rsx_5⟩
  · exact ⟨_, _, rfl, rsx_6⟩
  · exact ⟨_, _, rfl, rsx_7⟩
  · exact ⟨_, _, rfl, rsx_8⟩
  · exact ⟨_, _, rfl, rsx_9⟩
  · exact ⟨_, _, rfl, rsx_10⟩
end
theorem walk_off45 : True := by
  w_top off
  trivial
section
theorem as_a {l : List UInt8} (h : (decide (l.length ≤ 72) && (l.all fun c => isPlain c.toNat) && decide (0 < l.length) && (l.all fun c => isAstring c.toNat) && !(lowerB l == nilB)) = true) : AsO l l := by
  simp only [Bool.and_eq_true, decide_eq_true_eq, Bool.not_eq_true', beq_eq_false_iff_ne] at h
  exact ⟨h.1.1.1.1, List.all_eq_true.mp h.1.1.1.2, .inl ⟨h.1.1.2, List.all_eq_true.mp h.1.2, h.2, rfl⟩⟩
theorem as_q {l : List UInt8} (h : (decide (l.length ≤ 72) && (l.all fun c => isPlain c.toNat) && decide (0 < l.length) && !(l.all fun c => isAstring c.toNat) && !(lowerB l == nilB)) = true) : AsO l (quoteB l) := by
  simp only [Bool.and_eq_true, decide_eq_true_eq, Bool.not_eq_true', beq_eq_false_iff_ne] at h
  exact ⟨h.1.1.1.1, List.all_eq_true.mp h.1.1.1.2, .inr (.inr ⟨h.1.1.2, h.2, h.1.2, rfl⟩)⟩
theorem as_0 : AsO [] (quoteB []) := ⟨by decide, (fun _ h => nomatch h), .inr (.inl ⟨rfl, rfl⟩)⟩
theorem pat_a {l : List UInt8} (h : (decide (l.length ≤ 72) && (l.all fun c => isPlain c.toNat) && decide (0 < l.length) && (l.all fun c => isPattern c.toNat) && !(lowerB l == nilB)) = true) : PatO l l := by
  simp only [Bool.and_eq_true, decide_eq_true_eq, Bool.not_eq_true', beq_eq_false_iff_ne] at h
  exact ⟨h.1.1.1.1, List.all_eq_true.mp h.1.1.1.2, h.1.1.2, h.2, .inl ⟨h.1.2, rfl⟩⟩
theorem pat_q {l : List UInt8} (h : (decide (l.length ≤ 72) && (l.all fun c => isPlain c.toNat) && decide (0 < l.length) && !(l.all fun c => isPattern c.toNat) && !(lowerB l == nilB)) = true) : PatO l (quoteB l) := by
  simp only [Bool.and_eq_true, decide_eq_true_eq, Bool.not_eq_true', beq_eq_false_iff_ne] at h
  exact ⟨h.1.1.1.1, List.all_eq_true.mp h.1.1.1.2, h.1.1.2, h.2, .inr ⟨h.1.2, rfl⟩⟩
section
variable {w : World} {mean : ExcName → Option Value} {mg mb : Str → Option Value} {aa u : Addr} {rest : List (Addr × Obj)} {t t1 : Tok}
theorem bytesR_of {a b : List UInt8} {news : List (Addr × Obj)} {v : Value} {n : List (Addr × Obj)} (e : a = b) (h : BytesR a.toArray news v n) : BytesR b.toArray news v n := e ▸ h
theorem w_rename : ClN w mean mg mb 584 11 ((aa, tpo [.str (Str.ofString "INBOX") t, .str (Str.ofString "b c") t1]) :: rest) [.ref aa] (BytesR ([32, 73, 78, 66, 79, 88, 32, 34, 98, 32, 99, 34] : List UInt8).toArray ((aa, tpo [.str (Str.ofString "INBOX") t, .str (Str.ofString "b c") t1]) :: rest)) := by
  have e1 : Str.ofString "INBOX" = mkS [73, 78, 66, 79, 88] := by decide +kernel
  have e2 : Str.ofString "b c" = mkS [98, 32, 99] := by decide +kernel
  rw [e1, e2]
  exact (c_write_rename aa rest [73, 78, 66, 79, 88] [98, 32, 99] [73, 78, 66, 79, 88] (quoteB [98, 32, 99]) t t1 (ps_all (by decide +kernel)) (as_a (by decide +kernel)) (ps_all (by decide +kernel)) (as_q (by decide +kernel))).mono (Nat.le_refl _) fun v n h => bytesR_of (by decide +kernel) h
theorem w_list1 : ClN w mean mg mb 591 11 ((aa, tpo [.str (Str.ofString "") t, .str (Str.ofString "a/%") t1]) :: rest) [.ref aa] (BytesR ([32, 34, 34, 32, 97, 47, 37] : List UInt8).toArray ((aa, tpo [.str (Str.ofString "") t, .str (Str.ofString "a/%") t1]) :: rest)) := by
  have e1 : Str.ofString "" = mkS [] := by decide +kernel
  have e2 : Str.ofString "a/%" = mkS [97, 47, 37] := by decide +kernel
  rw [e1, e2]
  exact (c_write_list aa rest [] [97, 47, 37] [97, 47, 37] (quoteB []) [97, 47, 37] t t1 (ps_all (by decide +kernel)) as_0 (ps_all (by decide +kernel)) (by decide +kernel) (pat_a (by decide +kernel))).mono (Nat.le_refl _) fun v n h => bytesR_of (by decide +kernel) h
theorem w_list2 : ClN w mean mg mb 591 11 ((aa, tpo [.str (Str.ofString "x") t, .str (Str.ofString "q r*") t1]) :: rest) [.ref aa] (BytesR ([32, 120, 32, 34, 113, 32, 114, 42, 34] : List UInt8).toArray ((aa, tpo [.str (Str.ofString "x") t, .str (Str.ofString "q r*") t1]) :: rest)) := by
  have e1 : Str.ofString "x" = mkS [120] := by decide +kernel
  have e2 : Str.ofString "q r*" = mkS [113, 32, 114, 42] := by decide +kernel
  rw [e1, e2]
  exact (c_write_list aa rest [120] [113, 32, 114, 42] [113, 32, 114, 42] [120] (quoteB [113, 32, 114, 42]) t t1 (ps_all (by decide +kernel)) (as_a (by decide +kernel)) (ps_all (by decide +kernel)) (by decide +kernel) (pat_q (by decide +kernel))).mono (Nat.le_refl _) fun v n h => bytesR_of (by decide +kernel) h
theorem w_login : ClN w mean mg mb 570 9 ((aa, tpo [.bytes #[109, 101] t, .bytes #[112, 34, 119] t1]) :: rest) [.ref aa] (BytesR ([32, 109, 101, 32, 34, 112, 92, 34, 119, 34] : List UInt8).toArray ((aa, tpo [.bytes #[109, 101] t, .bytes #[112, 34, 119] t1]) :: rest)) :=
  (c_write_login aa rest [109, 101] [112, 34, 119] [109, 101] (quoteB [112, 34, 119]) t t1 (as_a (by decide +kernel)) (as_q (by decide +kernel))).mono (Nat.le_refl _) fun v n h => bytesR_of (by decide +kernel) h
theorem w_enable {vs : List Value} (hm : (u, tpo vs) ∈ rest) (hS : StrsAre vs [Str.ofString "CONDSTORE", Str.ofString "IDLE"]) : ClN w mean mg mb 577 5 ((aa, tpo [.ref u]) :: rest) [.ref aa] (BytesR ([32, 67, 79, 78, 68, 83, 84, 79, 82, 69, 32, 73, 68, 76, 69] : List UInt8).toArray ((aa, tpo [.ref u]) :: rest)) := by
  have e1 : [Str.ofString "CONDSTORE", Str.ofString "IDLE"] = ([[67, 79, 78, 68, 83, 84, 79, 82, 69], [73, 68, 76, 69]] : List (List Nat)).map mkS := by decide +kernel
  rw [e1] at hS
  refine (Cl.toN (c_write_enable aa u rest vs [[67, 79, 78, 68, 83, 84, 79, 82, 69], [73, 68, 76, 69]] hm hS (by decide) ?_)).mono (Nat.le_refl _) fun v n h => bytesR_of (by decide +kernel) h
  have all : (([[67, 79, 78, 68, 83, 84, 79, 82, 69], [73, 68, 76, 69]] : List (List Nat)).all fun w => w.all fun c => decide (c ≤ 127)) = true := by decide +kernel
  intro w hw c hc
  exact of_decide_eq_true (List.all_eq_true.mp (List.all_eq_true.mp all w hw) c hc)
end
theorem eq_same {prog : Program} {w : World} {A : Around} {E : Value → Shared → Prop} {s : Shared} {b c : List UInt8} {t u : Tok} {Q : Value → Shared → Prop} (e : b = c) (h : Q (.bool true) s) : wpAny (model prog w) A (compareOp .Eq (.bytes b.toArray t) (.bytes c.toArray u)) Q E s :=
  eq_bytes (by subst e; simpa using h)
end
theorem say0Z : True := by
  k_with_none
  k_with "my_room" => first | (refine' roomD ?h9 ?r9; (case h9 => assumption); (case r9 => exact rfl); done) | ktr_room
  k_with "my_units" => first | (refine' roomU ?h9 ?r9; (case h9 => assumption); (case r9 => exact rfl); done) | ktr_units
  k_with "U" => (case k1 => k_asm); (case k2 => k_asm); (case k3 => k_asm); (case k4 => k_extra "my_wire"); (case k5 => k_asm); (case kK => first | exact rfl | assumption); (case kd => k_extra "my_room"); (case ku => k_extra "my_units")
  trivial
local macro_rules | `(tactic| k_all) => `(tactic| assumption)
local macro_rules | `(tactic| boot_fact) => `(tactic| with_reducible exact boot_bytearray)
theorem say54 : True := by
  k_with "my_use" => ((case k1 => k_asm); (case k2 => k_asm); (case k3 => k_asm); (case k4 => k_asm); (case k5 => k_asm); (case kK => first | exact rfl | assumption); (case kd => k_extra "my_room"); (case ku => k_extra "my_units"))
  k_with "my_enter" => (refine' code_def ?k1 ?k2 ?k3 ?k4 ?k5 ?kA ?kF ?kK ?k6 ?k7 ?k8 ?k9 ?kB ?_ ?c2 ?c3 ?c4 ?c5; (case kA => exact rfl); (case kF => exact rfl); (case kK => first | exact rfl | assumption); (case k1 => k_asm); (case k2 => k_asm); (case k3 => k_asm); (case k4 => k_asm); (case k5 => k_asm); (case k6 => k_is); (case k7 => k_is); (case k8 => k_extra "my_room"); (case k9 => first | exact BindsTo.of_eq rfl | exact binds_K (by k_in) rfl (by k_is) rfl rfl rfl); (case c5 => decide); (case kB => exact locs rfl); (case c2 => exact rfl); (case c3 => exact rfl); (case c4 => exact rfl); k_whole; intro _ _ _ _ _ _ B'₉ _ _; (try dsimp only); (try k_lift B'₉); (try k_fold))
  k_with "call ref" => (k_here; k_dflt ( (refine' call_cls ?k1 ?k2 ?k3 ?k4 ?k5 ?k6 ?_; (case k1 => k_asm); (case k2 => k_asm); (case k3 => k_asm); (case k4 => k_is); (case k5 => k_is); (case k6 => k_is); k_whole; intro _ _ _ _ _ l1₉ l2₉; (try k_lt l1₉); (try k_lt2 l2₉); (try k_sweep); k_extra "my_enter")))
  k_with "compareOp In int bytes" => (refine in_bytes (by omega) (by omega) ?_)
  k_with "compareOp NotIn int bytes" => (refine notIn_bytes (by omega) (by omega) ?_)
  k_with "subscriptTail" => ((with_reducible show wpAny _ _ (subscriptTail _ (Expr.Slice _ _ none _) (Value.bytes (List.toArray _) _) (Value.ref _)) _ _ _); (with_reducible rename Fr _ _ _ _ => F'₉); (with_reducible rename News _ _ _ _ => N'₉); (refine slice_B (s := ⟨_, _, _, _, _⟩) F'₉ N'₉ (by omega) (by omega) (by omega) ?_); intro _ _ _ F'₉ N'₉; (try dsimp only))
  k_with "subscriptTail" => ((with_reducible show wpAny _ _ (subscriptTail _ _ (Value.bytes (List.toArray _) _) (Value.int _ _)) _ _ _); (refine KBy.item_N (by omega) (by omega) (by omega) ?_))
  k_with "call builtin:len" => ((with_reducible show wpAny _ _ (call (Value.builtin "len") [Value.bytes _ _]) _ _ _); (refine len_bytes (by simp only [List.size_toArray]; omega) ?_); (try simp only [List.size_toArray]))
  k_with "my_byte0" => first | omega | exact Int.natCast_nonneg _
  k_with "my_byte1" => first | omega | exact Int.ofNat_lt.mpr (UInt8.toNat_lt _)
  k_with "eval Name" => ((first | with_reducible show wpAny _ _ (eval (Expr.Name (PySem.Str.ofString "QUOTE") _) _) _ _ _ | with_reducible show wpAny _ _ (eval (Expr.Name (PySem.Str.ofString "BACKSLASH") _) _) _ _ _ | with_reducible show wpAny _ _ (eval (Expr.Name (PySem.Str.ofString "MOST_QUOTED") _) _) _ _ _); with_unfolding_all (refine guard_global (by rfl) ?_; refine guard_lit (by assumption) (by assumption) (by decide +kernel) ?_; refine tp_int (by assumption) (by assumption) rfl ?_); intro _; (try simp only [Int.reduceToNat]))
  k_with "eval Name" => ((first | with_reducible show wpAny _ _ (eval (Expr.Name (PySem.Str.ofString "DELIMITER") _) _) _ _ _ | with_reducible show wpAny _ _ (eval (Expr.Name (PySem.Str.ofString "INBOX") _) _) _ _ _ | with_reducible show wpAny _ _ (eval (Expr.Name (PySem.Str.ofString "STATUS_WORDS") _) _) _ _ _); with_unfolding_all (refine guard_global (by rfl) ?_; refine guard_lit (by assumption) (by assumption) (by decide +kernel) ?_; refine tp_str (by assumption) (by assumption) rfl ?_); intro _)
  k_with "call builtin:len" => ((with_reducible show wpAny _ _ (call (Value.builtin "len") [Value.str (mkS _) _]) _ _ _); k_dflt (refine len_S (by omega) ?_); intro _ _; (try dsimp only))
  k_with "subscriptTail Name Name str int" => ((with_reducible show wpAny _ _ (subscriptTail _ _ (Value.str (mkS _) _) (Value.int _ _)) _ _ _); k_dflt (refine item_S (by omega) (by omega) (by omega) ?_); intro _ _; (try dsimp only))
  k_with "my_mem" => (simp only [List.mem_cons, true_or, or_true]; done)
  k_with "compareOp Eq int int" => k_dflt (first | refine cmpEq_t (by omega) ?_ | refine cmpEq_f (by omega) ?_)
  k_with "compareOp NotEq int int" => k_dflt (first | refine cmpNe_t (by omega) ?_ | refine cmpNe_f (by omega) ?_)
  k_with "compareOp Lt int int" => k_dflt (first | refine cmpLt_t (by omega) ?_ | refine cmpLt_f (by omega) ?_)
  k_with "compareOp Gt int int" => k_dflt (first | refine cmpGt_t (by omega) ?_ | refine cmpGt_f (by omega) ?_)
  k_with "compareOp In int bytes" => (k_dflt (refine in_bytes_f (by omega) (by omega) (by assumption) ?_))
  k_with "call type:bytes" => ((with_reducible show wpAny _ _ (call (Value.type "bytes") [Value.bytes _ _]) _ _ _); k_dflt (refine bytes_bytes ?_))
  k_with "binaryOp Add bytes bytes" => (k_dflt (refine add_Y ?_ ?_); (case refine_1 => first | omega | (simp only [List.length_append, List.length_cons, List.length_nil, List.length_map]; omega)); intro _ _; (try dsimp only))
  trivial
theorem say55 : True := by
  k_with "call ref" => ((with_reducible show wpAny _ _ (call (Value.ref 272) [Value.int _ _]) _ _ _); k_dflt (refine' Cl.useB (c_is_printable _ _ _) ?k1 ?k2 ?k3 ?k4 ?k5 ?kK ?kd ?ku ?_; k_extra "my_use"); intro _ _ _ _; (try dsimp only); (try k_fold))
  k_with "call ref" => ((with_reducible show wpAny _ _ (call (Value.ref 279) [Value.int _ _]) _ _ _); k_dflt (refine' Cl.useB (c_is_atom_code _ _ _) ?k1 ?k2 ?k3 ?k4 ?k5 ?kK ?kd ?ku ?_; k_extra "my_use"); intro _ _ _ _; (try dsimp only); (try k_fold))
  k_with "call ref" => ((with_reducible show wpAny _ _ (call (Value.ref 286) [Value.int _ _]) _ _ _); k_dflt (refine' Cl.useB (c_is_astring_code _ _ _) ?k1 ?k2 ?k3 ?k4 ?k5 ?kK ?kd ?ku ?_; k_extra "my_use"); intro _ _ _ _; (try dsimp only); (try k_fold))
  k_with "call ref" => ((with_reducible show wpAny _ _ (call (Value.ref 293) [Value.int _ _]) _ _ _); k_dflt (refine' Cl.useB (c_is_pattern_code _ _ _ (by k_extra "my_byte0") (by k_extra "my_byte1")) ?k1 ?k2 ?k3 ?k4 ?k5 ?kK ?kd ?ku ?_; k_extra "my_use"); intro _ _ _ _; (try dsimp only); (try k_fold))
  k_with "call ref" => ((with_reducible show wpAny _ _ (call (Value.ref 167) [Value.int _ _]) _ _ _); k_dflt (refine' Cl.useB (c_is_plain_code _ _ _) ?k1 ?k2 ?k3 ?k4 ?k5 ?kK ?kd ?ku ?_; k_extra "my_use"); intro _ _ _ _; (try dsimp only); (try k_fold))
  k_with "call ref" => ((with_reducible show wpAny _ _ (call (Value.ref 140) [Value.int _ _]) _ _ _); k_dflt (refine' Cl.useI (c_lower_code _ _ _) ?k1 ?k2 ?k3 ?k4 ?k5 ?kK ?kd ?ku ?_; k_extra "my_use"); intro _ _ _ _ _; (try dsimp only); (try k_fold))
  trivial
theorem say56 : True := by
  k_with "my_wire" => first | k_asm | exact News.rot1 (by k_asm) | exact News.rot2 (by k_asm) | exact News.rot3 (by k_asm) | exact News.unrot1 (by k_asm)
  k_with "my_ne" => first | assumption | omega
  k_with "my_at" => first | assumption
  k_with "my_head" => first | assumption | (simp; done)
  k_with "my_steps" => repeat' (first | (k_unfold; (try dsimp only)) | ((with_reducible show wpAny _ _ (call (Prod.fst _) _) _ _ _); (dsimp only [List.cons_append, List.nil_append])) | ((fail_if_success (with_reducible show wpAny _ _ (exec (Stmt.While _ _ _ _) _) _ _ _)); (fail_if_success (with_reducible show wpAny _ _ (exec (Stmt.For _ _ _ _ _) _) _ _ _)); (fail_if_success (with_reducible show wpAny _ _ (exec (Stmt.Raise _ _ _) _) _ _ _)); (fail_if_success (with_reducible show wpAny _ _ (pyIter _) _ _ _)); (fail_if_success (with_reducible show wpAny _ _ (eval (Expr.ListComp _ _ _ _) _) _ _ _)); first | walk1 | (dsimp only; walk1)) | (leave1; walk_say "STEP leave1"; try dsimp only) | fail "no step")
  k_with "my_in" => first | ((with_reducible rename Frag.In _ _ => X7₉); (with_reducible rename Fr _ _ _ _ => F7₉); exact X7₉.keeps F7₉.keep) | k_in
  k_with "n_leaf" => (refine wpN_of ?_; k_extra "my_steps")
  k_with "n_calls" => fail "no call"
  k_with "n_calls" => ((with_reducible show wpN _ _ (call (Value.type "bytearray") []) _ _); (with_reducible rename Fr _ _ _ _ => F'₉); (with_reducible rename News _ _ _ _ => N'₉); (refine ba_make (o := none) F'₉ N'₉ (Nat.zero_le _) rfl ?_); intro _ _ F'₉ N'₉ _; (try dsimp only); (try dsimp only [iniVal] at N'₉))
  k_with "n_calls" => ((with_reducible show wpN _ _ (call (Value.type "bytearray") [Value.bytes _ _]) _ _); (with_reducible rename Fr _ _ _ _ => F'₉); (with_reducible rename News _ _ _ _ => N'₉); (refine ba_make (o := some (_, _)) F'₉ N'₉ (Nat.le_of_ble_eq_true rfl) rfl ?_); intro _ _ F'₉ N'₉ _; (try dsimp only); (try dsimp only [iniVal] at N'₉))
  k_with "n_calls" => ((with_reducible show wpN _ _ (call (Value.builtin "bytearray.append") [Value.ref _, Value.int _ _]) _ _); (refine' ba_append ?F ?N ?ne ?z ?h0 ?h1 rfl ?_; (case F => k_asm); (case N => k_extra "my_wire"); (case ne => k_extra "my_ba"); (case z => k_extra "my_size"); (case h0 => k_extra "my_byte0"); (case h1 => k_extra "my_byte1")); intro _ _ _; (try dsimp only))
  k_with "my_ba" => first | assumption | exact neXd (by assumption) (by assumption) (by assumption) | (intro p₉ hp₉; simp only [List.mem_cons] at hp₉; rcases hp₉ with rfl | rfl | hp₉ <;> first | assumption | exact Ne.symm (by assumption) | exact (by assumption : ∀ p₉ ∈ _, p₉.1 ≠ _) _ hp₉)
  k_with "my_size" => first | assumption | omega | ((have h8₉ := (by assumption : List.length _ ≤ 2001)); simp only [List.length_append, List.length_cons, List.length_nil] at h8₉ ⊢; omega) | (simp only [List.length_map]; omega)
  k_with "call type:bytes" => ((with_reducible show wpAny _ _ (call (Value.type "bytes") [Value.ref _]) _ _ _); k_dflt (refine' ba_bytesN ?N ?hm ?z ?_; (case N => k_asm); (case hm => k_memK); (case z => k_extra "my_size")); intro _ _; (try dsimp only))
  k_with "getMethod ref" => ((with_reducible show wpAny _ _ (getMethod (Value.ref _) (PySem.Str.ofString "append") _) _ _ _); k_dflt (refine' ba_getAppend ?N ?hm ?_; (case N => k_asm); (case hm => k_memK)))
  k_with "n_step" => first | ((with_reducible show wpN _ _ (execs _ _) _ _); first | refine nExecs_cons ?_ | refine nExecs_nil ?_) | ((with_reducible show wpN _ _ (eval _ _) _ _); first | ((with_reducible show wpN _ _ (eval (Expr.Call (Expr.Attribute _ _ _) _ _ _) _) _ _); refine nMethod ?_) | ((with_reducible show wpN _ _ (eval (Expr.Call (Expr.Name _ _) _ _ _) _) _ _); refine nCallName ?_) | ((with_reducible show wpN _ _ (eval (Expr.BinOp _ _ _ _) _) _ _); refine nBinOp ?_) | ((with_reducible show wpN _ _ (eval (Expr.Compare _ _ _ _) _) _ _); refine nCompare ?_) | ((with_reducible show wpN _ _ (eval (Expr.BoolOp _ _ _) _) _ _); refine nAnd ?_) | ((with_reducible show wpN _ _ (eval (Expr.IfExp _ _ _ _) _) _ _); refine nIfExp ?_) | ((with_reducible show wpN _ _ (eval (Expr.Tuple _ _ _) _) _ _); refine nTupleN ?_) | ((fail_if_success (with_reducible show wpN _ _ (eval (Expr.ListComp _ _ _ _) _) _ _)); (refine wpN_of ?_; walk1))) | ((with_reducible show wpN _ _ (spliced _) _ _); first | refine nSpliced_cons ?_ | refine nSpliced_nil ?_) | ((with_reducible show wpN _ _ (exec _ _) _ _); first | ((with_reducible show wpN _ _ (exec (Stmt.Expr _ _) _) _ _); refine nExpr ?_) | ((with_reducible show wpN _ _ (exec (Stmt.If _ _ _ _) _) _ _); refine nIf ?_) | ((with_reducible show wpN _ _ (exec (Stmt.Assign [Expr.Name _ _] _ _) _) _ _); refine nAssign ?_) | ((with_reducible show wpN _ _ (exec (Stmt.Return _ _) _) _ _); refine nReturn ?_) | ((with_reducible show wpN _ _ (exec (Stmt.Assign [Expr.Attribute _ _ _] _ _) _) _ _); (refine wpN_of ?_; walk1)) | ((with_reducible show wpN _ _ (exec (Stmt.AugAssign _ _ _ _) _) _ _); (refine wpN_of ?_; walk1)) | ((with_reducible show wpN _ _ (exec (Stmt.Try _ _ _ _ _) _) _ _); refine nTry ?_) | ((with_reducible show wpN _ _ (exec (Stmt.For _ _ _ _ _) _) _ _); refine nFor ?_)) | ((with_reducible show wpN _ _ (callWith _ _ _ _ _) _ _); first | ((with_reducible show wpN _ _ (callWith _ (Value.ref _) _ (backTo _ (starEach (_ :: _) _)) _) _ _); refine' nCallWith ?k1 ?k2 ?_; (case k1 => k_asm); (case k2 => k_dflt k_is)) | ((with_reducible show wpN _ _ (callWith _ (Value.ref _) _ (backTo _ (starEach [] _)) _) _ _); refine' nCallWith0 ?k1 ?k2 ?_; (case k1 => k_extra "my_in"); (case k2 => k_dflt k_is)) | ((with_reducible show wpN _ _ (callWith _ (Value.ref _) _ (backTo _ (starEach [] _)) _) _ _); refine' nCallWithM0 (g := ?g) (self := ?sf) ?X ?hf ?_; (case X => ((with_reducible rename News _ _ _ _ => N9₉); exact methP N9₉ (by k_memK) (by k_extra "my_in"))); (case hf => k_dflt k_is)) | ((with_reducible show wpN _ _ (callWith _ (Value.builtin _) _ (backTo _ (starEach (_ :: _) _)) _) _ _); refine nCallWithB ?_) | ((with_reducible show wpN _ _ (callWith _ (Value.type _) _ (backTo _ (starEach (_ :: _) _)) _) _ _); refine nCallWithT ?_) | ((with_reducible show wpN _ _ (callWith _ (Value.type _) _ (backTo _ (starEach [] _)) _) _ _); refine nCallWithT0 ?_)) | ((with_reducible show wpN _ _ (call _ _) _ _); first | ((with_reducible show wpN _ _ (call _ (_ ++ _)) _ _); dsimp only [List.nil_append, List.cons_append]) | k_extra "n_calls" | (refine wpN_of ?_; walk1)) | ((with_reducible show wpN _ _ (isTrue _ _ _) _ _); first | ((with_reducible show wpN _ _ (isTrue (Expr.Compare _ _ _ _) _ _) _ _); refine nTrueCompare ?_) | ((with_reducible show wpN _ _ (isTrue (Expr.UnaryOp _ _ _) _ _) _ _); refine nTrueNot ?_) | ((with_reducible show wpN _ _ (isTrue (Expr.BoolOp BoolOp.Or [_, _] _) _ _) _ _); refine nTrueOr ?_) | ((with_reducible show wpN _ _ (isTrue (Expr.BoolOp BoolOp.Or [_, _, _] _) _ _) _ _); refine nTrueOr3 ?_) | ((with_reducible show wpN _ _ (isTrue (Expr.BoolOp _ _ _) _ _) _ _); (refine wpN_of ?_; walk1)) | refine nTrueValue ?_) | ((with_reducible show @ite Prop _ _ _ _); first | rw [if_neg Bool.false_ne_true] | rw [if_pos rfl]) | ((with_reducible show wpN _ _ (@ite _ _ _ _ _) _ _); first | rw [if_neg Bool.false_ne_true] | rw [if_pos rfl]) | ((with_reducible show List.length _ ≤ sizeLine ∧ _); refine ⟨Nat.le_of_ble_eq_true rfl, _, _, _, _, by k_asm, by k_asm, ?_⟩; intro _ _ _ _ _; (try dsimp only)) | ((with_reducible show Frag.In _ _ ∧ _); refine ⟨by k_extra "my_in", ?_⟩) | ((with_reducible show wpN _ _ _ _ _); (fail_if_success (with_reducible show wpN _ _ (exec _ _) _ _)); (fail_if_success (with_reducible show wpN _ _ (callWith _ _ _ _ _) _ _)); (fail_if_success (with_reducible show wpN _ _ (eval (Expr.ListComp _ _ _ _) _) _ _)); (refine wpN_of ?_; walk1))
  k_with "n_steps" => repeat' (first | k_extra "n_step" | k_extra "my_one")
  k_with "my_one" => (first | (k_unfold; (try dsimp only)) | ((with_reducible show wpAny _ _ (call (Prod.fst _) _) _ _ _); (dsimp only [List.cons_append, List.nil_append])) | ((fail_if_success (with_reducible show wpN _ _ _ _ _)); (fail_if_success (with_reducible show wpAny _ _ (exec (Stmt.While _ _ _ _) _) _ _ _)); (fail_if_success (with_reducible show wpAny _ _ (exec (Stmt.For _ _ _ _ _) _) _ _ _)); (fail_if_success (with_reducible show wpAny _ _ (exec (Stmt.Raise _ _ _) _) _ _ _)); (fail_if_success (with_reducible show wpAny _ _ (pyIter _) _ _ _)); (fail_if_success (with_reducible show wpAny _ _ (eval (Expr.ListComp _ _ _ _) _) _ _ _)); first | walk1 | (dsimp only; walk1)) | fail "no step")
  trivial
theorem say57 : True := by
  k_with "z_ne" => (repeat (refine ne_cons (by omega) ?_)); exact ne_nil
  k_with "n_calls" => ((with_reducible show wpN _ _ (call (Value.ref 659) [Value.ref _]) _ _); k_dflt (refine' ClN.use (StatR.use (by assumption) ?e1 ?e2) ?k1 ?k2 ?k3 ?k4 ?k5 ?kK ?kd ?ku ?_; k_extra "U"; (case e1 => omega); (case e2 => k_extra "z_ne")); rintro _ _ _ _ ⟨_, _, _, _, _, ev'₉, en'₉, _⟩ _ _; subst ev'₉ en'₉; (try dsimp only))
  k_with "call ref" => ((with_reducible show wpAny _ _ (call (Value.ref 666) [Value.bytes _ _]) _ _ _); k_dflt (refine' Cl0.use (c_no_status _ _ _ (by assumption)) ?k1 ?k2 ?k3 ?k4 ?k5 ?kK ?kd ?ku ?_; k_extra "U"); (rintro _ _ _ _ ⟨rfl, rfl⟩ _ _); (try dsimp only))
  k_with "n_calls" => ((with_reducible show wpN _ _ (call (Value.ref 673) [Value.ref 645, Value.bytes _ _, Value.ref _]) _ _); k_dflt (refine' ClN.use (c_one _ _ _ _ _ ?e0 ?e1 (one_rename ?e2)) ?k1 ?k2 ?k3 ?k4 ?k5 ?kK ?kd ?ku ?_; k_extra "U"; (case e0 => k_is); (case e1 => exact Nat.le_of_ble_eq_true rfl); (case e2 => k_memK)); (rintro _ _ _ _ ⟨ev'₉, en'₉⟩ _ _; subst ev'₉ en'₉); (try dsimp only))
  k_with "n_calls" => ((with_reducible show wpN _ _ (call (Value.ref 673) [Value.ref 652, Value.bytes _ _, Value.ref _]) _ _); k_dflt (refine' ClN.use (c_one _ _ _ _ _ ?e0 ?e1 (one_list ?e2)) ?k1 ?k2 ?k3 ?k4 ?k5 ?kK ?kd ?ku ?_; k_extra "U"; (case e0 => k_is); (case e1 => exact Nat.le_of_ble_eq_true rfl); (case e2 => k_memK)); (rintro _ _ _ _ ⟨ev'₉, en'₉⟩ _ _; subst ev'₉ en'₉); (try dsimp only))
  k_with "n_calls" => ((with_reducible show wpN _ _ (call (Value.ref 673) [Value.ref 638, Value.bytes _ _, Value.ref _]) _ _); k_dflt (refine' ClN.use (c_one _ _ _ _ _ ?e0 ?e1 (one_enable ?e2 ?e3 ?e4)) ?k1 ?k2 ?k3 ?k4 ?k5 ?kK ?kd ?ku ?_; k_extra "U"; (case e0 => k_is); (case e1 => exact Nat.le_of_ble_eq_true rfl); (case e2 => k_memK); (case e3 => k_memK); (case e4 => exact .cons _ _ (.cons _ _ .nil))); (rintro _ _ _ _ ⟨ev'₉, en'₉⟩ _ _; subst ev'₉ en'₉); (try dsimp only))
  k_with "n_calls" => ((with_reducible show wpN _ _ (call (Value.ref 673) [Value.ref 631, Value.bytes _ _, Value.ref _]) _ _); k_dflt (refine' ClN.use (c_one _ _ _ _ _ ?e0 ?e1 (one_login ?e2)) ?k1 ?k2 ?k3 ?k4 ?k5 ?kK ?kd ?ku ?_; k_extra "U"; (case e0 => k_is); (case e1 => exact Nat.le_of_ble_eq_true rfl); (case e2 => k_memK)); (rintro _ _ _ _ ⟨ev'₉, en'₉⟩ _ _; subst ev'₉ en'₉); (try dsimp only))
  k_with "n_calls" => ((with_reducible show wpN _ _ (call (Value.ref 584) [Value.ref _]) _ _); k_dflt (refine' ClN.use (w_rename) ?k1 ?k2 ?k3 ?k4 ?k5 ?kK ?kd ?ku ?_; k_extra "U"); (rintro _ _ _ _ ⟨_, ev'₉, en'₉⟩ _ _; subst ev'₉ en'₉); (try dsimp only))
  k_with "n_calls" => ((with_reducible show wpN _ _ (call (Value.ref 591) [Value.ref _]) _ _); k_dflt (refine' ClN.use (w_list1) ?k1 ?k2 ?k3 ?k4 ?k5 ?kK ?kd ?ku ?_; k_extra "U"); (rintro _ _ _ _ ⟨_, ev'₉, en'₉⟩ _ _; subst ev'₉ en'₉); (try dsimp only))
  k_with "n_calls" => ((with_reducible show wpN _ _ (call (Value.ref 591) [Value.ref _]) _ _); k_dflt (refine' ClN.use (w_list2) ?k1 ?k2 ?k3 ?k4 ?k5 ?kK ?kd ?ku ?_; k_extra "U"); (rintro _ _ _ _ ⟨_, ev'₉, en'₉⟩ _ _; subst ev'₉ en'₉); (try dsimp only))
  k_with "n_calls" => ((with_reducible show wpN _ _ (call (Value.ref 577) [Value.ref _]) _ _); k_dflt (refine' ClN.use (w_enable ?e2 ?e3) ?k1 ?k2 ?k3 ?k4 ?k5 ?kK ?kd ?ku ?_; k_extra "U"; (case e2 => k_memK); (case e3 => exact .cons _ _ (.cons _ _ .nil))); (rintro _ _ _ _ ⟨_, ev'₉, en'₉⟩ _ _; subst ev'₉ en'₉); (try dsimp only))
  k_with "n_calls" => ((with_reducible show wpN _ _ (call (Value.ref 570) [Value.ref _]) _ _); k_dflt (refine' ClN.use (w_login) ?k1 ?k2 ?k3 ?k4 ?k5 ?kK ?kd ?ku ?_; k_extra "U"); (rintro _ _ _ _ ⟨_, ev'₉, en'₉⟩ _ _; subst ev'₉ en'₉); (try dsimp only))
  k_with "n_step" => ((with_reducible show wpN _ _ (compareOp CmpOp.NotEq (Value.bytes (List.toArray _) _) (Value.bytes (List.toArray _) _)) _ _); refine wpN_of (ne_same rfl ?_))
  k_with "n_step" => ((with_reducible show wpN _ _ (compareOp CmpOp.Eq (Value.bytes (List.toArray _) _) (Value.bytes (List.toArray _) _)) _ _); refine wpN_of (eq_same rfl ?_))
  trivial
theorem walk_off46 : True := by
  w_top off
  trivial
section
theorem law_entry : PySem.Challenge.rw_pq0950_01.Holds := by
  refine hd.top (by rfl) (by rfl) (by rfl) ?_
  k_fill
  intro w s₀ s₁ mg mb G Y fa o pm cd doc dV kV ho hd hcd hD hmg hg args vals as hpre hlay hrd hwl hlo
  have KX := kIn_of Y
  have X := (Ground.X G).1
  have V := (Ground.X G).2
  refine Ground.open G ?_
  intro T B D TE TW
  obtain ⟨_, _, M⟩ := bmod_of_top T
  have TA := at_of_top T
  try (obtain ⟨_, _, he, B0⟩ := based_of_top T rfl hmg ho hd; have he' : cd = _ := he; subst he'; clear he)
  clear hmg
  wrow_args hpre hlay hrd hwl hlo
  refine wpN_call ?_
  have K0 := below_caller (Top.heap T)
  have he := Dflts.none hD rfl; subst he; have he := Dflts.noKw hD; subst he
  refine callN_cells (binds := [(Str.ofString "script", _)]) (by decide) ho (fd_plain hd) (Top.nolimit T) hcd rfl (kinds_of (by kinds_ok)) (by decide) fun h₁ tk₁ cells F N0 X0 => ?_
  k_cells X0
  clear hd TA
  k_drop
  clear hcd hD G
  dsimp only at F N0 ⊢
  try k_fold
  refine wpN_mono (Q := LawEnd s₁ s₁.heap.objs.size) ?_ ?_
  rotate_left
  · rintro f s' ⟨rfl, h9, tk9, m9, rfl, F9⟩
    dsimp only
    clear F N0
    refine GoodW.toG ?_
    wrow_close
  rename _ = Data.cell _ => e1
  replace e1 : _ = Data.cell none := e1
  revert e1
  rename _ = Data.cell _ => e2
  replace e2 : _ = Data.cell none := e2
  intro e1
  replace K0 : Below callerA s₁.heap [] s₁.heap := K0
  k_extra "n_steps"
  refine wpN_of ?_
  with_reducible rename Fr _ _ _ _ => F9
  refine ListComp_L (cl := _) F9 (by with_unfolding_all rfl) (by decide) rfl (by decide) rfl ?_
  k_extra "my_steps"
  with_reducible rename News _ _ _ _ => N9
  rename IntsAre _ (List.take 12 _) => I9
  have hwl9 := I9.length
  have hw9 : (List.take 12 (by assumption : List Int)).length ≤ 12 := List.length_take_le ..
  refine ⟨_, _, _, _, rfl, rfl, by k_asm, N9, .head _, ?_, ?_⟩
  · rw [hwl9, sizeLine_eq, List.length_take]; omega
  rintro s₂ ⟨hh, rfl⟩
  refine rest_all (fun i v => ∃ n t, v = .int n t ∧ 0 ≤ n) ?_ (.head _) ?_
  · intro i v I oI C oC D m₂ ys h tk E' hi hP hC hx F8 N8 off ne
    obtain ⟨n, t, hn, rfl⟩ := ints_at I9 hP
    k_extra "my_steps"
    exact ⟨_, _, rfl, by k_asm, by k_asm, _, _, rfl, by omega⟩
  · intro ys hl' hR D h tk F8 N8 o1
    obtain ⟨ns, c1, c2, c3⟩ := ints_mk hR
    k_extra "my_steps"
    k_extra "n_steps"
    with_reducible rename Fr _ _ _ _ => F9
    with_reducible rename News _ _ _ _ => N9
    rename IntsAre _ (ns ++ [11]) => I9
    replace N9 := News.picks N9 [0, 4, 5]
    dsimp only [List.filterMap, List.getElem?_cons_zero, List.getElem?_cons_succ] at N9
    refine stCN (own := [_, _]) F9 N9 (by with_unfolding_all rfl) (by assumption) (fun p hp => ?_) (fun p hp => nomatch hp) ?_
    · simp only [List.mem_cons, List.not_mem_nil, or_false] at hp
      rcases hp with rfl | rfl
      · exact Ne.symm (Nat.ne_of_lt (by omega))
      · exact Ne.symm (Nat.ne_of_lt (by omega))
    intro h7 o7 F7 N7 d7
    dsimp only [List.cons_append, List.nil_append] at N7
    clear F9 N9
    have hpos : ∀ n ∈ ns ++ [11], (0 : Int) ≤ n := fun n hn => by
      rcases List.mem_append.mp hn with hn | hn
      · exact c2 n hn
      · rw [List.mem_singleton.mp hn]; decide
    have hlen : 1 ≤ (ns ++ [(11 : Int)]).length ∧ (ns ++ [(11 : Int)]).length ≤ 13 := by
      rw [List.length_append, List.length_singleton]; omega
    generalize ns ++ [(11 : Int)] = cs9 at I9 hpos hlen
    have hL9 := I9.length
    clear c1 c2 c3 hR o1 hl' hw9 hwl9
    generalize bindL _ _ _ = m0 at F7
    clear Y ho hg X V B TE TW M
    rename TopD _ _ _ => y1; clear y1
    rename ReadsAll _ _ _ _ => y1; clear y1
    rename Well _ _ _ _ => y1; clear y1
    rename Reads _ _ _ _ => y1; clear y1
    rename ReadsAllW _ _ _ _ _ _ => y1; clear y1
    rename Spec.Shape.has _ _ = true => y1; clear y1
    rename WShape.hasAll _ _ _ = true => y1; clear y1
    rename WData.layableAll _ = true => y1; clear y1
    rename PyData.layable0 _ = true => y1; clear y1
    rename PyData.layableAll0 _ = true => y1; clear y1
    rename True => y1; clear y1
    rename ¬ (_ : Int) < _ => y1; clear y1
    rename Heap.IsList s₁.heap _ _ => y1; clear y1
    rename IntsAre _ (List.take 12 _) => y1; clear y1
    clear e1
    k_extra "n_steps"
    refine' menu_cut ?k1 ?k2 ?_ ?_
    case k1 => k_asm
    case k2 => k_asm
    · repeat' ((fail_if_success (with_reducible show MenuEnd _ _ _ _ _ _ _)); k_extra "my_one")
      all_goals refine ⟨rfl, _, _, _, _, _, _, ?_, rfl, by k_asm, News.dropF (by k_asm)⟩
      exact .head _
      exact .tail _ (.head _)
      exact .tail _ (.tail _ (.head _))
      exact .tail _ (.tail _ (.tail _ (.head _)))
    intro h8 tk8 y8 told8 t18 t28 hmenu F8 N8
    dsimp only
    refine nExecs_cons ?_
    refine wpN_of ?_
    refine' Assign_LA (cl := _) F8 ?k1 ?k2 ?k3 ?k4 ?k5 ?k6 ?k7 ?k8 ?k9 ?_
    case k1 => exact rfl
    case k2 => with_unfolding_all rfl
    case k3 => with_unfolding_all rfl
    case k4 => decide
    case k5 => exact rfl
    case k6 => decide
    case k7 => exact rfl
    case k8 => exact rfl
    case k9 => exact rfl
    k_extra "my_steps"
    with_reducible rename News _ _ _ _ => N9
    rename IntsAre _ (List.take 6 _) => I6
    have hl6 := I6.length
    refine ⟨_, _, _, _, rfl, rfl, by k_asm, N9, .head _, ?_, ?_⟩
    · rw [hl6, sizeLine_eq, List.length_take]; omega
    intro g9
    refine rest_all (fun i v => ∃ y t, v = .str y t ∧ SWc.any (· == y) = true) ?_ (.inr ⟨_, .head _, rfl, _, rfl⟩) ?_
    · intro i v I oI C oC D m₂ ys h tk E' hi hP hC hx F8 N8 off ne
      obtain ⟨n, t, hn, rfl⟩ := ints_at I6 hP
      k_extra "my_steps"
      all_goals exact ⟨_, _, rfl, by k_asm, by k_asm, _, _, rfl, by decide +kernel⟩
    intro ys6 hl6' hR6
    intro D6 h6 tk6 F6 N6 o6
    dsimp only
    obtain ⟨ps6, S6, hm6, hn6⟩ := strs_mk hR6
    have hz6 : 1 ≤ ps6.length ∧ ps6.length ≤ 6 := by
      rw [hn6, hl6', hl6, List.length_take]; omega
    replace N6 := News.picks N6 [0, 3, 5]
    dsimp only [List.filterMap, List.getElem?_cons_zero, List.getElem?_cons_succ] at N6
    clear hR6 o6 hl6' hl6 hn6
    refine nExecs_cons ?_
    refine wpN_of ?_
    refine' Assign_LA (cl := _) F6 ?k1 ?k2 ?k3 ?k4 ?k5 ?k6 ?k7 ?k8 ?k9 ?_
    case k1 => exact rfl
    case k2 => with_unfolding_all rfl
    case k3 => with_unfolding_all rfl
    case k4 => decide
    case k5 => exact rfl
    case k6 => decide
    case k7 => exact rfl
    case k8 => exact rfl
    case k9 => exact rfl
    k_extra "my_steps"
    have hs6 := strs_len S6
    refine ⟨_, ys6, _, _, rfl, rfl, by k_asm, by k_asm, .head _, ?_, ?_⟩
    · rw [hs6, sizeLine_eq]; omega
    intro g9
    refine rest_all (fun i v => ∃ X t y, v = .str X t ∧ ps6[i]? = some y ∧ WordOK X y = true) ?_ (.inr ⟨_, .head _, rfl, _, rfl⟩) ?_
    · intro i v I oI C oC D m₂ ys h tk E' hi hP hC hx F8 N8 off ne
      obtain ⟨y, ty, hy, rfl⟩ := strs_at S6 hP
      have hmy := hm6 y (List.mem_of_getElem? hy)
      rcases sw_cases hmy with rfl | rfl | rfl | rfl | rfl | rfl | rfl | rfl
      all_goals k_extra "my_steps"
      all_goals exact ⟨_, _, rfl, by k_asm, by k_asm, _, _, _, rfl, hy, by decide +kernel⟩
    intro ysS hlS hRS
    intro DS hS tkS FS NS oS
    dsimp only
    obtain ⟨ws9, SS, hps, hws⟩ := words_mk (by rw [hlS, hs6]) hRS
    replace NS := News.picks NS [0, 1]
    dsimp only [List.filterMap, List.getElem?_cons_zero, List.getElem?_cons_succ] at NS
    clear hRS oS hlS F6 N6
    revert FS NS
    repeat (with_reducible rename Fr _ _ _ _ => y1; clear y1)
    repeat (with_reducible rename News _ _ _ _ => y1; clear y1)
    intro FS NS
    clear d7 I9 hpos hlen hL9 e2
    repeat (with_reducible rename IntsAre _ _ => y1; clear y1)
    have htl := menu_len hmenu
    have hwn : ws9.length = ps6.length := by rw [hps, List.length_map]
    have hw20 : ∀ w ∈ ws9.map (fun w => w.map UInt8.toNat), w.length ≤ 20 := fun w hw => by
      obtain ⟨v, hv, rfl⟩ := List.mem_map.mp hw
      rw [List.length_map]; exact (hws v hv).2.1
    have hsum := sum_le hw20
    have hja := join_ascii (cw := ws9.map fun w => w.map UInt8.toNat) (fun w hw c hc => by
      obtain ⟨v, hv, rfl⟩ := List.mem_map.mp hw
      obtain ⟨u, hu, rfl⟩ := List.mem_map.mp hc
      exact isAtom_le ((hws v hv).2.2 u hu))
    have hjl := join_len (ws9.map fun w => w.map UInt8.toNat)
    rw [List.length_map] at hsum hjl
    have hjz : (joinN (ws9.map fun w => w.map UInt8.toNat)).length ≤ 126 := by omega
    k_extra "n_steps"
    refine wpN_of (join_listW ⟨_, (NS _ (.head _)).1, rfl, _, rfl⟩ SS (by decide) ?_ ?_)
    · rw [mk_lens]; simp only [List.length_map]; omega
    intro tj kj
    rw [join_words]
    dsimp only
    k_extra "n_steps"
    refine wpN_of (method_encode ?_)
    dsimp only
    k_extra "n_steps"
    refine wpN_of ?_
    refine encodeA ?_ ?_ ?_
    · exact fun c hc => Nat.lt_succ_of_le (hja c hc)
    · omega
    intro te ke
    obtain ⟨w0, wt, rfl⟩ : ∃ w0 wt, ws9 = w0 :: wt := by
      cases ws9 with
      | nil => simp at hwn; omega
      | cons a b => exact ⟨a, b, rfl⟩
    have hjb := join_bytes w0 wt
    have hjn : w0.length + (sepW wt).length ≤ 126 := by rw [← List.length_append, ← hjb, List.length_map]; exact hjz
    clear hsum hjl hjz hja hw20
    rw [hjb]
    dsimp only
    have HR : StatR w (ExcName.means s₀.heap) mg mb (32 :: (told8 ++ [32, 40] ++ (w0 ++ sepW wt) ++ [41] ++ [41])) y8 ps6 (32 :: (told8 ++ [32, 40] ++ (w0 ++ sepW wt) ++ [41])).length := by
      refine stat_r ?_ ?_ ?_ (menu_tok hmenu) hws (by omega) hps hm6
      · simp only [List.length_append, List.length_cons, List.length_nil]; omega
      · simp only [List.append_assoc, List.cons_append, List.nil_append]
      · simp only [List.length_append, List.length_cons, List.length_nil]; omega
    clear hjb
    repeat' ((fail_if_success (with_reducible show wpN _ _ (compareOp _ _ _) _ _)); first | k_extra "n_step" | k_extra "my_one")
    have hOl : (32 :: (told8 ++ [32, 40] ++ (w0 ++ sepW wt) ++ [41])).length ≤ 200 := by
      simp only [List.length_append, List.length_cons, List.length_nil]; omega
    refine wpN_of (stat_ne (by k_asm) (.head _) (.tail _ (.head _)) (.tail _ (.tail _ (.tail _ (.tail _ (.head _))))) (.tail _ (.tail _ (.tail _ (.tail _ (.tail _ (.head _)))))) (by assumption) S6 (menu_ok hmenu) (fun p hp => sw_ok (hm6 p hp)) (by ke_room) ?_)
    repeat' ((fail_if_success (with_reducible show wpN _ _ (execs _ _) _ _)); first | k_extra "n_step" | k_extra "my_one")
    refine nExecs_nil ?_
    dsimp only
    with_reducible rename Fr _ _ _ _ => F4
    with_reducible rename News _ _ _ _ => N4
    replace N4 := News.picks N4 [4, 5, 7]
    dsimp only [List.filterMap, List.getElem?_cons_zero, List.getElem?_cons_succ] at N4
    clear HR hOl SS
    revert F4 N4
    repeat (with_reducible rename Fr _ _ _ _ => y1; clear y1)
    repeat (with_reducible rename News _ _ _ _ => y1; clear y1)
    intro F4 N4
    obtain ⟨cs0, rfl, hp0, hA0⟩ := menu_as hmenu
    have hcw : ps6 = ((w0 :: wt).map fun w => (w.map UInt8.toNat).map upC).map mkS := by rw [hps, List.map_map]; rfl
    have S6' : StrsAre ys6 (((w0 :: wt).map fun w => (w.map UInt8.toNat).map upC).map mkS) := hcw ▸ S6
    have hcl : ((w0 :: wt).map fun w => (w.map UInt8.toNat).map upC).length ≤ 6 := by rw [List.length_map]; omega
    have hw20 : ∀ w ∈ (w0 :: wt).map (fun w => (w.map UInt8.toNat).map upC), w.length ≤ 20 := fun w hw => by
      obtain ⟨v, hv, rfl⟩ := List.mem_map.mp hw
      rw [List.length_map, List.length_map]; exact (hws v hv).2.1
    have hca : ∀ w ∈ (w0 :: wt).map (fun w => (w.map UInt8.toNat).map upC), ∀ c ∈ w, c ≤ 127 := fun w hw c hc => by
      obtain ⟨v, hv, rfl⟩ := List.mem_map.mp hw
      obtain ⟨u, hu, rfl⟩ := List.mem_map.mp hc
      obtain ⟨b, hb, rfl⟩ := List.mem_map.mp hu
      exact upC_le (isAtom_le ((hws v hv).2.2 b hb))
    generalize (w0 :: wt).map (fun w => (w.map UInt8.toNat).map upC) = cw at hcw S6' hcl hw20 hca
    have hsum := sum_le hw20
    have hja := join_ascii hca
    have hjl := join_len cw
    have hjz : (joinN cw).length ≤ 126 := by omega
    have hjz' : ((joinN cw).map Nat.toUInt8).length ≤ 126 := by rw [List.length_map]; exact hjz
    repeat' ((fail_if_success (with_reducible show wpN _ _ (call (Value.ref 598) _) _ _)); first | k_extra "n_step" | k_extra "my_one")
    dsimp only [List.nil_append, List.cons_append]
    refine' ClN.use (c_write_status _ _ _ cs0 told8 _ _ cw hp0 hA0 ?e1 S6' ?e3 hca) ?k1 ?k2 ?k3 ?k4 ?k5 ?kK ?kd ?ku ?_
    case k1 => k_asm
    case k2 => k_asm
    case k3 => k_asm
    case k4 => k_asm
    case k5 => k_asm
    case kK => first | exact rfl | assumption
    case kd => k_extra "my_room"
    case ku => k_extra "my_units"
    case e1 => exact .head _
    case e3 => omega
    rintro v5 n5 h5 tk5 ⟨t5, rfl, rfl⟩ F5 N5
    dsimp only
    clear F4 N4
    repeat' ((fail_if_success (with_reducible show wpN _ _ (call (Value.builtin "str.join") _) _ _)); first | k_extra "n_step" | k_extra "my_one")
    dsimp only [List.nil_append, List.cons_append]
    refine wpN_of (join_listW ⟨_, (N5 _ (.tail _ (.tail _ (.head _)))).1, rfl, _, rfl⟩ S6' (by decide) ?_ ?_)
    · rw [mk_lens]; simp only [List.length_map]; omega
    intro tj kj
    rw [join_words]
    dsimp only
    k_extra "n_steps"
    refine wpN_of (method_encode ?_)
    dsimp only
    k_extra "n_steps"
    refine wpN_of ?_
    refine encodeA ?_ ?_ ?_
    · exact fun c hc => Nat.lt_succ_of_le (hja c hc)
    · omega
    intro te ke
    dsimp only
    have htl2 := menu_len hmenu
    repeat' ((fail_if_success (with_reducible show wpN _ _ (compareOp _ _ _) _ _)); first | k_extra "n_step" | k_extra "my_one")
    refine wpN_of (ne_same ?_ ?_)
    · simp only [List.append_assoc, List.cons_append, List.nil_append]
    repeat' ((fail_if_success (with_reducible show wpN _ _ (execs _ _) _ _)); first | k_extra "n_step" | k_extra "my_one")
    refine nExecs_nil ?_
    dsimp only
    replace N5 := News.picks N5 []
    dsimp only [List.filterMap] at N5
    replace F5 : ∃ m, Fr s₁.heap s₁.heap.objs.size h5 m := ⟨_, F5⟩
    obtain ⟨m5, F5⟩ := F5
    clear hA0 hp0 hcw S6' hcl hw20 hca hsum hja hjl hjz hjz' htl2 hmenu hm6 hws hps hwn hjn hz6 hs6 htl S6
    repeat' ((fail_if_success (with_reducible show wpN _ _ (eval (Expr.ListComp _ _ _ _) _) _ _)); (fail_if_success (with_reducible show wpN _ _ (exec (Stmt.If _ _ _ _) _) _ _)); first | k_extra "n_step" | k_extra "my_one")
    refine nIf ?_
    refine nTrueCompare ?_
    with_reducible rename Fr _ _ _ _ => F6
    refine wpN_of ?_
    refine' ListComp_B (cl := _) F6 ?k1 ?k2 ?k3 ?k4 ?k5 ?_
    case k1 => with_unfolding_all rfl
    case k2 => decide
    case k3 => exact rfl
    case k4 => decide
    case k5 => exact rfl
    k_extra "my_steps"
    with_reducible rename News _ _ _ _ => N6
    refine ⟨_, _, _, _, rfl, rfl, by k_asm, N6, .head _, Nat.le_of_ble_eq_true rfl, ?_⟩
    intro g9
    refine restT_none ?_ (.inr ⟨_, .head _, rfl, _, rfl⟩) ?_
    · intro i v I oI C oC D m₂ h tk E' hi hP hC hx F8 N8 off ne
      obtain ⟨l, t, rfl, hRS⟩ := bad_all (w := w) (mean := ExcName.means s₀.heap) (mg := mg) (mb := mb) v (List.mem_of_getElem? hP)
      repeat' ((fail_if_success (with_reducible show wpAny _ _ (call (Value.ref 666) _) _ _ _)); (fail_if_success (with_reducible show NoEl _ _ _ _ _ _ _)); k_extra "my_one")
      refine' Cl0.use (c_no_status _ _ _ hRS) ?k1 ?k2 ?k3 ?k4 ?k5 ?kK ?kd ?ku ?_
      case k1 => k_asm
      case k2 => k_asm
      case k3 => k_asm
      case k4 => k_asm
      case k5 => k_asm
      case kK => first | exact rfl | assumption
      case kd => k_extra "my_room"
      case ku => k_extra "my_units"
      rintro v' n' h' _ ⟨rfl, rfl⟩ F' N'
      dsimp only
      repeat' ((fail_if_success (with_reducible show NoEl _ _ _ _ _ _ _)); k_extra "my_one")
      exact ⟨rfl, _, _, rfl, by k_asm, by k_asm⟩
    intro DB hB tkB FB NB oB
    dsimp only
    clear F6 N6
    repeat' ((fail_if_success (with_reducible show wpN _ _ (compareOp _ _ _) _ _)); first | k_extra "n_step" | k_extra "my_one")
    refine wpN_of (lists_ne0 (by k_asm) (.tail _ (.head _)) (.head _) (by ke_room) ?_)
    repeat' ((fail_if_success (with_reducible show wpN _ _ (execs _ _) _ _)); first | k_extra "n_step" | k_extra "my_one")
    refine nExecs_nil ?_
    dsimp only
    with_reducible rename News _ _ _ _ => N6
    with_reducible rename Fr _ _ _ _ => F6
    replace N6 := News.picks N6 []
    dsimp only [List.filterMap] at N6
    revert F6 N6
    repeat (with_reducible rename Fr _ _ _ _ => y1; clear y1)
    repeat (with_reducible rename News _ _ _ _ => y1; clear y1)
    intro F6 N6
    replace F6 : ∃ m, Fr s₁.heap s₁.heap.objs.size _ m := ⟨_, F6⟩
    obtain ⟨m6, F6⟩ := F6
    k_extra "n_steps"
    exact ⟨rfl, _, _, _, rfl, by k_asm⟩
end
end
end Mine
theorem PySem.Challenge.cw_pq0950_01_holds : PySem.Challenge.rw_pq0950_01.Holds :=
  Mine.law_entry
